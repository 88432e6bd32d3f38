import PyProof.Rows.All
import Wide.All
import OpenK.AllK
import Wide.FinOn
import HandS.ForMost
import HandS.ForExc
import HandS.Wide
import HandS.WideBits
import HandS.IsInst
import HandS.Conv
import HandS.Walk
import HandS.SortInts
import HandS.SortRule
import HandS.Nested
import HandS.More
import HandS.Defaults
import HandS.EndTab
import HandS.Rev
import HandS.RevTup
import HandS.SortKw
import KE.DataMinMax
import HandS.Dict
import HandS.Style
import KE.DataCmp
import KE.KDictCopyH
import HandS.MakeKw
import HandS.CallLocal
import HandS.CallSlots
import HandS.ExcIs
import HandS.ExcInit
import HandS.StrMore
import HandS.Zip
import PySem.Challenge.RW_sorthall_k83_rules_read
set_option Elab.async false
set_option linter.all false
set_option maxRecDepth 100000
set_option maxHeartbeats 4000000
/-! SHA: steps of the heap, rules that look at the values themselves, readings one by one -/
namespace SH
open PySem PySem.Spec PyProof.Rows L2

/-! ### what a heap becomes -/
/-- what never changes -/
def Fix : HO → Prop
  | .tup _ => True
  | .ext _ => True
  | .frz _ _ => True
  | _ => False
/-- H' has all that H has, but what stands at M may be another (no tuple, no function, no cell) -/
structure Stp (M : List Addr) (H H' : Hp) : Prop where
  same : ∀ b o, H b = some o → (b ∉ M ∨ Fix o) → H' b = some o
  dom : ∀ b, H' b = none → H b = none
theorem Stp.refl (M : List Addr) (H : Hp) : Stp M H H := ⟨fun _ _ h _ => h, fun _ h => h⟩
theorem Stp.mono {M M' : List Addr} {H H' : Hp} (s : Stp M H H') (h : ∀ b ∈ M, b ∈ M') : Stp M' H H' := ⟨fun b o e n => s.same b o e (n.imp (fun n z => n (h b z)) id), s.dom⟩
theorem Stp.trans {M : List Addr} {H H1 H2 : Hp} (a : Stp M H H1) (b : Stp M H1 H2) : Stp M H H2 := ⟨fun c o e n => b.same c o (a.same c o e n) n, fun c h => a.dom c (b.dom c h)⟩
/-- what the second changes is new, or the first one's -/
theorem Stp.then {M M' : List Addr} {H H1 H2 : Hp} (a : Stp M H H1) (b : Stp M' H1 H2) (h : ∀ m ∈ M', m ∈ M ∨ H m = none) : Stp M H H2 :=
  ⟨fun c o e n => b.same c o (a.same c o e n) (n.imp (fun n z => (h c z).elim n fun q => (by rw [q] at e; cases e)) id), fun c h => a.dom c (b.dom c h)⟩
theorem Stp.then0 {M : List Addr} {H H1 H2 : Hp} (a : Stp M H H1) (b : Stp [] H1 H2) : Stp M H H2 := a.then b (by simp)
theorem Stp.new {M : List Addr} {H H1 : Hp} {p : Addr} {o : HO} (a : Stp M H H1) (h : H1 p = none) : Stp M H (upd H1 p o) :=
  ⟨fun c u e n => by have q := a.same c u e n; rw [upd_ne (ne_of_none q h)]; exact q, fun c q => a.dom c (by
    by_cases z : c = p
    · subst z; exact h
    · rw [upd_ne z] at q; exact q)⟩
theorem Stp.putM {M : List Addr} {H H1 : Hp} {p : Addr} {o o1 : HO} (a : Stp M H H1) (h : p ∈ M) (h1 : H1 p = some o1) (nf : ¬ Fix o1) : Stp M H (upd H1 p o) :=
  ⟨fun c u e n => by
    by_cases z : c = p
    · subst z
      rcases n with n | n
      · exact (n h).elim
      · have q := a.same c u e (.inr n)
        rw [h1] at q; cases q; exact (nf n).elim
    · rw [upd_ne z]; exact a.same c u e n, fun c q => a.dom c (by
    by_cases z : c = p
    · subst z; rw [upd_same] at q; cases q
    · rw [upd_ne z] at q; exact q)⟩
theorem Stp.putN {M : List Addr} {H H1 : Hp} {p : Addr} {o : HO} (a : Stp M H H1) (h : H p = none) : Stp M H (upd H1 p o) :=
  ⟨fun c u e n => by
    rw [upd_ne (fun z => by subst z; rw [h] at e; cases e)]
    exact a.same c u e n, fun c q => a.dom c (by
    by_cases z : c = p
    · subst z; rw [upd_same] at q; cases q
    · rw [upd_ne z] at q; exact q)⟩
theorem Stp.free {M : List Addr} {H H' : Hp} {p : Addr} (s : Stp M H H') (h : H' p = none) : H p = none := s.dom p h
theorem Stp.keep {M : List Addr} {H H' : Hp} {p : Addr} {o : HO} (s : Stp M H H') (h : H p = some o) (n : p ∉ M) : H' p = some o := s.same p o h (.inl n)
theorem Stp.keep0 {H H' : Hp} {p : Addr} {o : HO} (s : Stp [] H H') (h : H p = some o) : H' p = some o := s.same p o h (.inl (by simp))
theorem Stp.fix {M : List Addr} {H H' : Hp} {p : Addr} {o : HO} (s : Stp M H H') (h : H p = some o) (n : Fix o) : H' p = some o := s.same p o h (.inr n)
theorem Stp.tup {M : List Addr} {H H' : Hp} {p : Addr} {xs : List V} (s : Stp M H H') (h : H p = some (.tup xs)) : H' p = some (.tup xs) := s.fix h True.intro
theorem Stp.keep1 {m : Addr} {H H' : Hp} {p : Addr} {o : HO} (s : Stp [m] H H') (h : H p = some o) (n : p ≠ m) : H' p = some o := s.same p o h (.inl (by simpa using n))
theorem Stp.rd {M : List Addr} {H H' : Hp} {a : Addr} {u : HO} (s : Stp M H H') (h : Rd H a u) (n : a ∉ M) : Rd H' a u := by
  rcases h with h | ⟨o, h⟩
  · exact .inl (s.same _ _ h (.inl n))
  · exact .inr ⟨o, s.same _ _ h (.inr True.intro)⟩
theorem Stp.sql {K : PySem.W.Frag} {M : List Addr} {H H' : Hp} {a : Addr} {xs : List V} (s : Stp M H H') (h : SqL K H a xs) (n : a ∉ M) : SqL K H' a xs := by
  rcases h with h | h
  · exact .inl (s.rd h n)
  · exact .inr h
theorem Stp.sqt {K : PySem.W.Frag} {M : List Addr} {H H' : Hp} {a : Addr} {xs : List V} (s : Stp M H H') (h : SqT K H a xs) (n : a ∉ M) : SqT K H' a xs := by
  rcases h with h | h
  · exact .inl (s.rd h n)
  · exact .inr h
theorem Stp.sqtM {K : PySem.W.Frag} {M : List Addr} {H H' : Hp} {a : Addr} {xs : List V} (s : Stp M H H') (h : SqT K H a xs) : SqT K H' a xs := by
  rcases h with (h | ⟨o, h⟩) | h
  · exact .inl (.inl (s.fix h True.intro))
  · exact .inl (.inr ⟨o, s.fix h True.intro⟩)
  · exact .inr h
theorem Stp.sql1 {K : PySem.W.Frag} {m : Addr} {H H' : Hp} {a : Addr} {xs : List V} (s : Stp [m] H H') (h : SqL K H a xs) (n : a ≠ m) : SqL K H' a xs := s.sql h (by simpa using n)
theorem Stp.sql0 {K : PySem.W.Frag} {H H' : Hp} {a : Addr} {xs : List V} (s : Stp [] H H') (h : SqL K H a xs) : SqL K H' a xs := s.sql h (by simp)
theorem Stp.sqt0 {K : PySem.W.Frag} {H H' : Hp} {a : Addr} {xs : List V} (s : Stp [] H H') (h : SqT K H a xs) : SqT K H' a xs := s.sqt h (by simp)
theorem Stp.not {M : List Addr} {H H' : Hp} {p : Addr} (s : Stp M H H') (h : H' p = none) (hm : ∀ m ∈ M, H m ≠ none) : p ∉ M := fun z => hm p z (s.dom p h)
theorem upd_old {H : Hp} {a p : Addr} {o u : HO} (h : H a = some o) (hp : H p = none) : upd H p u a = some o := by rw [upd_ne (ne_of_none h hp)]; exact h
theorem upd_far {H : Hp} {a p : Addr} {o : Option HO} {u : HO} (n : a ≠ p) (h : H a = o) : upd H p u a = o := by rw [upd_ne n]; exact h
theorem upd_free {H : Hp} {a p : Addr} {u : HO} (h : upd H p u a = none) : H a = none ∧ a ≠ p := by
  by_cases z : a = p
  · subst z; rw [upd_same] at h; cases h
  · rw [upd_ne z] at h; exact ⟨h, z⟩
theorem sql_upd {K : PySem.W.Frag} {H : Hp} {a p : Addr} {xs : List V} {u : HO} (h : SqL K H a xs) (hp : H p = none) : SqL K (upd H p u) a xs := (Stp.refl [] H |>.new hp).sql h (by simp)
theorem sqt_upd {K : PySem.W.Frag} {H : Hp} {a p : Addr} {xs : List V} {u : HO} (h : SqT K H a xs) (hp : H p = none) : SqT K (upd H p u) a xs := (Stp.refl [] H |>.new hp).sqt h (by simp)
theorem sql_far {K : PySem.W.Frag} {H : Hp} {a p : Addr} {xs : List V} {u : HO} (h : SqL K H a xs) (n : a ≠ p) : SqL K (upd H p u) a xs := by
  rcases h with (h | ⟨o, h⟩) | h
  · exact .inl (.inl (upd_far n h))
  · exact .inl (.inr ⟨o, upd_far n h⟩)
  · exact .inr h
theorem sqt_far {K : PySem.W.Frag} {H : Hp} {a p : Addr} {xs : List V} {u : HO} (h : SqT K H a xs) (n : a ≠ p) : SqT K (upd H p u) a xs := by
  rcases h with (h | ⟨o, h⟩) | h
  · exact .inl (.inl (upd_far n h))
  · exact .inl (.inr ⟨o, upd_far n h⟩)
  · exact .inr h

/-! ### the slots -/
theorem set_z {x y : Option V} {xs : L2.St} : (x :: xs).set 0 y = y :: xs := rfl
theorem set_s {x y : Option V} {xs ys : L2.St} {n : Nat} (h : xs.set n y = ys) : (x :: xs).set (n + 1) y = x :: ys := by subst h; rfl
theorem get_z {x : V} {xs : L2.St} : (some x :: xs)[0]? = some (some x) := rfl
theorem get_s {x : Option V} {xs : L2.St} {n : Nat} {v : V} (h : xs[n]? = some (some v)) : (x :: xs)[n + 1]? = some (some v) := h

/-! ### two-place operations by the values -/
/-- the ways of + -/
def aAdd (K : PySem.W.Frag) : R2 := fun x y H Q => match x, y with
  | .int i, .int j => Q (.int (i + j)) H
  | .str a, .str b => a.length + b.length ≤ sizeLine ∧ Q (.str (a ++ b)) H
  | .ref a, .ref b => (∃ xs ys, H a = some (.lst xs) ∧ H b = some (.lst ys) ∧ xs.length + ys.length ≤ sizeLine ∧ ∀ p, H p = none → Q (.ref p) (upd H p (.lst (xs ++ ys)))) ∨ rCatT K (.ref a) (.ref b) H Q
  | _, _ => False
def aSub : R2 := fun x y H Q => match x, y with
  | .int i, .int j => Q (.int (i - j)) H
  | _, _ => False
def aMul : R2 := fun x y H Q => match x, y with
  | .int i, .int j => IntMulOk i j ∧ Q (.int (i * j)) H
  | .str a, .int k => PySem.MulOk a k ∧ Q (.str (PySem.Txt.mul a k)) H
  | .ref a, .int k => ∃ xs, H a = some (.lst xs) ∧ -(2 ^ 63) ≤ k ∧ k < 2 ^ 63 ∧ xs.length * k.toNat ≤ sizeLine ∧ ∀ p, H p = none → Q (.ref p) (upd H p (.lst ((List.replicate k.toNat xs).flatten)))
  | _, _ => False
def aDiv : R2 := fun x y H Q => match x, y with
  | .int i, .int j => 0 < j ∧ Builtin.divisionGoesByPylong i j = false ∧ Q (.int (i / j)) H
  | _, _ => False
def aMod : R2 := fun x y H Q => match x, y with
  | .int i, .int j => 0 < j ∧ Q (.int (i % j)) H
  | _, _ => False
def aPow : R2 := fun x y H Q => match x, y with
  | .int i, .int j => CPow i j ∧ Q (.int (i ^ j.toNat)) H
  | _, _ => False
def aShl : R2 := fun x y H Q => match x, y with
  | .int i, .int j => CShl i j ∧ Q (.int (i * 2 ^ j.toNat)) H
  | _, _ => False
def aShr : R2 := fun x y H Q => match x, y with
  | .int i, .int j => 0 ≤ j ∧ Q (.int (i / 2 ^ j.toNat)) H
  | _, _ => False
def aAnd : R2 := fun x y H Q => match x, y with
  | .int i, .int j => Q (.int (Builtin.bitAnd i j)) H
  | _, _ => False
def aLt (K : PySem.W.Frag) : R2 := fun x y H Q => match x, y with
  | .int i, .int j => Q (.bl (decide (i < j))) H
  | .str i, .str j => Q (.bl (decide (i.cps.toList < j.cps.toList))) H
  | .ref a, .ref b => rLtT K (.ref a) (.ref b) H Q
  | _, _ => False
def aLe : R2 := fun x y H Q => match x, y with
  | .int i, .int j => Q (.bl (decide (i ≤ j))) H
  | _, _ => False
def aGt : R2 := fun x y H Q => match x, y with
  | .int i, .int j => Q (.bl (decide (j < i))) H
  | _, _ => False
def aGe : R2 := fun x y H Q => match x, y with
  | .int i, .int j => Q (.bl (decide (j ≤ i))) H
  | _, _ => False
def aEq (K : PySem.W.Frag) : R2 := fun x y H Q => (scal x y = true ∧ Q (.bl (decide (x = y))) H) ∨ rEqD K x y H Q
def aNe (K : PySem.W.Frag) : R2 := fun x y H Q => (scal x y = true ∧ Q (.bl (!decide (x = y))) H) ∨ rNeD K x y H Q
def aIsN : R2 := fun x y H Q => y = .non ∧ Q (.bl (decide (x = .non))) H
def aNotN : R2 := fun x y H Q => y = .non ∧ Q (.bl (!decide (x = .non))) H

section
variable {X : Cx}
theorem oAdd : OpR X (binaryOp .Add) (aAdd X.K) := by
  intro pins s σ H x y v u Q I rx ry h
  cases x <;> cases y <;> first | exact False.elim h | skip
  · exact op_add pins s σ H _ _ v u Q I rx ry ⟨_, _, rfl, rfl, h⟩
  · exact op_add_str pins s σ H _ _ v u Q I rx ry ⟨_, _, rfl, rfl, h.1, h.2⟩
  · rcases h with ⟨xs, ys, h1, h2, h3, h4⟩ | h
    · exact op_cat pins s σ H _ _ v u Q I rx ry ⟨_, _, xs, ys, rfl, rfl, h1, h2, h3, h4⟩
    · exact op_catT pins s σ H _ _ v u Q I rx ry h
theorem oSub : OpR X (binaryOp .Sub) aSub := by
  intro pins s σ H x y v u Q I rx ry h
  cases x <;> cases y <;> first | exact False.elim h | skip
  exact op_sub pins s σ H _ _ v u Q I rx ry ⟨_, _, rfl, rfl, h⟩
theorem oMul : OpR X (binaryOp .Mult) aMul := by
  intro pins s σ H x y v u Q I rx ry h
  cases x <;> cases y <;> first | exact False.elim h | skip
  · obtain ⟨t, rfl⟩ := rx
    obtain ⟨t', rfl⟩ := ry
    exact mul_int ⟨.int _, H, I.tok _, ⟨_, rfl⟩, h.2⟩ h.1
  · obtain ⟨t, rfl⟩ := rx
    obtain ⟨t', rfl⟩ := ry
    exact PySem.SB.mul h.1 fun t' k => ⟨.str _, H, I.tok _, ⟨_, rfl⟩, h.2⟩
  · obtain ⟨xs, h1, h2, h3, h4, h5⟩ := h
    exact op_rep pins s σ H _ _ v u Q I rx ry ⟨_, _, xs, rfl, rfl, h1, h2, h3, h4, h5⟩
theorem oDiv : OpR X (binaryOp .FloorDiv) aDiv := by
  intro pins s σ H x y v u Q I rx ry h
  cases x <;> cases y <;> first | exact False.elim h | skip
  obtain ⟨t, rfl⟩ := rx
  obtain ⟨t', rfl⟩ := ry
  obtain ⟨h0, h1, q⟩ := h
  exact floordiv_int (by omega) (by rw [Int.fdiv_eq_ediv_of_nonneg _ (by omega)]; exact ⟨.int _, H, I.tok _, ⟨_, rfl⟩, q⟩) (.inl h1)
theorem oMod : OpR X (binaryOp .Mod) aMod := by
  intro pins s σ H x y v u Q I rx ry h
  cases x <;> cases y <;> first | exact False.elim h | skip
  exact op_mod pins s σ H _ _ v u Q I rx ry ⟨_, _, rfl, rfl, h⟩
theorem oPow : OpR X (binaryOp .Pow) aPow := by
  intro pins s σ H x y v u Q I rx ry h
  cases x <;> cases y <;> first | exact False.elim h | skip
  exact op_pow pins s σ H _ _ v u Q I rx ry ⟨_, _, rfl, rfl, h⟩
theorem oShl : OpR X (binaryOp .LShift) aShl := by
  intro pins s σ H x y v u Q I rx ry h
  cases x <;> cases y <;> first | exact False.elim h | skip
  exact op_shlW pins s σ H _ _ v u Q I rx ry ⟨_, _, rfl, rfl, h⟩
theorem oShr : OpR X (binaryOp .RShift) aShr := by
  intro pins s σ H x y v u Q I rx ry h
  cases x <;> cases y <;> first | exact False.elim h | skip
  exact op_shr pins s σ H _ _ v u Q I rx ry ⟨_, _, rfl, rfl, h⟩
theorem oAnd : OpR X (binaryOp .BitAnd) aAnd := by
  intro pins s σ H x y v u Q I rx ry h
  cases x <;> cases y <;> first | exact False.elim h | skip
  exact op_and pins s σ H _ _ v u Q I rx ry ⟨_, _, rfl, rfl, h⟩
theorem oLt (hu : X.A.units < cLine) : OpR X (compareOp .Lt) (aLt X.K) := by
  intro pins s σ H x y v u Q I rx ry h
  cases x <;> cases y <;> first | exact False.elim h | skip
  · exact op_lt pins s σ H _ _ v u Q I rx ry ⟨_, _, rfl, rfl, h⟩
  · exact op_lt_str pins s σ H _ _ v u Q I rx ry ⟨_, _, rfl, rfl, h⟩
  · exact op_ltT hu pins s σ H _ _ v u Q I rx ry h
theorem oLe : OpR X (compareOp .LtE) aLe := by
  intro pins s σ H x y v u Q I rx ry h
  cases x <;> cases y <;> first | exact False.elim h | skip
  exact op_le pins s σ H _ _ v u Q I rx ry ⟨_, _, rfl, rfl, h⟩
theorem oGt : OpR X (compareOp .Gt) aGt := by
  intro pins s σ H x y v u Q I rx ry h
  cases x <;> cases y <;> first | exact False.elim h | skip
  exact op_gt pins s σ H _ _ v u Q I rx ry ⟨_, _, rfl, rfl, h⟩
theorem oGe : OpR X (compareOp .GtE) aGe := by
  intro pins s σ H x y v u Q I rx ry h
  cases x <;> cases y <;> first | exact False.elim h | skip
  exact op_ge pins s σ H _ _ v u Q I rx ry ⟨_, _, rfl, rfl, h⟩
theorem oEq (hu : X.A.units + 64 < cLine) : OpR X (compareOp .Eq) (aEq X.K) := op_eq.or (op_eqD hu)
theorem oNe (hu : X.A.units + 64 < cLine) : OpR X (compareOp .NotEq) (aNe X.K) := op_ne.or (op_neD hu)
theorem oIsN : OpR X (compareOp .Is) aIsN := op_isN
theorem oNotN : OpR X (compareOp .IsNot) aNotN := op_notN
theorem ipAdd : PIp X .Add (fun x y H Q => match x, y with
  | .int i, .int j => Q (.int (i + j)) H
  | _, _ => False) := by
  intro pins s σ H x y v u Q I rx ry h
  cases x <;> cases y <;> first | exact False.elim h | skip
  exact ip_add pins s σ H _ _ v u Q I rx ry ⟨_, _, rfl, rfl, h⟩
theorem ipSub : PIp X .Sub (fun x y H Q => match x, y with
  | .int i, .int j => Q (.int (i - j)) H
  | _, _ => False) := by
  intro pins s σ H x y v u Q I rx ry h
  cases x <;> cases y <;> first | exact False.elim h | skip
  exact ip_sub pins s σ H _ _ v u Q I rx ry ⟨_, _, rfl, rfl, h⟩
end
end SH

set_option Elab.async false
set_option linter.all false
set_option maxRecDepth 100000
set_option maxHeartbeats 4000000
/-! SHB: readings, one lemma a word -/
namespace SH
open PySem PySem.Spec PyProof.Rows L2

section
variable {K : PySem.W.Frag} {D : Ends} {σ σ' : L2.St} {H : Hp} {Q : VK} {QA : List V → Hp → Prop} {QT : Bool → Hp → Prop} {QO : Option Int → Hp → Prop} {QG : L2.St → Hp → Prop} {i j : Nat} {v x y : V} {vs : List V} {ta tb tc te : TE} {t u tt : TT} {tr as : TA} {t1 t2 : TS} {g : TG} {gs : TGs} {r r' : R2} {b : Bool} {A B : Prop}

/-! the start -/
theorem st_c {x : Str} {N : List Str} {v : V} {vs : List V} {τ : L2.St} (h : L2.start N vs = τ) : L2.start (x :: N) (v :: vs) = some v :: τ := by
  rw [← h]; show _ :: (_ ++ List.replicate (N.length + 1 - (vs.length + 1)) none) = _; rw [Nat.add_sub_add_right]; rfl
theorem st_n {x : Str} {N : List Str} {τ : L2.St} (h : L2.start N [] = τ) : L2.start (x :: N) [] = none :: τ := by rw [← h]; rfl
theorem st_z : L2.start [] [] = [] := rfl
theorem r_start {N : List Str} {t : TS} (e : L2.start N vs = σ) (h : t D σ H) : t D (L2.start N vs) H := by rw [e]; exact h

theorem wp_z {f : Str × Nat → Nat} : wipe σ (List.map f []) = σ := rfl
theorem wp_s {a : Str} {n : Nat} {l : List (Str × Nat)} {τ τ' : L2.St} (h : wipe σ (l.map (fun x => x.2)) = τ) (e : τ.set n none = τ') : wipe σ (((a, n) :: l).map (fun x => x.2)) = τ' := by
  show (wipe σ (l.map (fun x => x.2))).set n none = τ'
  rw [h, e]
theorem r_gnw {ws : List Nat} {τ : L2.St} (e : wipe σ ws = τ) (h : gName i v τ H QG) : gName i v (wipe σ ws) H QG := by rw [e]; exact h
theorem r_gtw {ws : List Nat} {n : Nat} {τ : L2.St} (e : wipe σ ws = τ) (h : gTup K n gs v τ H QG) : gTup K n gs v (wipe σ ws) H QG := by rw [e]; exact h
theorem r_wp {ws : List Nat} {τ : L2.St} (e : wipe σ ws = wipe τ ws) (h : A) : wipe σ ws = wipe τ ws ∧ A := ⟨e, h⟩

/-! statements -/
theorem r_seq (h : t1 { D with nx := t2 D } σ H) : tSeq t1 t2 D σ H := h
theorem r_next (h : D.nx σ H) : tNext D σ H := h
theorem r_nx (e : σ.set i (some v) = σ') (h : D.nx σ' H) : D.nx (σ.set i (some v)) H := by rw [e]; exact h
theorem r_asg (h : te σ H fun x H1 => g x σ H1 D.nx) : tAsg te g D σ H := h
theorem r_gname (e : σ.set i (some v) = σ') (h : QG σ' H) : gName i v σ H QG := by subst e; exact h
theorem r_aug {rd : TIp} (hx : σ[i]? = some (some x)) (h : te σ H fun y H1 => rd x y H1 fun z H2 => D.nx (σ.set i (some z)) H2) : tAug i te rd D σ H := ⟨x, hx, h⟩
theorem r_drop (h : te σ H fun _ H1 => D.nx σ H1) : tDrop te D σ H := h
theorem r_ret (h : te σ H D.rt) : tRet te D σ H := h
theorem r_retN (h : D.rt .non H) : tRetN D σ H := h
theorem r_ifS (h : tt σ H fun b H1 => if b = true then t1 D σ H1 else t2 D σ H1) : tIfS tt t1 t2 D σ H := h
theorem r_brk (h : D.bk σ H) : tBreak D σ H := h
theorem r_cont (h : D.ct σ H) : tCont D σ H := h
theorem r_gtup {n : Nat} {a : Addr} {xs : List V} (hq : SqT K H a xs) (hl : xs.length = n) (h : gs xs σ H QG) : gTup K n gs (.ref a) σ H QG := ⟨a, xs, rfl, hq, hl, h⟩
theorem r_glst {n : Nat} {a : Addr} {xs : List V} (hq : SqL K H a xs) (hl : xs.length = n) (h : gs xs σ H QG) : gLst K n gs (.ref a) σ H QG := ⟨a, xs, rfl, hq, hl, h⟩
theorem r_gcons (h : g v σ H fun σ' H' => gs vs σ' H' QG) : gCons g gs (v :: vs) σ H QG := ⟨v, vs, rfl, h⟩
theorem r_gnil (h : QG σ H) : gNil [] σ H QG := ⟨rfl, h⟩
theorem r_gsub {to ti : TE} {ts : TSet} (h : to σ H fun o H1 => ti σ H1 fun i H2 => ts o i v H2 fun H3 => QG σ H3) : gSub to ti ts v σ H QG := h

/-! expressions -/
theorem r_var (h : σ[i]? = some (some v)) (k : Q v H) : tVar i σ H Q := ⟨v, h, k⟩
theorem r_c (k : Q v H) : tC v σ H Q := k
theorem r_op (h : ta σ H fun x H1 => tb σ H1 fun y H2 => r x y H2 Q) : tOp r ta tb σ H Q := h
theorem r_un {ru : V → Hp → VK → Prop} (h : ta σ H fun x H1 => ru x H1 Q) : tUn ru ta σ H Q := h
theorem r_neg {n : Int} (k : Q (.int (-n)) H) : rU (fun i => .int (-i)) (.int n) H Q := ⟨n, rfl, k⟩
theorem r_if (h : t σ H fun c H1 => if c = true then ta σ H1 Q else tb σ H1 Q) : tIf t ta tb σ H Q := h
theorem r_nil (h : QA [] H) : tNil σ H QA := h
theorem r_cons (h : ta σ H fun x H1 => tr σ H1 fun xs H2 => QA (x :: xs) H2) : tCons ta tr σ H QA := h
def kTup (Q : VK) : List V → Hp → Prop := fun xs H1 => xs.length ≤ sizeLine ∧ ∀ p, H1 p = none → Q (.ref p) (upd H1 p (.tup xs))
def kLst (Q : VK) : List V → Hp → Prop := fun xs H1 => xs.length ≤ sizeLine ∧ ∀ p, H1 p = none → Q (.ref p) (upd H1 p (.lst xs))
theorem r_tup (h : as σ H (kTup Q)) : tTup as σ H Q := h
theorem r_lst (h : as σ H (kLst Q)) : tLst as σ H Q := h
theorem v_tup (hl : vs.length ≤ 1000) (h : ∀ p, H p = none → Q (.ref p) (upd H p (.tup vs))) : kTup Q vs H := ⟨Nat.le_trans hl (by decide), h⟩
theorem v_lst (hl : vs.length ≤ 1000) (h : ∀ p, H p = none → Q (.ref p) (upd H p (.lst vs))) : kLst Q vs H := ⟨Nat.le_trans hl (by decide), h⟩
theorem v_tup2 (h : ∀ p, H p = none → Q (.ref p) (upd H p (.tup [x, y]))) : kTup Q [x, y] H := v_tup (by simp) h
theorem v_tup3 (h : ∀ p, H p = none → Q (.ref p) (upd H p (.tup [x, y, v]))) : kTup Q [x, y, v] H := v_tup (by simp) h
theorem v_lst0 (h : ∀ p, H p = none → Q (.ref p) (upd H p (.lst []))) : kLst Q [] H := v_lst (by simp) h
theorem v_lst1 (h : ∀ p, H p = none → Q (.ref p) (upd H p (.lst [x]))) : kLst Q [x] H := v_lst (by simp) h
theorem v_lst2 (h : ∀ p, H p = none → Q (.ref p) (upd H p (.lst [x, y]))) : kLst Q [x, y] H := v_lst (by simp) h
theorem v_lst3 (h : ∀ p, H p = none → Q (.ref p) (upd H p (.lst [x, y, v]))) : kLst Q [x, y, v] H := v_lst (by simp) h
theorem v_lst4 {z : V} (h : ∀ p, H p = none → Q (.ref p) (upd H p (.lst [x, y, v, z]))) : kLst Q [x, y, v, z] H := v_lst (by simp) h
theorem r_len0 {n : Nat} (h : n ≤ 1000) : n ≤ sizeLine := Nat.le_trans h (by decide)
theorem r_call {sp : Sp} {dvs : List V} {E : XK} (h : as σ H fun vs H1 => sp (vs ++ dvs) H1 Q E) : tCall sp dvs E as σ H Q := h
theorem r_cb {rc : List V → Hp → VK → Prop} (h : as σ H fun vs H1 => rc vs H1 Q) : tCB rc as σ H Q := h
theorem r_andV (h : ta σ H fun x H1 => ∃ c, x = .bl c ∧ if c = true then tb σ H1 Q else Q (.bl false) H1) : tAndV ta tb σ H Q := h
theorem r_orV (h : ta σ H fun x H1 => ∃ c, x = .bl c ∧ if c = true then Q (.bl true) H1 else tb σ H1 Q) : tOrV ta tb σ H Q := h
theorem r_notV (h : ta σ H fun x H1 => ∃ c, x = .bl c ∧ Q (.bl (!c)) H1) : tNotV ta σ H Q := h
theorem r_bl {P : Bool → Prop} (h : P b) : ∃ c, V.bl b = .bl c ∧ P c := ⟨b, rfl, h⟩
theorem r_test (h : te σ H fun x H1 => ∃ k, x = .bl k ∧ QT k H1) : tTest te σ H QT := h
theorem r_B (h : te σ H fun x H1 => ∃ k, x = .bl k ∧ QT k H1) : tB te σ H QT := h
theorem r_and (h : t σ H fun c H1 => if c = true then u σ H1 QT else QT false H1) : tAnd t u σ H QT := h
theorem r_or (h : t σ H fun c H1 => if c = true then QT true H1 else u σ H1 QT) : tOr t u σ H QT := h
theorem r_not (h : t σ H fun c H1 => QT (!c) H1) : tNot t σ H QT := h
theorem r_yes (h : QT true H) : tYes σ H QT := h
theorem r_nopart (h : QO none H) : tNoPart σ H QO := h
theorem r_part (h : te σ H fun x H1 => ∃ i, x = .int i ∧ QO (some i) H1) : tPart te σ H QO := h
theorem r_int {P : Int → Prop} {n : Int} (h : P n) : ∃ i, V.int n = .int i ∧ P i := ⟨n, rfl, h⟩
theorem r_sl {rs : V → Option Int → Option Int → Hp → VK → Prop} {tl th : TO} (h : te σ H fun x H1 => tl σ H1 fun l H2 => th σ H2 fun u H3 => rs x l u H3 Q) : tSl rs te tl th σ H Q := h
theorem r_chain (h : ta σ H fun x H1 => tb σ H1 fun y H2 => r x y H2 fun z H3 => ∃ k, z = .bl k ∧ (if k = true then tc σ H3 fun w' H4 => r' y w' H4 Q else Q (.bl false) H3)) : tChain r r' ta tb tc σ H Q := h
theorem r_bm {T : String} {rb : V → List V → Hp → VK → Prop} (h : te σ H fun x H1 => tyV K T x H1 ∧ as σ H1 fun xs H2 => rb x xs H2 Q) : tBM K T rb te as σ H Q := h
theorem r_bm0 {T : String} {rb : V → List V → Hp → VK → Prop} (h : te σ H fun x H1 => tyV K T x H1 ∧ rb x [] H1 Q) : tBM0 K T rb te σ H Q := h

/-! values -/
theorem v_addI {n m : Int} (h : Q (.int (n + m)) H) : aAdd K (.int n) (.int m) H Q := h
theorem v_addL {a c : Addr} {xs ys : List V} (h1 : H a = some (.lst xs)) (h2 : H c = some (.lst ys)) (h3 : xs.length + ys.length ≤ sizeLine) (h : ∀ p, H p = none → Q (.ref p) (upd H p (.lst (xs ++ ys)))) : aAdd K (.ref a) (.ref c) H Q := .inl ⟨xs, ys, h1, h2, h3, h⟩
theorem v_subI {n m : Int} (h : Q (.int (n - m)) H) : aSub (.int n) (.int m) H Q := h
theorem v_mulI {n m : Int} (h0 : IntMulOk n m) (h : Q (.int (n * m)) H) : aMul (.int n) (.int m) H Q := ⟨h0, h⟩
theorem v_mulL {a : Addr} {k : Int} {xs : List V} (h1 : H a = some (.lst xs)) (h2 : -(2 ^ 63) ≤ k ∧ k < 2 ^ 63) (h3 : xs.length * k.toNat ≤ sizeLine) (h : ∀ p, H p = none → Q (.ref p) (upd H p (.lst ((List.replicate k.toNat xs).flatten)))) : aMul (.ref a) (.int k) H Q := ⟨xs, h1, h2.1, h2.2, h3, h⟩
theorem v_div {n m : Int} (h0 : 0 < m) (h1 : Builtin.divisionGoesByPylong n m = false) (h : Q (.int (n / m)) H) : aDiv (.int n) (.int m) H Q := ⟨h0, h1, h⟩
theorem v_divS {n m : Int} (h0 : 0 < m) (h1 : m < 1073741824) (h : Q (.int (n / m)) H) : aDiv (.int n) (.int m) H Q := ⟨h0, PyProof.noPylong_small (by omega), h⟩
theorem v_divW {n m : Int} (h0 : 0 < m) (h1 : m.natAbs.log2 < 9000) (h : Q (.int (n / m)) H) : aDiv (.int n) (.int m) H Q := ⟨h0, PyProof.noPylong_of_log2 h1, h⟩
theorem v_mod {n m : Int} (h0 : 0 < m) (h : Q (.int (n % m)) H) : aMod (.int n) (.int m) H Q := ⟨h0, h⟩
theorem v_pow {n m : Int} (h0 : CPow n m) (h : Q (.int (n ^ m.toNat)) H) : aPow (.int n) (.int m) H Q := ⟨h0, h⟩
theorem v_shl {n m : Int} (h0 : CShl n m) (h : Q (.int (n * 2 ^ m.toNat)) H) : aShl (.int n) (.int m) H Q := ⟨h0, h⟩
theorem v_shr {n m : Int} (h0 : 0 ≤ m) (h : Q (.int (n / 2 ^ m.toNat)) H) : aShr (.int n) (.int m) H Q := ⟨h0, h⟩
theorem v_and {n m : Int} (h : Q (.int (Builtin.bitAnd n m)) H) : aAnd (.int n) (.int m) H Q := h
theorem v_ltI {n m : Int} (h : Q (.bl (decide (n < m))) H) : aLt K (.int n) (.int m) H Q := h
theorem v_ltT {a c : Addr} {ns ms : List Int} (h1 : SqT K H a (ns.map V.int)) (h2 : SqT K H c (ms.map V.int)) (h : Q (.bl (HT.lexLt ns ms)) H) : aLt K (.ref a) (.ref c) H Q := ⟨a, c, ns, ms, rfl, rfl, h1, h2, h⟩
theorem v_leI {n m : Int} (h : Q (.bl (decide (n ≤ m))) H) : aLe (.int n) (.int m) H Q := h
theorem v_gtI {n m : Int} (h : Q (.bl (decide (m < n))) H) : aGt (.int n) (.int m) H Q := h
theorem v_geI {n m : Int} (h : Q (.bl (decide (m ≤ n))) H) : aGe (.int n) (.int m) H Q := h
theorem dec_i {n m : Int} : decide (V.int n = V.int m) = decide (n = m) := by simp
theorem v_eqI {n m : Int} (h : Q (.bl (decide (n = m))) H) : aEq K (.int n) (.int m) H Q := .inl ⟨rfl, by rw [dec_i]; exact h⟩
theorem v_neI {n m : Int} (h : Q (.bl (!decide (n = m))) H) : aNe K (.int n) (.int m) H Q := .inl ⟨rfl, by rw [dec_i]; exact h⟩
theorem v_eqB {n m : Bool} (h : Q (.bl (decide (n = m))) H) : aEq K (.bl n) (.bl m) H Q := .inl ⟨rfl, by rw [show decide (V.bl n = V.bl m) = decide (n = m) by simp]; exact h⟩
theorem v_neB {n m : Bool} (h : Q (.bl (!decide (n = m))) H) : aNe K (.bl n) (.bl m) H Q := .inl ⟨rfl, by rw [show decide (V.bl n = V.bl m) = decide (n = m) by simp]; exact h⟩
theorem v_eqS {n m : Str} (h : Q (.bl (decide (n = m))) H) : aEq K (.str n) (.str m) H Q := .inl ⟨rfl, by rw [show decide (V.str n = V.str m) = decide (n = m) by simp]; exact h⟩
theorem v_neS {n m : Str} (h : Q (.bl (!decide (n = m))) H) : aNe K (.str n) (.str m) H Q := .inl ⟨rfl, by rw [show decide (V.str n = V.str m) = decide (n = m) by simp]; exact h⟩
theorem v_eqO (hs : scal x y = true) (h : Q (.bl (decide (x = y))) H) : aEq K x y H Q := .inl ⟨hs, h⟩
theorem v_neO (hs : scal x y = true) (h : Q (.bl (!decide (x = y))) H) : aNe K x y H Q := .inl ⟨hs, h⟩
theorem v_eqD {d e : PyData} (h1 : Dp K H x d) (h2 : Dp K H y e) (h3 : SeqAt.shaped d = true) (h4 : SeqAt.shaped e = true) (h : Q (.bl (PyData.eqv d e)) H) : aEq K x y H Q := .inr ⟨d, e, h1, h2, h3, h4, h⟩
theorem v_neD {d e : PyData} (h1 : Dp K H x d) (h2 : Dp K H y e) (h3 : SeqAt.shaped d = true) (h4 : SeqAt.shaped e = true) (h : Q (.bl (!PyData.eqv d e)) H) : aNe K x y H Q := .inr ⟨d, e, h1, h2, h3, h4, h⟩
theorem v_isN (h : Q (.bl (decide (x = .non))) H) : aIsN x .non H Q := ⟨rfl, h⟩
theorem v_notN (h : Q (.bl (!decide (x = .non))) H) : aNotN x .non H Q := ⟨rfl, h⟩
theorem v_ipAdd {n m : Int} (h : Q (.int (n + m)) H) : (fun (x y : V) (H : Hp) (Q : VK) => match x, y with | .int i, .int j => Q (.int (i + j)) H | _, _ => False) (.int n) (.int m) H Q := h
def aIpAdd : TIp := fun x y H Q => match x, y with
  | .int i, .int j => Q (.int (i + j)) H
  | _, _ => False
def aIpSub : TIp := fun x y H Q => match x, y with
  | .int i, .int j => Q (.int (i - j)) H
  | _, _ => False
theorem ip_add' {X : Cx} : PIp X .Add aIpAdd := ipAdd
theorem ip_sub' {X : Cx} : PIp X .Sub aIpSub := ipSub
theorem v_ipA {n m : Int} (h : Q (.int (n + m)) H) : aIpAdd (.int n) (.int m) H Q := h
theorem v_ipS {n m : Int} (h : Q (.int (n - m)) H) : aIpSub (.int n) (.int m) H Q := h

/-! ways -/
theorem r_T (h : A) : if true = true then A else B := by rw [if_pos rfl]; exact h
theorem r_F (h : B) : if false = true then A else B := by rw [if_neg Bool.false_ne_true]; exact h
theorem r_nT (h : B) : if (!true) = true then A else B := by rw [if_neg (by decide)]; exact h
theorem r_nF (h : A) : if (!false) = true then A else B := by rw [if_pos (by decide)]; exact h
theorem r_w {c : Prop} [Decidable c] (h1 : c → A) (h2 : ¬ c → B) : if decide c = true then A else B := by
  by_cases h : c
  · rw [decide_eq_true h, if_pos rfl]; exact h1 h
  · rw [decide_eq_false h, if_neg Bool.false_ne_true]; exact h2 h
theorem r_nw {c : Prop} [Decidable c] (h1 : ¬ c → A) (h2 : c → B) : if (!decide c) = true then A else B := by
  by_cases h : c
  · rw [decide_eq_true h]; exact r_nT (h2 h)
  · rw [decide_eq_false h]; exact r_nF (h1 h)
theorem r_b (h1 : b = true → A) (h2 : b = false → B) : if b = true then A else B := by
  cases b with
  | true => exact r_T (h1 rfl)
  | false => exact r_F (h2 rfl)
theorem r_nb (h1 : b = false → A) (h2 : b = true → B) : if (!b) = true then A else B := by
  cases b with
  | true => exact r_nT (h2 rfl)
  | false => exact r_nF (h1 rfl)
theorem r_wT {c : Prop} [Decidable c] (hc : c) (h : A) : if decide c = true then A else B := r_w (fun _ => h) fun n => (n hc).elim
theorem r_wF {c : Prop} [Decidable c] (hc : ¬ c) (h : B) : if decide c = true then A else B := r_w (fun n => (hc n).elim) fun _ => h
theorem r_nwT {c : Prop} [Decidable c] (hc : ¬ c) (h : A) : if (!decide c) = true then A else B := r_nw (fun _ => h) fun n => (hc n).elim
theorem r_nwF {c : Prop} [Decidable c] (hc : c) (h : B) : if (!decide c) = true then A else B := r_nw (fun n => (n hc).elim) fun _ => h

/-! loops -/
/-- while: W by a measure; the body is read for the next turn -/
theorem r_while {c : TT} (W : Nat → L2.St → Hp → Prop) (h0 : ∃ m, W m σ H)
    (hs : ∀ m σ H, W m σ H → c σ H fun b H1 => if b = true then ∃ N : L2.St → Hp → Prop, (∀ σ' H', N σ' H' → ∃ m', m' < m ∧ W m' σ' H') ∧ t1 { D with nx := N, ct := N, bk := D.nx } σ H1 else D.nx σ H1) : tWhile c t1 D σ H := ⟨W, h0, hs⟩
theorem r_next_turn {W : Nat → L2.St → Hp → Prop} {m : Nat} {P : (L2.St → Hp → Prop) → Prop} (h : P (fun σ' H' => ∃ m', m' < m ∧ W m' σ' H')) : ∃ N : L2.St → Hp → Prop, (∀ σ' H', N σ' H' → ∃ m', m' < m ∧ W m' σ' H') ∧ P N := ⟨_, fun _ _ h => h, h⟩
theorem r_rng1 {J : It → Hp → Prop} {n : Int} (h0 : -(2 ^ 62) ≤ n ∧ n < 2 ^ 62) (h : J (Itr 0 n.toNat) H) (ha : as σ H = fun QA => QA [.int n] H) : iRng1 as σ H J := by
  unfold iRng1
  rw [ha]
  exact ⟨n, rfl, h0.1, h0.2, h⟩
end

/-! ### defs by their names -/
/-- the module's name x holds a def that keeps sp; dvs: its defaults -/
structure Cal (P : Program) (w : World) (K : PySem.W.Frag) (mg : Str → Option Value) (base : Heap) (CX : CXT) (k : Nat) (x : Str) (dvs : List V) (sp : Sp) : Prop where
  ex : ∃ (f : Addr) (fd : FuncData) (ps : List Str) (ds : List Value), mg x = some (.ref f) ∧ PySem.W.keepIn K (.ref f) = true ∧ Binds K fd ps ds ∧ Vals dvs ds ∧ FnOk P w K mg base CX k f fd ps sp
/-- the class at C has a method m that keeps sp -/
structure CalM (P : Program) (w : World) (K : PySem.W.Frag) (mg : Str → Option Value) (base : Heap) (CX : CXT) (k : Nat) (C : Addr) (m : Str) (dvs : List V) (sp : Sp) : Prop where
  cl : Cls K C
  ex : ∃ (f : Addr) (fd : FuncData) (ps : List Str) (ds : List Value), Meth K C m f ∧ Binds K fd ps ds ∧ Vals dvs ds ∧ FnOk P w K mg base CX k f fd ps sp
/-- the name x holds the class at C, made by an __init__ that keeps sp -/
structure CalC (P : Program) (w : World) (K : PySem.W.Frag) (mg : Str → Option Value) (base : Heap) (CX : CXT) (k : Nat) (x : Str) (C : Addr) (dvs : List V) (sp : Sp) : Prop where
  ex : ∃ (f : Addr) (fd : FuncData) (ps : List Str) (ds : List Value), mg x = some (.ref C) ∧ Mk K C f ∧ Binds K fd ps ds ∧ Vals dvs ds ∧ FnOk P w K mg base CX k f fd ps sp
section
variable {X : Cx} {CX : CXT} {k j : Nat} {C : Addr} {sp : Sp} {dvs : List V} {E : XK} {x m : Str} {p pos apos : Pos} {e o : Expr} {es : List Expr} {ta : TE} {t : TA}
theorem pe_callF (c : Cal X.prog X.w X.K X.mg X.base CX j x dvs sp) (hr : Room k X.A) (hg : Gl X x) (hx : Passes CX X E) (ha : PA X (e :: es) t) (hk : j ≤ k := by decide)
    (hdb : (x == ("__debug__" : Str)) = false := by decide) (he : starEach (e :: es) X.env = (false, eval e X.env) :: starEach es X.env := by rfl) (hpl : (backTo pos (starEach es X.env)).any (·.1) = false := by rfl) :
    PE X (.Call (.Name x p) (e :: es) [] pos) (tCall sp dvs E t) := by
  obtain ⟨f, fd, ps, ds, h1, h2, h3, h4, h5⟩ := c.ex
  exact pe_call h5 (hr.mono hk) hg h1 h2 h3 h4 hx ha hdb he hpl
theorem pe_callF0 (c : Cal X.prog X.w X.K X.mg X.base CX j x dvs sp) (hr : Room k X.A) (hg : Gl X x) (hx : Passes CX X E) (hk : j ≤ k := by decide)
    (hdb : (x == ("__debug__" : Str)) = false := by decide) : PE X (.Call (.Name x p) [] [] pos) (tCall sp dvs E tNil) := by
  obtain ⟨f, fd, ps, ds, h1, h2, h3, h4, h5⟩ := c.ex
  exact pe_call0 h5 (hr.mono hk) hg h1 h2 h3 h4 hx hdb
theorem pe_methF {pl : Sem Bool} (he : PE X o ta) (c : CalM X.prog X.w X.K X.mg X.base CX j C m dvs sp) (hr : Room k X.A) (hx : Passes CX X E) (ha : PA X (e :: es) t) (hk : j ≤ k := by decide)
    (hst : starEach (e :: es) X.env = (false, eval e X.env) :: starEach es X.env := by rfl) (hpl : (backTo pos (starEach es X.env)).any (·.1) = false := by rfl)
    (ht : eval (.Call (.Attribute o m apos) (e :: es) [] pos) X.env = (do
      let ov ← eval o X.env
      standAt apos.atName
      let (f, first) ← holding [ov] (getMethod ov m pl)
      callWith pos f first (backTo pos (starEach (e :: es) X.env)) (backToKw pos (keywordEach [] X.env))) := by rfl) :
    PE X (.Call (.Attribute o m apos) (e :: es) [] pos) (tMeth C m sp dvs E ta t) := by
  obtain ⟨f, fd, ps, ds, h1, h3, h4, h5⟩ := c.ex
  exact pe_meth he c.cl h1 h5 (hr.mono hk) h3 h4 hx ha hst hpl ht
theorem pe_methF0 {pl : Sem Bool} (he : PE X o ta) (c : CalM X.prog X.w X.K X.mg X.base CX j C m dvs sp) (hr : Room k X.A) (hx : Passes CX X E) (hk : j ≤ k := by decide)
    (ht : eval (.Call (.Attribute o m apos) [] [] pos) X.env = (do
      let ov ← eval o X.env
      standAt apos.atName
      let (f, first) ← holding [ov] (getMethod ov m pl)
      callWith pos f first (backTo pos (starEach [] X.env)) (backToKw pos (keywordEach [] X.env))) := by rfl) :
    PE X (.Call (.Attribute o m apos) [] [] pos) (tMeth C m sp dvs E ta tNil) := by
  obtain ⟨f, fd, ps, ds, h1, h3, h4, h5⟩ := c.ex
  exact pe_meth0 he c.cl h1 h5 (hr.mono hk) h3 h4 hx ht
theorem pe_makeF (c : CalC X.prog X.w X.K X.mg X.base CX j x C dvs sp) (hr : Room k X.A) (hg : Gl X x) (hx : Passes CX X E) (ha : PA X (e :: es) t) (hk : j + 1 ≤ k := by decide)
    (hdb : (x == ("__debug__" : Str)) = false := by decide) (he : starEach (e :: es) X.env = (false, eval e X.env) :: starEach es X.env := by rfl) (hpl : (backTo pos (starEach es X.env)).any (·.1) = false := by rfl) :
    PE X (.Call (.Name x p) (e :: es) [] pos) (tMake C sp dvs E t) := by
  obtain ⟨f, fd, ps, ds, h1, h2, h3, h4, h5⟩ := c.ex
  exact pe_make h2 h5 (hr.mono hk) hg h1 h3 h4 hx ha hdb he hpl
theorem pe_makeF0 (c : CalC X.prog X.w X.K X.mg X.base CX j x C dvs sp) (hr : Room k X.A) (hg : Gl X x) (hx : Passes CX X E) (hk : j + 1 ≤ k := by decide)
    (hdb : (x == ("__debug__" : Str)) = false := by decide) : PE X (.Call (.Name x p) [] [] pos) (tMake C sp dvs E tNil) := by
  obtain ⟨f, fd, ps, ds, h1, h2, h3, h4, h5⟩ := c.ex
  exact pe_make0 h2 h5 (hr.mono hk) hg h1 h3 h4 hx hdb
end
/-- a walked thing in a for, in a comprehension -/
theorem r_for {wi : TI} {g : TG} {tb : TS} {D : Ends} {σ : L2.St} {H : Hp} (h : wi σ H fun J H1 => ∃ W : Nat → Nat → L2.St → Hp → Prop, (∃ m, W 0 m σ H1) ∧ ∀ i m σ H, W i m σ H →
  (J.stop i H ∧ D.nx σ H) ∨ (J.go i H ∧ ∃ N : L2.St → Hp → Prop, (∀ σ' H', N σ' H' → ∃ m', m' < m ∧ W (i + 1) m' σ' H') ∧ ∀ x H', J.yld i H x H' → g x σ H' fun σ2 H2 => tb { D with nx := N, ct := N, bk := D.nx } σ2 H2)) : tFor wi g tb D σ H := h
theorem r_lc {wi : TI} {g : TG} {tt : TT} {te : TE} {vs : List Nat} {σ : L2.St} {H : Hp} {Q : VK} (h : wi σ H fun J H1 => ∀ D, H1 D = none → ∃ W : Nat → Nat → Hp → Prop, (∃ m, W 0 m (upd H1 D (.lst []))) ∧ ∀ i m H, W i m H →
  (J.stop i H ∧ Q (.ref D) H) ∨ (J.go i H ∧ ∃ Nx : Hp → Prop, (∀ H', Nx H' → ∃ m', m' < m ∧ W (i + 1) m' H') ∧ ∀ x H', J.yld i H x H' → g x (wipe σ vs) H' fun σ2 H2 => wipe σ2 vs = wipe σ vs ∧ tt σ2 H2 fun b H3 =>
    if b = true then te σ2 H3 fun y H4 => ∃ acc, H4 D = some (.lst acc) ∧ acc.length < sizeLine ∧ Nx (upd H4 D (.lst (acc ++ [y]))) else Nx H3)) : tLc wi g tt te vs σ H Q := h
section
variable {K : PySem.W.Frag} {tl : TE} {as : TA} {σ : L2.St} {H : Hp} {R : It → Hp → Prop}
def kList (K : PySem.W.Frag) (R : It → Hp → Prop) : V → Hp → Prop := fun x H1 => ∃ a, x = .ref a ∧ (∃ xs, SqL K H1 a xs) ∧ R (Itl K a) H1
def kTupI (K : PySem.W.Frag) (R : It → Hp → Prop) : V → Hp → Prop := fun x H1 => ∃ a, x = .ref a ∧ (∃ xs, SqT K H1 a xs) ∧ R (Itt K a) H1
def kRng1 (R : It → Hp → Prop) : List V → Hp → Prop := fun vs H1 => ∃ j : Int, vs = [.int j] ∧ -(2 ^ 62) ≤ j ∧ j < 2 ^ 62 ∧ R (Itr 0 j.toNat) H1
def kRng2 (R : It → Hp → Prop) : List V → Hp → Prop := fun vs H1 => ∃ i j : Int, vs = [.int i, .int j] ∧ (-(2 ^ 62) ≤ i ∧ i < 2 ^ 62 ∧ -(2 ^ 62) ≤ j ∧ j < 2 ^ 62) ∧ R (Itr i (j - i).toNat) H1
def kRng3 (R : It → Hp → Prop) : List V → Hp → Prop := fun vs H1 => ∃ (i j c : Int) (n : Nat), vs = [.int i, .int j, .int c] ∧ RgC i j c n ∧ R (Itc i c n) H1
def kEnum (K : PySem.W.Frag) (R : It → Hp → Prop) : List V → Hp → Prop := fun vs H1 => ∃ a xs, vs = [.ref a] ∧ SqL K H1 a xs ∧ R (Ite K a) H1
def kZip (K : PySem.W.Frag) (R : It → Hp → Prop) : List V → Hp → Prop := fun vs H1 => ∃ a b xs ys, vs = [.ref a, .ref b] ∧ SqL K H1 a xs ∧ SqL K H1 b ys ∧ R (Itz K a b) H1
def kRev (K : PySem.W.Frag) (R : It → Hp → Prop) : List V → Hp → Prop := fun vs H1 => ∃ (a : Addr) (xs : List V), vs = [.ref a] ∧ SqL K H1 a xs ∧ R (Itv K a xs.length) H1
theorem r_iList (h : tl σ H (kList K R)) : iList K tl σ H R := h
theorem r_iTup (h : tl σ H (kTupI K R)) : iTup K tl σ H R := h
theorem r_iRng1 (h : as σ H (kRng1 R)) : iRng1 as σ H R := h
theorem r_iRng2 (h : as σ H (kRng2 R)) : iRng2 as σ H R := h
theorem r_iRng3 (h : as σ H (kRng3 R)) : iRng3 as σ H R := h
theorem r_iEnum (h : as σ H (kEnum K R)) : iEnum K as σ H R := h
theorem r_iZip (h : as σ H (kZip K R)) : iZip K as σ H R := h
theorem r_iRev (h : as σ H (kRev K R)) : iRev K as σ H R := h
theorem v_iList {a : Addr} {xs : List V} (h : SqL K H a xs) (k : R (Itl K a) H) : kList K R (.ref a) H := ⟨a, rfl, ⟨xs, h⟩, k⟩
theorem v_iTup {a : Addr} {xs : List V} (h : SqT K H a xs) (k : R (Itt K a) H) : kTupI K R (.ref a) H := ⟨a, rfl, ⟨xs, h⟩, k⟩
theorem v_rng1 {n : Int} (h0 : -(2 ^ 62) ≤ n ∧ n < 2 ^ 62) (k : R (Itr 0 n.toNat) H) : kRng1 R [.int n] H := ⟨n, rfl, h0.1, h0.2, k⟩
theorem v_rng2 {n m : Int} (h0 : -(2 ^ 62) ≤ n ∧ n < 2 ^ 62 ∧ -(2 ^ 62) ≤ m ∧ m < 2 ^ 62) (k : R (Itr n (m - n).toNat) H) : kRng2 R [.int n, .int m] H := ⟨n, m, rfl, h0, k⟩
theorem v_rng3 {i j c : Int} {n : Nat} (h0 : RgC i j c n) (k : R (Itc i c n) H) : kRng3 R [.int i, .int j, .int c] H := ⟨i, j, c, n, rfl, h0, k⟩
theorem v_enum {a : Addr} {xs : List V} (h : SqL K H a xs) (k : R (Ite K a) H) : kEnum K R [.ref a] H := ⟨a, xs, rfl, h, k⟩
theorem v_zip {a b : Addr} {xs ys : List V} (h : SqL K H a xs) (h2 : SqL K H b ys) (k : R (Itz K a b) H) : kZip K R [.ref a, .ref b] H := ⟨a, b, xs, ys, rfl, h, h2, k⟩
theorem v_rev1 {a : Addr} {xs : List V} (h : SqL K H a xs) (k : R (Itv K a xs.length) H) : kRev K R [.ref a] H := ⟨a, xs, rfl, h, k⟩
end
end SH


set_option Elab.async false
set_option linter.all false
set_option maxRecDepth 100000
set_option maxHeartbeats 4000000
/-! SHC: lengths, places, fields, constants -/
namespace SH
open PySem PySem.Spec PyProof.Rows L2

def Sq (K : PySem.W.Frag) (H : Hp) (a : Addr) (xs : List V) : Prop := SqL K H a xs ∨ SqT K H a xs
def aLen (K : PySem.W.Frag) : List V → Hp → VK → Prop := fun vs H Q => match vs with
  | [.ref p] => ∃ xs, Sq K H p xs ∧ Q (.int xs.length) H
  | [.str y] => y.length ≤ sizeLine ∧ Q (.int y.length) H
  | _ => False
def aIx (K : PySem.W.Frag) : R2 := fun x y H Q => match x, y with
  | .ref p, .int i => ∃ xs v, Sq K H p xs ∧ atI xs i = some v ∧ Q v H
  | .str z, .int i => ∃ c, z.length ≤ sizeLine ∧ atI z.cps.toList i = some c ∧ Q (.str ⟨#[c]⟩) H
  | _, _ => False
section
variable {X : Cx} {o e value : Expr} {f : Str} {pos tpos pos' : Pos} {ta tv : TE} {C : Addr}
theorem cLen : CallR X (.builtin "len") (aLen X.K) := by
  intro pins s σ H xs us Q I r h
  match xs, r, h with
  | [], _, h => exact False.elim h
  | [.ref p], r, h =>
    obtain ⟨ys, hq, q⟩ := h
    exact call_len pins s σ H _ us Q I r ⟨.ref p, ys.length, rfl, hq.elim (fun z => .inl ⟨ys, z, rfl⟩) fun z => .inr ⟨ys, z, rfl⟩, q⟩
  | [.str y], r, h => exact call_len pins s σ H _ us Q I r ⟨.str y, y.length, rfl, ⟨h.1, rfl⟩, h.2⟩
  | [.non], _, h => exact False.elim h
  | [.bl _], _, h => exact False.elim h
  | [.int _], _, h => exact False.elim h
  | [.byt _], _, h => exact False.elim h
  | [.flt _], _, h => exact False.elim h
  | [.ty _], _, h => exact False.elim h
  | _ :: _ :: _, _, h => revert h; intro h; simp [aLen] at h
theorem ixA : IxR X (aIx X.K) := by
  intro value slice pins s σ H x y v u Q I rx ry h hs
  cases x <;> cases y <;> first | exact False.elim h | skip
  · obtain ⟨c, h1, h2, q⟩ := h
    exact ix_str value slice pins s σ H _ _ v u Q I rx ry ⟨_, _, c, rfl, rfl, h1, h2, q⟩ hs
  · obtain ⟨xs, w, hq, h2, q⟩ := h
    rcases hq with hq | hq
    · exact ix_list value slice pins s σ H _ _ v u Q I rx ry ⟨_, xs, _, w, rfl, rfl, hq, h2, q⟩ hs
    · exact ix_tup value slice pins s σ H _ _ v u Q I rx ry ⟨_, xs, _, w, rfl, rfl, hq, h2, q⟩ hs
/-- e.f, the class known -/
def tFldF (C : Addr) (ta : TE) (f : Str) : TE := fun σ H Q => ta σ H fun x H1 => ∃ a dx fs v, x = .ref a ∧ H1 a = some (.ins C dx fs) ∧ fs.lookup f = some v ∧ Q v H1
theorem pe_fldF (cl : Cls X.K C) (na : NoAttr X.K C f) (he : PE X e ta) (hb : attributeBase e f X.env (eval e X.env) = eval e X.env := by rfl) : PE X (.Attribute e f pos) (tFldF C ta f) := by
  refine ⟨fun pins s σ H Q I h => ?_⟩
  refine attr_of hb (thn (he.run pins s σ H _ I h) fun u s1 ⟨x, H1, I1, rx, a, dx, fs, v, ex, ea, l, q⟩ => ?_)
  subst ex
  obtain rfl : u = Value.ref a := rx
  exact getattr_ok I1 ea cl na l fun u' s2 I2 ru => ⟨v, H1, I2, ru, q⟩
def sFldF (C : Addr) (ta tv : TE) (f : Str) : TS := fun D σ H => tv σ H fun y H1 => ta σ H1 fun x H2 => ∃ a dx fs, x = .ref a ∧ H2 a = some (.ins C dx fs) ∧ fs.length < 1000 ∧ D.nx σ (upd H2 a (.ins C dx (putF f y fs)))
theorem ps_fldF (cl : Cls X.K C) (na : NoAttr X.K C f) (ha : PE X o ta) (hv : PE X value tv) (hs : swapsWith value (some (.Attribute o f pos')) pos.line X.env = pure false) : PS X (.Assign [.Attribute o f pos'] value pos) (sFldF C ta tv f) := by
  refine ⟨fun pins s σ H D I h => ?_⟩
  refine plainObj_wpAny_Assign_Attribute (thn (hv.run pins s σ H _ I h) fun u s1 ⟨y, H1, I1, ry, q⟩ => thn (ha.run pins s1 σ H1 _ I1 q) fun ov s2 ⟨x, H2, I2, rx, a, dx, fs, ex, ea, l, q2⟩ => ?_) hs
  subst ex
  obtain rfl : ov = Value.ref a := rx
  exact setattr_ok I2 ea cl na l ry fun s3 I3 => ⟨σ, _, I3, q2⟩
def sFldAugF (C : Addr) (ta tv : TE) (rd : V → V → Hp → VK → Prop) (f : Str) : TS := fun D σ H => ta σ H fun x H1 => ∃ a dx fs v, x = .ref a ∧ H1 a = some (.ins C dx fs) ∧ fs.lookup f = some v ∧
  tv σ H1 fun y H2 => rd v y H2 fun z H3 => ∃ dx' fs', H3 a = some (.ins C dx' fs') ∧ fs'.length < 1000 ∧ D.nx σ (upd H3 a (.ins C dx' (putF f z fs')))
theorem ps_fldaugF {op : Operator} {rd : V → V → Hp → VK → Prop} (cl : Cls X.K C) (na : NoAttr X.K C f) (ha : PE X o ta) (hv : PE X value tv) (hop : InOp X op rd) : PS X (.AugAssign (.Attribute o f tpos) op value pos) (sFldAugF C ta tv rd f) := by
  refine ⟨fun pins s σ H D I h => ?_⟩
  refine wpAny_AugAssign_AttributeAny (thn (ha.run pins s σ H _ I h) fun ov s1 ⟨x, H1, I1, rx, a, dx, fs, v, ex, ea, l, q⟩ => ?_)
  subst ex
  obtain rfl : ov = Value.ref a := rx
  refine getattr_ok I1 ea cl na l fun u s2 I2 ru => thn (hv.run pins s2 σ H1 _ I2 q) fun w3 s3 ⟨y, H2, I3, ry, q3⟩ => thn (hop pins s3 σ H2 v y u w3 _ I3 ru ry q3) fun w4 s4 ⟨z, H3, I4, rz, dx', fs', ea', l', q4⟩ => ?_
  exact setattr_ok I4 ea' cl na l' rz fun s5 I5 => ⟨σ, _, I5, q4⟩
theorem in_add' : InOp X .Add aIpAdd := ip_add'
theorem in_sub' : InOp X .Sub aIpSub := ip_sub'
/-- a module's constant that is an int -/
theorem pe_k {x : Str} {v : V} (hm : ∃ u, X.mg x = some u ∧ RelV v u) (hg : Gl X x := by rfl) (hd : (x == ("__debug__" : Str)) = false := by decide) : PE X (.Name x pos) (tC v) := by
  obtain ⟨u, h1, h2⟩ := hm
  exact pe_glob hg h1 h2 hd
/-- xs[i], for xs[i] op= e -/
def aGetL (K : PySem.W.Frag) : V → V → Hp → VK → Prop := fun o i H Q => ∃ p xs k v, o = .ref p ∧ i = .int k ∧ H p = some (.lst xs) ∧ 0 ≤ k ∧ k < 2 ^ 63 ∧ xs[k.toNat]? = some v ∧ Q v H
theorem getL : PGet X (aGetL X.K) := by
  intro pins s σ H o i ov iv Q I ro ri h
  obtain ⟨p, xs, k, v, rfl, rfl, hp, h0, h1, hv, q⟩ := h
  cases ro
  obtain ⟨t, rfl⟩ := ri
  obtain ⟨its, r, pl, hz⟩ := I.list (SqL.of (K := X.K) hp)
  obtain ⟨w, ew, rw'⟩ := r.get hv
  exact wpAny_getItem_list pl.isList h0 h1 (by simpa using ew) ⟨v, H, I, rw', q⟩
end
section
variable {K : PySem.W.Frag} {H : Hp} {Q : VK} {x y v : V} {a p dx C : Addr} {fs : List (Str × V)} {f : Str} {xs : List V} {i : Int} {n : Nat} {ta tv : TE} {σ : L2.St} {D : Ends}
theorem v_lenL (h : SqL K H p xs) (k : Q (.int xs.length) H) : aLen K [.ref p] H Q := ⟨xs, .inl h, k⟩
theorem v_lenLm {α : Type} {f : α → V} {ns : List α} (h : SqL K H p (ns.map f)) (k : Q (.int ns.length) H) : aLen K [.ref p] H Q := ⟨_, .inl h, by rw [List.length_map]; exact k⟩
theorem v_lenTm {α : Type} {f : α → V} {ns : List α} (h : SqT K H p (ns.map f)) (k : Q (.int ns.length) H) : aLen K [.ref p] H Q := ⟨_, .inr h, by rw [List.length_map]; exact k⟩
theorem v_lenT (h : SqT K H p xs) (k : Q (.int xs.length) H) : aLen K [.ref p] H Q := ⟨xs, .inr h, k⟩
theorem v_ixL (h : SqL K H p xs) (ha : atI xs i = some v) (k : Q v H) : aIx K (.ref p) (.int i) H Q := ⟨xs, v, .inl h, ha, k⟩
theorem v_ixT (h : SqT K H p xs) (ha : atI xs i = some v) (k : Q v H) : aIx K (.ref p) (.int i) H Q := ⟨xs, v, .inr h, ha, k⟩
/-- at a place n -/
theorem v_ixLn (h : SqL K H p xs) (e : i = (n : Int)) (ha : xs[n]? = some v) (k : Q v H) : aIx K (.ref p) (.int i) H Q := ⟨xs, v, .inl h, by rw [e]; exact atI_nat ha, k⟩
theorem v_ixTn (h : SqT K H p xs) (e : i = (n : Int)) (ha : xs[n]? = some v) (k : Q v H) : aIx K (.ref p) (.int i) H Q := ⟨xs, v, .inr h, by rw [e]; exact atI_nat ha, k⟩
def kFld (C : Addr) (f : Str) (Q : VK) : VK := fun x H1 => ∃ a dx fs v, x = .ref a ∧ H1 a = some (.ins C dx fs) ∧ fs.lookup f = some v ∧ Q v H1
theorem r_fldF (h : ta σ H (kFld C f Q)) : tFldF C ta f σ H Q := h
theorem v_fld (h : H a = some (.ins C dx fs)) (l : fs.lookup f = some v) (k : Q v H) : kFld C f Q (.ref a) H := ⟨a, dx, fs, v, rfl, h, l, k⟩
def kSfld (C : Addr) (f : Str) (y : V) (R : Hp → Prop) : VK := fun x H2 => ∃ a dx fs, x = .ref a ∧ H2 a = some (.ins C dx fs) ∧ fs.length < 1000 ∧ R (upd H2 a (.ins C dx (putF f y fs)))
theorem r_sfldF (h : tv σ H fun y H1 => ta σ H1 (kSfld C f y (D.nx σ))) : sFldF C ta tv f D σ H := h
theorem v_sfld {fs' : List (Str × V)} {R : Hp → Prop} (h : H a = some (.ins C dx fs)) (l : fs.length < 1000) (e : putF f y fs = fs') (k : R (upd H a (.ins C dx fs'))) : kSfld C f y R (.ref a) H := ⟨a, dx, fs, rfl, h, l, by rw [e]; exact k⟩
def kAug1 (C : Addr) (f : Str) (R : V → Addr → Hp → Prop) : VK := fun x H1 => ∃ a dx fs v, x = .ref a ∧ H1 a = some (.ins C dx fs) ∧ fs.lookup f = some v ∧ R v a H1
def kAug2 (C : Addr) (f : Str) (a : Addr) (R : Hp → Prop) : VK := fun z H3 => ∃ dx' fs', H3 a = some (.ins C dx' fs') ∧ fs'.length < 1000 ∧ R (upd H3 a (.ins C dx' (putF f z fs')))
theorem r_sfldAugF {rd : V → V → Hp → VK → Prop} (h : ta σ H (kAug1 C f fun v a H1 => tv σ H1 fun y H2 => rd v y H2 (kAug2 C f a (D.nx σ)))) : sFldAugF C ta tv rd f D σ H := h
theorem v_aug1 {R : V → Addr → Hp → Prop} (h : H a = some (.ins C dx fs)) (l : fs.lookup f = some v) (k : R v a H) : kAug1 C f R (.ref a) H := ⟨a, dx, fs, v, rfl, h, l, k⟩
theorem v_aug2 {fs' : List (Str × V)} {R : Hp → Prop} (h : H a = some (.ins C dx fs)) (l : fs.length < 1000) (e : putF f y fs = fs') (k : R (upd H a (.ins C dx fs'))) : kAug2 C f a R y H := ⟨dx, fs, h, l, by rw [e]; exact k⟩
theorem v_getL (h : H p = some (.lst xs)) (e : i = (n : Int)) (hn : n < 1000000) (ha : xs[n]? = some v) (k : Q v H) : aGetL K (.ref p) (.int i) H Q := ⟨p, xs, i, v, rfl, rfl, h, by omega, by omega, by rw [e]; exact ha, k⟩
theorem ixN_n {m n : Nat} (h : n < m) : ixN m (n : Int) = some n := by
  unfold ixN
  rw [if_pos (by omega), if_pos (by omega)]
  simp
theorem v_setL {P : Hp → Prop} (h : H p = some (.lst xs)) (e : i = (n : Int)) (hn : n < xs.length) (k : P (upd H p (.lst (xs.set n v)))) : rSetL (.ref p) (.int i) v H P := ⟨p, xs, i, n, rfl, rfl, h, by rw [e]; exact ixN_n hn, k⟩
theorem v_append {P : Hp → Prop} (h : H p = some (.lst xs)) (hn : xs.length < 1000000) (k : P (upd H p (.lst (xs ++ [v])))) : tyV K "list" (.ref p) H ∧ rAppend (.ref p) [v] H (fun _ H' => P H') := ⟨.inl ⟨rfl, xs, SqL.of h⟩, p, xs, v, rfl, rfl, h, Nat.lt_trans hn (by decide), k⟩
theorem ty_list (h : H p = some (.lst xs)) : tyV K "list" (.ref p) H := .inl ⟨rfl, xs, SqL.of h⟩
theorem v_app (h : H p = some (.lst xs)) (hn : xs.length < 1000000) (k : Q .non (upd H p (.lst (xs ++ [v])))) : rAppend (.ref p) [v] H Q := ⟨p, xs, v, rfl, rfl, h, Nat.lt_trans hn (by decide), k⟩
theorem v_ext {b : Addr} {ys : List V} (h : H p = some (.lst xs)) (h2 : H b = some (.lst ys)) (hn : xs.length + ys.length ≤ 1000000) (k : Q .non (upd H p (.lst (xs ++ ys)))) : rExtend (.ref p) [.ref b] H Q := ⟨p, b, xs, ys, rfl, rfl, h, h2, Nat.le_trans hn (by decide), k⟩
theorem v_rev (h : H p = some (.lst xs)) (k : Q .non (upd H p (.lst xs.reverse))) : rReverse (.ref p) [] H Q := ⟨p, xs, rfl, rfl, h, k⟩
theorem v_clear (h : H p = some (.lst xs)) (k : Q .non (upd H p (.lst []))) : rClear (.ref p) [] H Q := ⟨p, xs, rfl, rfl, h, k⟩
theorem v_pop (h : H p = some (.lst xs)) (hv : xs[xs.length - 1]? = some v) (k : Q v (upd H p (.lst xs.dropLast))) : rPop (.ref p) [] H Q := ⟨p, xs, v, rfl, rfl, h, hv, k⟩
theorem v_slL {lo hi : Option Int} (h : SqL K H p xs) (k : ∀ q, H q = none → Q (.ref q) (upd H q (.lst (cutV xs lo hi)))) : rSlL K (.ref p) lo hi H Q := ⟨p, xs, rfl, h, k⟩
theorem v_listL (h : SqL K H p xs) (k : ∀ l, H l = none → Q (.ref l) (upd H l (.lst xs))) : ∃ p' ys, [V.ref p] = [.ref p'] ∧ (SqL K H p' ys ∨ SqT K H p' ys) ∧ ∀ l, H l = none → Q (.ref l) (upd H l (.lst ys)) := ⟨p, xs, rfl, .inl h, k⟩
theorem v_listT (h : SqT K H p xs) (k : ∀ l, H l = none → Q (.ref l) (upd H l (.lst xs))) : ∃ p' ys, [V.ref p] = [.ref p'] ∧ (SqL K H p' ys ∨ SqT K H p' ys) ∧ ∀ l, H l = none → Q (.ref l) (upd H l (.lst ys)) := ⟨p, xs, rfl, .inr h, k⟩
theorem v_sum {ns : List Int} (h : SqL K H p (ns.map V.int)) (k : Q (.int ns.sum) H) : rSum K [.ref p] H Q := ⟨p, ns, rfl, h, k⟩
theorem v_isi {c : V} {t u : Value} {b : Bool} (h1 : ClsV c u) (h2 : TyX K H x t) (h3 : PySem.W.kitOne K t u = some b) (k : Q (.bl b) H) : rIsi K [x, c] H Q := ⟨x, c, t, u, b, rfl, h1, h2, h3, k⟩
theorem v_max2 {n m : Int} (k : Q (.int (if m > n then m else n)) H) : ∃ i j, [V.int n, V.int m] = [.int i, .int j] ∧ Q (.int (if j > i then j else i)) H := ⟨n, m, rfl, k⟩
theorem v_min2 {n m : Int} (k : Q (.int (if m < n then m else n)) H) : ∃ i j, [V.int n, V.int m] = [.int i, .int j] ∧ Q (.int (if j < i then j else i)) H := ⟨n, m, rfl, k⟩
theorem v_bits {n : Int} (k : Q (.int (Builtin.Int.intBits n : Nat)) H) : ∃ i, V.int n = .int i ∧ Q (.int (Builtin.Int.intBits i : Nat)) H := ⟨n, rfl, k⟩
theorem r_bits (h : ta σ H fun x H1 => ∃ i, x = .int i ∧ Q (.int (Builtin.Int.intBits i : Nat)) H1) : tBits ta σ H Q := h
end

/-- 10 ** 60 -/
def big60 : Int := 10 ^ 60
theorem big60_pos : 0 < big60 := by unfold big60; decide
theorem big60_lt : big60 < 2 ^ 200 := by unfold big60; decide +kernel
section
variable {K : PySem.W.Frag} {H : Hp} {Q : VK} {x : V}
theorem v_pow60 (k : Q (.int big60) H) : aPow (.int 10) (.int 60) H Q := ⟨⟨by decide, by decide, by decide⟩, k⟩
theorem v_isiIT {n : Int} (k : Q (.bl true) H) : rIsi K [.int n, .ty "int"] H Q := ⟨.int n, .ty "int", .type "int", .type "int", true, rfl, .ty _, .base (.int n), by rfl, k⟩
theorem v_isiIB {n : Int} (k : Q (.bl false) H) : rIsi K [.int n, .ty "bool"] H Q := ⟨.int n, .ty "bool", .type "int", .type "bool", false, rfl, .ty _, .base (.int n), by rfl, k⟩
end
theorem map_at {α : Type} {f : α → V} {ns : List α} {i : Nat} {x : V} (h : (ns.map f)[i]? = some x) : ∃ n, ns[i]? = some n ∧ x = f n := by
  rw [List.getElem?_map] at h
  cases e : ns[i]? with
  | none => rw [e] at h; cases h
  | some n => rw [e] at h; exact ⟨n, rfl, (Option.some.inj h).symm⟩
/-- a cut of any list -/
def cutL {α : Type} (xs : List α) (lo hi : Option Int) : List α := (xs.drop (HT.sIx xs.length 0 lo)).take (HT.sIx xs.length xs.length hi - HT.sIx xs.length 0 lo)
theorem cut_map {α : Type} (f : α → V) (ns : List α) (lo hi : Option Int) : cutV (ns.map f) lo hi = (cutL ns lo hi).map f := by
  unfold cutV cutL
  rw [List.length_map, List.map_take, List.map_drop]
theorem cutL_mem {α : Type} {xs : List α} {lo hi : Option Int} {x : α} (h : x ∈ cutL xs lo hi) : x ∈ xs := List.mem_of_mem_drop (List.mem_of_mem_take h)
theorem cutL_len {α : Type} (xs : List α) (lo hi : Option Int) : (cutL xs lo hi).length ≤ xs.length := by
  unfold cutL
  rw [List.length_take, List.length_drop]
  omega
theorem cutL_upto {α : Type} (xs : List α) (k : Nat) : cutL xs none (some (k : Int)) = xs.take k := by
  unfold cutL
  rw [HT.sIx_none, HT.sIx_nat, List.drop_zero, Nat.sub_zero, List.take_eq_take_iff]
  omega
theorem cutL_from {α : Type} (xs : List α) (k : Nat) : cutL xs (some (k : Int)) none = xs.drop k := by
  unfold cutL
  rw [HT.sIx_none, HT.sIx_nat]
  by_cases h : k ≤ xs.length
  · rw [Nat.min_eq_left h, List.take_of_length_le (by rw [List.length_drop]; omega)]
  · have e1 : min k xs.length = xs.length := by omega
    rw [e1, List.drop_length, List.drop_of_length_le (by omega), List.take_nil]
theorem cutL_span {α : Type} (xs : List α) (i j : Nat) : cutL xs (some (i : Int)) (some (j : Int)) = (xs.drop i).take (j - i) := by
  unfold cutL
  rw [HT.sIx_nat, HT.sIx_nat]
  by_cases h : i ≤ xs.length
  · rw [Nat.min_eq_left h]
    by_cases h2 : j ≤ xs.length
    · rw [Nat.min_eq_left h2]
    · rw [Nat.min_eq_right (by omega), List.take_of_length_le (by rw [List.length_drop]; omega), List.take_of_length_le (by rw [List.length_drop]; omega)]
  · have e1 : min i xs.length = xs.length := by omega
    rw [e1, List.drop_length, List.drop_of_length_le (by omega), List.take_nil, List.take_nil]
/-- what a law is asked: the script's ints in, True out -/
def lawSp (K : PySem.W.Frag) : Sp := fun vs H Q _ => ∃ (a : Addr) (ns : List Int), vs = [.ref a] ∧ SqL K H a (ns.map V.int) ∧ ns.length ≤ 63 ∧ ∀ H', Q (.bl true) H'
end SH

set_option Elab.async false
set_option linter.all false
set_option maxRecDepth 100000
set_option maxHeartbeats 4000000
/-! SHD: functions that are made by a def and handed out -/
namespace SH
open PySem PySem.Spec PyProof.Rows L2 NdefX LamX

/-- the cell at c holds v -/
def cellO (c : Addr) (v : V) : HO := .ext fun h => ∃ u, L2.RelV v u ∧ h.IsCell c (some u)
theorem cellO_ok {P : Program} {w : World} {H : Hp} {h : Heap} {c : Addr} {v : V} {u : Value} (r : L2.RelV v u) (e : h.IsCell c (some u)) : ObjOk P w H h c (cellO c v) := by
  refine ⟨⟨u, r, e⟩, ?_, fun h1 h2 ⟨u', r', o, ho, hd⟩ st => ⟨u', r', o, st o ho, hd⟩⟩
  obtain ⟨o, ho, _⟩ := e
  exact ⟨o, ho⟩
theorem cellO_at {P : Program} {w : World} {H : Hp} {h : Heap} {c : Addr} {v : V} (hok : HOk P w H h) (e : H c = some (cellO c v)) : ∃ u, L2.RelV v u ∧ h.IsCell c (some u) := (hok c _ e).1
/-- at f stands a function of the text st, made in the def of the name before it; its captured names fr hold ws -/
structure Clo (H : Hp) (f : Addr) (st : Stmt) (name qual : Str) (fr : List Str) (ws : List V) (cl : List (Str × Addr)) (c' : Addr) : Prop where
  fn : H f = some (FnO f (NF.of st name qual cl c'))
  code : H c' = some (CodeO c' qual)
  len : ws.length = fr.length
  cells : ∀ y c, (y, c) ∈ cl → ∃ v, H c = some (cellO c v)
  inj : ∀ x y c, cl.lookup x = some c → cl.lookup y = some c → x = y
  has : ∀ (i : Nat) (y : Str), fr[i]? = some y → ∃ c v, cl.lookup y = some c ∧ ws[i]? = some v ∧ H c = some (cellO c v)
theorem Clo.step {M : List Addr} {H H' : Hp} {f : Addr} {st : Stmt} {name qual : Str} {fr : List Str} {ws : List V} {cl : List (Str × Addr)} {c' : Addr} (c : Clo H f st name qual fr ws cl c') (s : Stp M H H') : Clo H' f st name qual fr ws cl c' := by
  refine ⟨s.fix c.fn True.intro, s.fix c.code True.intro, c.len, fun y a e => ?_, c.inj, fun i y e => ?_⟩
  · obtain ⟨v, h⟩ := c.cells y a e
    exact ⟨v, s.fix h True.intro⟩
  · obtain ⟨a, v, h1, h2, h3⟩ := c.has i y e
    exact ⟨a, v, h1, h2, s.fix h3 True.intro⟩

/-- the cells of a list tracked too -/
def track (cl : List (Str × Addr)) (val : Addr → HO) (H : Hp) : Hp := fun b => match H b with
  | some o => some o
  | none => if b ∈ cl.map (·.2) then some (val b) else none
theorem track_some {cl : List (Str × Addr)} {val : Addr → HO} {H : Hp} {b : Addr} {o : HO} (h : H b = some o) : track cl val H b = some o := by
  unfold track; rw [h]
theorem track_cell {cl : List (Str × Addr)} {val : Addr → HO} {H : Hp} {b : Addr} (h : H b = none) (m : b ∈ cl.map (·.2)) : track cl val H b = some (val b) := by
  unfold track; rw [h]; exact if_pos m
theorem track_out {cl : List (Str × Addr)} {val : Addr → HO} {H : Hp} {b : Addr} (m : b ∉ cl.map (·.2)) : track cl val H b = H b := by
  unfold track
  cases h : H b with
  | some o => rfl
  | none => exact if_neg m
theorem track_none {cl : List (Str × Addr)} {val : Addr → HO} {H : Hp} {b : Addr} (h : track cl val H b = none) : H b = none ∧ b ∉ cl.map (·.2) := by
  unfold track at h
  cases e : H b with
  | some o => rw [e] at h; cases h
  | none =>
    rw [e] at h
    refine ⟨rfl, fun m => ?_⟩
    have h : (if b ∈ cl.map (·.2) then some (val b) else none) = none := h
    rw [if_pos m] at h
    cases h
theorem track_ok {P : Program} {w : World} {H : Hp} {h : Heap} {cl : List (Str × Addr)} {val : Addr → HO} (hok : HOk P w H h) (hv : ∀ b ∈ cl.map (·.2), H b = none → ObjOk P w (track cl val H) h b (val b)) : HOk P w (track cl val H) h := fun b o e => by
  cases q : H b with
  | some u =>
    rw [track_some q] at e
    cases e
    exact (hok b o q).stay (fun _ _ _ z => z) (fun c z => track_some z) fun c xs z => track_some z
  | none =>
    by_cases m : b ∈ cl.map (·.2)
    · rw [track_cell q m] at e
      cases e
      exact hv b m q
    · rw [track_out m, q] at e; cases e

/-- the body of a def that makes a function and hands it out has come to its end -/
def Made (X : Cx) (σ : L2.St) (H : Hp) (T : List NTab) (i : Nat) (st : Stmt) (nm : Str) : Flow → Shared → Prop := fun fl s' => ∃ f' c' H1, Inv X [] (σ.set i (some (.ref f'))) H1 s' ∧ fl = .ret (.ref f') ∧ ExtN H H1 ∧ (∀ b, H1 b = Option.none → H b = Option.none) ∧ TabsN T H1 ∧ H f' = none ∧
  H1 f' = some (FnO f' (NF.of st nm (X.env.qual ++ nm) (cloFrom X.env.cells (C8.fnScope st).names []) c')) ∧ H1 c' = some (CodeO c' (X.env.qual ++ nm))
theorem mk_body {X : Cx} {σ : L2.St} {H : Hp} {s : Shared} {c P' : Addr} {nm : Str} {pos pos2 pos3 : Pos} {T : List NTab} {nmf : Nat → Nat → Str} {i : Nat} {st : Stmt} (I : Inv X [] σ H s)
    (hst : st = .FunctionDef nm (C8.fnArgs st) (C8.fnBody st) [] none [] (C8.fnScope st) none nm pos)
    (TB : TabB X.base X.mg c P') (hcode : X.env.code = .ref c) (hm : (P', nmf) ∈ T) (hn : nmf pos.line pos.col = X.env.qual ++ nm) (hu : ∀ p ∈ T, p.1 = P' → p.2 = nmf)
    (hfree : ∀ y ∈ (C8.fnScope st).names, y.2 = .free → X.env.scope.names.lookup y.1 = some .cell)
    (hd0 : (C8.fnArgs st).defaults = []) (hk0 : (C8.fnArgs st).kw_defaults = []) (ha : annTrees (C8.fnArgs st) none X.env = []) (hN : X.N.Nodup) (hf : X.fn nm = true ∨ X.env.scope.names.lookup nm = some .local)
    (hi : X.N[i]? = some nm) (hx : X.env.scope.names.lookup nm = some .local) (hdb : (nm == ("__debug__" : Str)) = false) (hcb : (nm == ("__classdict__" : Str)) = false) (hT : TabsN T H) :
    wpAny (model X.prog X.w) X.A (execs [st, .Return (some (.Name nm pos3)) pos2] X.env) (Made X σ H T i st nm) X.xe s := by
  have first := ps_ndefMS (X := X) (i := i) (T := T) (nm := nmf) (P := P') (c := c) hst TB hcode hm hn hu (fun y hy e => .inl (hfree y hy e)) hd0 hk0 ha hN hi (.inl hx) hf
  refine wpAny_execs_cons (thn (first.run [] s σ H ⟨fun σ1 H1 => ∃ f' c', σ1 = σ.set i (some (.ref f')) ∧ ExtN H H1 ∧ (∀ b, H1 b = Option.none → H b = Option.none) ∧ TabsN T H1 ∧ H f' = none ∧
      H1 f' = some (FnO f' (NF.of st nm (X.env.qual ++ nm) (cloFrom X.env.cells (C8.fnScope st).names []) c')) ∧ H1 c' = some (CodeO c' (X.env.qual ++ nm)), fun _ _ => False, fun _ _ => False, fun _ _ => False⟩ I
        ⟨hT, fun f' c' H1 e n t z e1 e2 => ⟨f', c', rfl, e, n, t, z, e1, e2⟩⟩) fun fl s2 q => ?_)
  cases fl with
  | next =>
    obtain ⟨σ1, H1, I1, f', c', rfl, e1, e2, e3, e4, e5, e6⟩ := q
    have hv : (σ.set i (some (V.ref f')))[i]? = some (some (.ref f')) := by
      have hlt : i < X.N.length := (List.getElem?_eq_some_iff.mp hi).1
      rw [List.getElem?_set_self (by rw [I.len]; exact hlt)]
    refine wpAny_execs_cons (wpAny_Return_some (pos := pos2) (thn ((pe_var (X := X) (pos := pos3) hi (.inl hx) hdb hcb).run [] s2 _ H1 (fun v H2 => v = .ref f' ∧ H2 = H1) I1 ⟨.ref f', hv, rfl, rfl⟩) fun u s3 q3 => ?_))
    obtain ⟨v, H2, I2, r2, ev, eH⟩ := q3
    subst ev
    subst eH
    obtain rfl : u = Value.ref f' := r2
    exact ⟨f', c', _, I2, rfl, e1, e2, e3, e4, e5, e6⟩
  | ret v => obtain ⟨_, _, _, _, _, z⟩ := q; exact z.elim
  | brk => obtain ⟨_, _, _, z⟩ := q; exact z.elim
  | cont => obtain ⟨_, _, _, z⟩ := q; exact z.elim
section
variable {P : Program} {w : World} {K : PySem.W.Frag} {mg : Str → Option Value} {base : Heap} {CX : CXT}

/-- a def that makes a function of its parameters and hands it out -/
theorem maker {k : Nat} {f c P' : Addr} {name qual nm : Str} {params : Arguments} {body : List Stmt} {scope : Scope} {dV kV doc pm ct oc : Value} {an od : Option Addr} {pos pos2 pos3 : Pos}
    {osl : Array (Option Value)} {N ps fr : List Str} {sp : Sp} {T : List NTab} {nmf : Nat → Nat → Str} {i : Nat} {st : Stmt} {ix : List Nat} (lk : K.lookup f = some ⟨oc, od, .func (PySem.W.fnOf name qual params body scope dV kV doc pm an (.ref c) ct), osl⟩) (hcd : PySem.W.codeIn K (.ref c) qual = true) (S : FnScope N ps scope)
    (hst : st = .FunctionDef nm (C8.fnArgs st) (C8.fnBody st) [] none [] (C8.fnScope st) none nm pos)
    (hbody : body = [st, .Return (some (.Name nm pos3)) pos2])
    (TB : TabB base mg c P') (hm : (P', nmf) ∈ T) (hn : nmf pos.line pos.col = (qual ++ ".<locals>.") ++ nm) (hu : ∀ p ∈ T, p.1 = P' → p.2 = nmf) (hq : ∀ n g, (envOfC qual scope n g (.ref c)).qual = qual ++ ".<locals>.")
    (hfree : ∀ y ∈ (C8.fnScope st).names, y.2 = .free → scope.names.lookup y.1 = some .cell) (hfr : ∀ y ∈ fr, (y, NameKind.free) ∈ (C8.fnScope st).names) (hfr2 : ∀ y ∈ (C8.fnScope st).names, y.2 = .free → y.1 ∈ fr)
    (hd0 : (C8.fnArgs st).defaults = []) (hk0 : (C8.fnArgs st).kw_defaults = []) (ha : ∀ env, annTrees (C8.fnArgs st) none env = [])
    (hi : N[i]? = some nm) (hx : scope.names.lookup nm = some .local) (hip : ps.length ≤ i) (hdb : (nm == ("__debug__" : Str)) = false) (hcb : (nm == ("__classdict__" : Str)) = false)
    (hix : ix.map (fun j => ps[j]?) = fr.map some)
    (len : ∀ vs H Q E, sp vs H Q E → vs.length = ps.length)
    (hsp : ∀ vs H Q E, sp vs H Q E → TabsN T H ∧ ∀ (f' : Addr) (H' : Hp) (cl : List (Str × Addr)) (c' : Addr), ExtN H H' → (∀ b, H' b = Option.none → H b = Option.none) → TabsN T H' → H f' = none → Clo H' f' st nm ((qual ++ ".<locals>.") ++ nm) fr (ix.map fun j => vs.getD j .non) cl c' → Q (.ref f') H') :
    FnOk P w K mg base CX (k + 1) f (PySem.W.fnOf name qual params body scope dV kV doc pm an (.ref c) ct) ps sp := by
  refine ⟨len, fun A outer s H args us vs Q E hr e0 hb r hs => ?_⟩
  have hl := len _ _ _ _ hs
  have KX : K.In s.heap := e0.mod.kin.keeps fun b o e => (e0.bs b o e).1
  have lim : s.heap.NoLimit := e0.mod.nolimit.keeps fun b o e => (e0.bs b o e).1
  have hkind : ∀ y ∈ ps.zip us, scope.names.lookup y.1 = some .local ∨ (scope.names.lookup y.1 = some .cell ∧ ((cellsFrom (s.heap.objs.size + 1) scope.names []).lookup y.1).isSome = true) := fun ⟨n, v⟩ hy => by
    rcases S.par n (List.of_mem_zip hy).1 with q | q
    · exact .inl q
    · exact .inr ⟨q, PySem.W.cellsFrom_some _ _ _ (.inl q)⟩
  refine codeAny_call_function hr.depth (KX _ _ lk) rfl S.co S.gen rfl (PySem.W.codeRec_of KX hcd) (hb _ _ _ _ ?_)
  refine wpAny_newFunctionEnv_cells S.kind hkind fun env he s1 x => ?_
  subst he
  refine ⟨lim.keeps x.toInCall.keep, codeAny_func ?_⟩
  obtain ⟨hT, hend⟩ := hsp vs H Q E hs
  have I : Inv (cxOf CX P w K mg base N qual scope f (.ref c) A outer s H E) [] (L2.start N vs) H s1 := inv_start S hr.hd e0 hl r x
  have X0 : (cxOf CX P w K mg base N qual scope f (.ref c) A outer s H E).env.qual = qual ++ ".<locals>." := hq _ _
  have B := mk_body (X := cxOf CX P w K mg base N qual scope f (.ref c) A outer s H E) (pos2 := pos2) (pos3 := pos3) I hst TB rfl hm (by rw [X0]; exact hn) hu hfree hd0 hk0 (ha _) S.nd (.inl rfl) hi hx hdb hcb hT
  rw [← hbody] at B
  refine wpAny_mono B (fun fl s' hs => ?_) fun e s' hs => hs
  obtain ⟨f', c', H1, J, rfl, e1, e2, e3, e4, e5, e6⟩ := hs
  rw [X0] at e5 e6
  generalize hcl : cloFrom (cxOf CX P w K mg base N qual scope f (.ref c) A outer s H E).env.cells (C8.fnScope st).names [] = cl at e5
  have hcells : ∀ y ∈ (C8.fnScope st).names, y.2 = .free → ∃ a, (cxOf CX P w K mg base N qual scope f (.ref c) A outer s H E).env.cells.lookup y.1 = some a := fun y hy e => J.ok.has _ (.inl (hfree y hy e))
  have clm : ∀ y a, cl.lookup y = some a → (cxOf CX P w K mg base N qual scope f (.ref c) A outer s H E).env.cells.lookup y = some a := fun y a e => clo_cm hcells (by rw [hcl]; exact e)
  have clf : ∀ y a, (y, a) ∈ cl → y ∈ fr ∧ cl.lookup y = some a := fun y a m => by
    rw [← hcl] at m
    rcases cloFrom_mem m with z | ⟨z1, z2⟩
    · cases z
    · obtain ⟨a1, h1⟩ := hcells _ z1 rfl
      have h1 : (cxOf CX P w K mg base N qual scope f (.ref c) A outer s H E).env.cells.lookup y = some a1 := h1
      have h2 := clo_has hcells z1 h1
      rw [hcl] at h2
      have e : a = a1 := by rw [z2, h1]; rfl
      rw [e]
      exact ⟨hfr2 _ z1 rfl, h2⟩
  -- what each captured name holds
  have val : ∀ y ∈ fr, ∃ a v u, cl.lookup y = some a ∧ L2.RelV v u ∧ s'.heap.IsCell a (some u) ∧ ∀ m : Nat, fr[m]? = some y → (ix.map fun j => vs.getD j .non)[m]? = some v := by
    intro y hy
    obtain ⟨m, hm'⟩ := List.mem_iff_getElem?.mp hy
    have q : (ix.map fun j => ps[j]?)[m]? = some (some y) := by rw [hix, List.getElem?_map, hm']; rfl
    rw [List.getElem?_map] at q
    cases ej : ix[m]? with
    | none => rw [ej] at q; cases q
    | some j =>
      rw [ej] at q
      have hj : ps[j]? = some y := Option.some.inj q
      have hjl : j < ps.length := (List.getElem?_eq_some_iff.mp hj).1
      have hNj : N[j]? = some y := by
        rw [← hj, ← S.pre, List.getElem?_take_of_lt hjl]
      obtain ⟨v, hv⟩ : ∃ v, vs[j]? = some v := ⟨vs[j]'(by omega), by simp [show j < vs.length by omega]⟩
      have hs : ((L2.start N vs).set i (some (V.ref f')))[j]? = some (some v) := by
        rw [List.getElem?_set_ne (by omega)]
        unfold L2.start
        rw [List.getElem?_append_left (by rw [List.length_map]; omega), List.getElem?_map, hv] <;> rfl
      have kc : scope.names.lookup y = some .cell := hfree _ (hfr y hy) rfl
      obtain ⟨mm, hn2, hl2⟩ := J.loc
      obtain ⟨u, ru, lk2⟩ := hl2 j y v hNj hs (.inr (.inl kc))
      rcases lk2 with ⟨z, _⟩ | ⟨_, a, ha2, hcell⟩
      · have z' : scope.names.lookup y = some .local := z
        rw [kc] at z'; cases z'
      · have h2 := clo_has hcells (hfr y hy) ha2
        rw [hcl] at h2
        refine ⟨a, v, u, h2, ru, hcell, fun m' hm2 => ?_⟩
        -- any place of y
        have q2 : (ix.map fun j => ps[j]?)[m']? = some (some y) := by rw [hix, List.getElem?_map, hm2]; rfl
        rw [List.getElem?_map] at q2
        cases ej2 : ix[m']? with
        | none => rw [ej2] at q2; cases q2
        | some j2 =>
          rw [ej2] at q2
          have hj2 : ps[j2]? = some y := Option.some.inj q2
          have ndP : ps.Nodup := by rw [← S.pre]; exact S.nd.sublist (List.take_sublist _ _)
          have : j2 = j := L2.nodup_ix ndP hj2 hj
          subst this
          rw [List.getElem?_map, ej2]
          show some (vs.getD j2 .non) = some v
          rw [List.getD_eq_getElem?_getD, hv] <;> rfl
  let pick : Addr → HO := fun a => cellO a (match cl.find? (fun p => p.2 == a) with | some p => (match fr.findIdx? (fun z => z == p.1) with | some m => (ix.map fun j => vs.getD j .non).getD m .non | none => .non) | none => .non)
  have pick_of : ∀ y a, cl.lookup y = some a → ∀ v, (∀ m : Nat, fr[m]? = some y → (ix.map fun j => vs.getD j .non)[m]? = some v) → y ∈ fr → pick a = cellO a v := by
    intro y a hya v hv hy
    show cellO a _ = cellO a v
    have hmem : (y, a) ∈ cl := PySem.mem_of_lookup hya
    cases ef : cl.find? (fun p => p.2 == a) with
    | none =>
      have := List.find?_eq_none.mp ef (y, a) hmem
      simp at this
    | some p =>
      have hp1 := List.find?_some ef
      have hp2 := List.mem_of_find?_eq_some ef
      have e1 : p.2 = a := by simpa using hp1
      obtain ⟨hpf, hpl⟩ := clf p.1 p.2 hp2
      rw [e1] at hpl
      have ey : p.1 = y := J.ok.inj _ _ _ (clm _ _ hpl) (clm _ _ hya)
      show cellO a (match fr.findIdx? (fun z => z == p.1) with | some m => (ix.map fun j => vs.getD j .non).getD m .non | none => .non) = cellO a v
      rw [ey]
      cases ei : fr.findIdx? (fun z => z == y) with
      | none =>
        have := List.findIdx?_eq_none_iff.mp ei y hy
        simp at this
      | some m =>
        obtain ⟨hm1, hm2, _⟩ := List.findIdx?_eq_some_iff_getElem.mp ei
        have e2 : fr[m] = y := by simpa using hm2
        have := hv m (by rw [List.getElem?_eq_getElem hm1, e2])
        show cellO a ((ix.map fun j => vs.getD j .non).getD m .non) = cellO a v
        rw [List.getD_eq_getElem?_getD, this] <;> rfl
  have offc : ∀ a, a ∈ cl.map (·.2) → H1 a = none ∧ s.heap.objs.size ≤ a := fun a m => by
    obtain ⟨p, hp, rfl⟩ := List.mem_map.mp m
    obtain ⟨_, h2⟩ := clf p.1 p.2 hp
    exact ⟨J.freeC _ _ (clm _ _ h2), J.ok.cab _ _ rfl (clm _ _ h2)⟩
  have hok2 : HOk P w (track cl pick H1) s'.heap := track_ok J.hok fun a m _ => by
    obtain ⟨p, hp, rfl⟩ := List.mem_map.mp m
    obtain ⟨hy, h2⟩ := clf p.1 p.2 hp
    obtain ⟨a', v, u, h3, h4, h5, h6⟩ := val p.1 hy
    rw [h2] at h3
    cases h3
    rw [pick_of _ _ h2 v h6 hy]
    exact cellO_ok h4 h5
  have un2 : Un (frs outer) [] H (track cl pick H1) s.heap s'.heap := by
    have u := J.base
    refine ⟨u.keep, u.slot, fun b o q n hb => ?_, u.there, fun b xs q => track_some (u.tups b xs q), fun b o xs q => track_some (u.frzs b o xs q), fun b xs q => ?_⟩
    · rw [track_out fun m => absurd (Heap.lt_size q) (Nat.not_lt.mpr (offc b m).2)]
      exact u.free b o q n hb
    · obtain ⟨more, h2⟩ := u.tbls b xs q
      exact ⟨more, track_some h2⟩
  refine ⟨.ref f', track cl pick H1, J.os, J.bare, un2, hok2, rfl, hend f' _ cl c' (fun b o q n => track_some (e1 b o q n)) (fun b q => e2 b (track_none q).1) (e3.ext fun b o q => track_some q) e4 ?_⟩
  refine ⟨track_some e5, track_some e6, ?_, fun y a e => ?_, fun x y a h1 h2 => J.ok.inj _ _ _ (clm _ _ h1) (clm _ _ h2), fun m y e => ?_⟩
  · have := congrArg List.length hix
    rw [List.length_map, List.length_map] at this
    rw [List.length_map]; exact this
  · have m : a ∈ cl.map (·.2) := List.mem_map.mpr ⟨(y, a), e, rfl⟩
    exact ⟨_, track_cell (offc a m).1 m⟩
  · have hy := List.mem_of_getElem? e
    obtain ⟨a, v, u, h3, h4, h5, h6⟩ := val y hy
    have m' : a ∈ cl.map (·.2) := List.mem_map.mpr ⟨(y, a), PySem.mem_of_lookup h3, rfl⟩
    refine ⟨a, v, h3, h6 m e, ?_⟩
    rw [track_cell (offc a m').1 m', pick_of _ _ h3 v h6 hy]

/-! ### such a function called -/
def untrack (cl : List (Str × Addr)) (H : Hp) : Hp := fun b => if b ∈ cl.map (·.2) then none else H b
def retrack (cl : List (Str × Addr)) (H H' : Hp) : Hp := fun b => match H' b with
  | some o => some o
  | none => if b ∈ cl.map (·.2) then H b else none
theorem retrack_some {cl : List (Str × Addr)} {H H' : Hp} {b : Addr} {o : HO} (h : H' b = some o) : retrack cl H H' b = some o := by unfold retrack; rw [h]
theorem retrack_cell {cl : List (Str × Addr)} {H H' : Hp} {b : Addr} (h : H' b = none) (m : b ∈ cl.map (·.2)) : retrack cl H H' b = H b := by unfold retrack; rw [h]; exact if_pos m
theorem retrack_out {cl : List (Str × Addr)} {H H' : Hp} {b : Addr} (m : b ∉ cl.map (·.2)) : retrack cl H H' b = H' b := by
  unfold retrack
  cases h : H' b with
  | some o => rfl
  | none => exact if_neg m
theorem untrack_out {cl : List (Str × Addr)} {H : Hp} {b : Addr} (m : b ∉ cl.map (·.2)) : untrack cl H b = H b := if_neg m
theorem untrack_in {cl : List (Str × Addr)} {H : Hp} {b : Addr} (m : b ∈ cl.map (·.2)) : untrack cl H b = none := if_pos m
theorem untrack_some {cl : List (Str × Addr)} {H : Hp} {b : Addr} {o : HO} (h : untrack cl H b = some o) : b ∉ cl.map (·.2) ∧ H b = some o := by
  unfold untrack at h
  by_cases m : b ∈ cl.map (·.2)
  · rw [if_pos m] at h; cases h
  · rw [if_neg m] at h; exact ⟨m, h⟩
/-- no function, no cell -/
def Low : HO → Prop
  | .ext _ => False
  | _ => True
/-- what such a function promises; fin hands its end back to the caller's heap -/
structure COk (P : Program) (w : World) (K : PySem.W.Frag) (mg : Str → Option Value) (base : Heap) (CX : CXT) (k : Nat) (st : Stmt) (nm qual : Str) (ps fr : List Str) (sp : List V → Sp) : Prop where
  len : ∀ ws vs H Q E, sp ws vs H Q E → vs.length = ps.length
  run : ∀ (A : Around) (outer : List Env) (s : Shared) (H : Hp) (us : List Value) (vs : List V) (f : Addr) (cl : List (Str × Addr)) (c' : Addr) (ws : List V) (Q : VK) (E : XK), Room k A → Env0 P w K mg base A outer s H → Clo H f st nm qual fr ws cl c' → Vals vs us → sp ws vs H Q E →
    codeAny (model P w) A (.call (.ref f) ⟨us, []⟩) (CR CX0 outer P w H s Q E) s
theorem clo_mem {H : Hp} {f : Addr} {st : Stmt} {nm qual : Str} {fr : List Str} {ws : List V} {cl : List (Str × Addr)} {c' : Addr} (C : Clo H f st nm qual fr ws cl c') {b : Addr} (m : b ∈ cl.map (·.2)) : ∃ v, H b = some (cellO b v) := by
  obtain ⟨p, hp, rfl⟩ := List.mem_map.mp m
  exact C.cells p.1 p.2 hp
theorem cok_of {k : Nat} {st : Stmt} {nm qual : Str} {N ps fr : List Str} {sp : List V → Sp} (S : NScope N ps fr (C8.fnScope st))
    (hb : ∀ (cl : List (Str × Addr)) (c' : Addr) (doc pm ctv : Value) (us : List Value), us.length = ps.length → bindArgs ((NF.of st nm qual cl c').fd doc pm ctv) ⟨us, []⟩ = pure (ps.zip us)) (len : ∀ ws vs H Q E, sp ws vs H Q E → vs.length = ps.length)
    (hbody : ∀ (A : Around) (outer : List Env) (s : Shared) (f : Addr) (cl : List (Str × Addr)) (c' : Addr) (H H0 : Hp) (vs : List V) (ws : List V) (Q Q0 : VK) (E : XK), Room k (A.deeper (envF (NF.of st nm qual cl c') f s.heap.objs.size)) → sp ws vs H Q E → ws.length = fr.length →
      (∀ b o, H b = some o → Low o → H0 b = some o) → (∀ (v : V) (M : List Addr) (H2 : Hp), Stp M H0 H2 → (∀ H', Stp M H H' → (∀ b o, H2 b = some o → H' b = some o) → Q v H') → Q0 v H2) →
      ∃ t, PSs (ncx CX0 P w K mg base N (NF.of st nm qual cl c') f A outer s H0 E) (C8.fnBody st) t ∧ t { nx := fun _ H' => Q0 .non H', rt := Q0 } (startF N vs (ws.map some)) H0) :
    COk P w K mg base CX (k + 1) st nm qual ps fr sp := by
  refine ⟨len, fun A outer s H us vs f cl c' ws Q E hr e0 C r hsp => ?_⟩
  have cellN : ∀ b, b ∈ cl.map (·.2) → ∃ v, H b = some (cellO b v) := fun b m => clo_mem C m
  have lo : ∀ b o, H b = some o → (∀ v, o ≠ cellO b v) → untrack cl H b = some o := fun b o e n => by
    rw [untrack_out fun m => ?_]
    · exact e
    · obtain ⟨v, hv⟩ := cellN b m
      rw [e] at hv
      exact n v (Option.some.inj hv)
  have nf : untrack cl H f = some (FnO f (NF.of st nm qual cl c')) := by
    have ho := fnO_at e0.hok C.fn
    rw [untrack_out fun m => ?_]
    · exact C.fn
    · obtain ⟨v, hv⟩ := cellN f m
      obtain ⟨u, _, o, h1, h2⟩ := cellO_at e0.hok hv
      obtain ⟨od, sl, doc, pm, ctv, h3⟩ := ho
      rw [h1] at h3
      cases h3
      cases h2
  have nc : untrack cl H c' = some (CodeO c' qual) := by
    have ho := codeO_at e0.hok C.code
    rw [untrack_out fun m => ?_]
    · exact C.code
    · obtain ⟨v, hv⟩ := cellN c' m
      obtain ⟨u, _, o, h1, h2⟩ := cellO_at e0.hok hv
      obtain ⟨c2, oc, vs2, t, e1, h3, h4, _⟩ := ho
      cases e1
      rw [h1] at h3
      cases h3
      rw [h2] at h4
      cases h4
  have hok0 : HOk P w (untrack cl H) s.heap := fun b o e => by
    obtain ⟨m, e⟩ := untrack_some e
    refine (e0.hok b o e).stay (fun _ _ _ z => z) (fun d z => lo d _ z fun v q => ?_) fun d xs z => lo d _ z fun v q => ?_
    · cases q
    · cases q
  have env0 : Env0 P w K mg base A outer s (untrack cl H) := ⟨e0.frames, e0.mod, fun b o e => ⟨(e0.bs b o e).1, by
      unfold untrack
      split
      · rfl
      · exact (e0.bs b o e).2⟩, e0.bsz, e0.funs, fun b hb => by
      unfold untrack
      split
      · rfl
      · exact e0.frf b hb, hok0, e0.bare⟩
  have cells : CellsAt cl fr (ws.map some) s.heap (untrack cl H) := by
    refine ⟨by rw [List.length_map]; exact C.len, fun y a e => ?_, C.inj, fun i y e => ?_⟩
    · have m : a ∈ cl.map (·.2) := List.mem_map.mpr ⟨(y, a), PySem.mem_of_lookup e, rfl⟩
      obtain ⟨v, hv⟩ := cellN a m
      obtain ⟨u, _, z⟩ := cellO_at e0.hok hv
      exact ⟨untrack_in m, _, z⟩
    · obtain ⟨a, v, h1, h2, h3⟩ := C.has i y e
      refine ⟨a, h1, fun v' e' => ?_⟩
      rw [List.getElem?_map, h2] at e'
      cases e'
      exact cellO_at e0.hok h3
  let Q0 : VK := fun v H2 => (∀ b ∈ cl.map (·.2), H2 b = none) → Q v (retrack cl H H2)
  have nok : NOk P w K mg base CX0 (k + 1) f (NF.of st nm qual cl c') ps fr (fun ws' vs' H' Q' E' => ws' = ws.map some ∧ vs' = vs ∧ H' = untrack cl H ∧ Q' = Q0 ∧ E' = E) := by
    refine nok_of S (hb cl c') (fun _ _ _ _ _ h => by obtain ⟨_, rfl, _⟩ := h; exact len _ _ _ _ _ hsp) fun A1 outer1 s1 H1 vs1 ws1 Q1 E1 hr1 hf hc hl h => ?_
    obtain ⟨rfl, rfl, rfl, rfl, rfl⟩ := h
    refine hbody A1 outer1 s1 f cl c' H _ vs1 ws Q Q0 E1 hr1 hsp C.len (fun b o e n => lo b o e fun v q => ?_) fun v M H2 st2 hq hc2 => ?_
    · subst q; exact n
    · refine hq _ ⟨fun b o e n => ?_, fun b e => ?_⟩ fun b o e => retrack_some e
      · by_cases m : b ∈ cl.map (·.2)
        · rw [retrack_cell (hc2 b m) m]; exact e
        · exact retrack_some (st2.same b o (by rw [untrack_out m]; exact e) n)
      · by_cases m : b ∈ cl.map (·.2)
        · rw [retrack_cell (hc2 b m) m] at e; exact e
        · rw [retrack_out m] at e
          have := st2.dom b e
          rw [untrack_out m] at this
          exact this
  refine codeAny_mono (nok.run A outer s _ us vs _ Q0 E hr env0 nf nc cells r ⟨rfl, rfl, rfl, rfl, rfl⟩) fun rr s' hq => ?_
  cases rr with
  | error e => exact hq
  | ok fl =>
    cases fl with
    | next => exact hq
    | brk => exact hq
    | cont => exact hq
    | ret u =>
      obtain ⟨v, H2, os, bare, un, hok2, rv, q⟩ := hq
      have cellAt : ∀ b, b ∈ cl.map (·.2) → ∃ v u o, H b = some (cellO b v) ∧ L2.RelV v u ∧ s.heap.get? b = some o ∧ o.data = .cell (some u) ∧ untrack cl H b = none := fun b m => by
        obtain ⟨v, hv⟩ := cellN b m
        obtain ⟨u, h1, o, h2, h3⟩ := cellO_at e0.hok hv
        exact ⟨v, u, o, hv, h1, h2, h3, untrack_in m⟩
      have free2 : ∀ b ∈ cl.map (·.2), H2 b = none := fun b m => by
        obtain ⟨v, u, o, h1, h2, h3, h4, h5⟩ := cellAt b m
        exact un.free b o h3 h5 (by simp)
      refine ⟨v, retrack cl H H2, os, bare, ?_, ?_, rv, q free2⟩
      · have un0 : ∀ b, H b = none → untrack cl H b = none := fun b e => by
          unfold untrack
          split
          · rfl
          · exact e
        refine ⟨fun b o e n hb hx => un.keep b o e (un0 b n) hb hx, fun b o e n hb hx => un.slot b o e (un0 b n) hb hx, fun b o e n hx => ?_, un.there, fun b xs e => ?_, fun b o xs e => ?_, fun b xs e => ?_⟩
        · have m : b ∉ cl.map (·.2) := fun m => by
            obtain ⟨v, hv⟩ := cellN b m
            rw [n] at hv; cases hv
          rw [retrack_out m]
          exact un.free b o e (un0 b n) hx
        · exact retrack_some (un.tups b xs (lo b _ e fun v q => by cases q))
        · exact retrack_some (un.frzs b o xs (lo b _ e fun v q => by cases q))
        · obtain ⟨more, h2⟩ := un.tbls b xs (lo b _ e fun v q => by cases q)
          exact ⟨more, retrack_some h2⟩
      · intro b o e
        cases q2 : H2 b with
        | some u2 =>
          rw [retrack_some q2] at e
          cases e
          exact (hok2 b o q2).stay (fun _ _ _ z => z) (fun d z => retrack_some z) fun d xs z => retrack_some z
        | none =>
          by_cases m : b ∈ cl.map (·.2)
          · rw [retrack_cell q2 m] at e
            obtain ⟨v, u, o1, h1, h2, h3, h4, h5⟩ := cellAt b m
            rw [h1] at e
            cases e
            obtain ⟨sl, h6⟩ := un.any h3 h5 (by simp)
            exact cellO_ok h2 ⟨_, h6, h4⟩
          · rw [retrack_out m, q2] at e; cases e

/-- functions that a name may hold, by what they promise -/
structure TelOk (P : Program) (w : World) (K : PySem.W.Frag) (mg : Str → Option Value) (base : Heap) (k : Nat) (at_ : Addr → Hp → Prop) (sp : Addr → Sp) : Prop where
  fn : ∀ (H : Hp) (h : Heap) (f : Addr), HOk P w H h → at_ f H → PySem.W.FnAt f h
  ok : ∀ f vs H Q E, sp f vs H Q E → at_ f H
  run : ∀ (A : Around) (outer : List Env) (s : Shared) (H : Hp) (us : List Value) (vs : List V) (f : Addr) (Q : VK) (E : XK), Room k A → Env0 P w K mg base A outer s H → Vals vs us → sp f vs H Q E →
    codeAny (model P w) A (.call (.ref f) ⟨us, []⟩) (CR CX0 outer P w H s Q E) s
theorem COk.tel {k : Nat} {st : Stmt} {nm qual : Str} {ps fr : List Str} {sp : List V → Sp} (c : COk P w K mg base CX k st nm qual ps fr sp) :
    TelOk P w K mg base k (fun f H => ∃ ws cl c', Clo H f st nm qual fr ws cl c') (fun f vs H Q E => ∃ ws cl c', Clo H f st nm qual fr ws cl c' ∧ sp ws vs H Q E) := by
  refine ⟨fun H h f hok ⟨ws, cl, c', C⟩ => ?_, fun f vs H Q E ⟨ws, cl, c', C, _⟩ => ⟨ws, cl, c', C⟩, fun A outer s H us vs f Q E hr e0 r ⟨ws, cl, c', C, q⟩ => c.run A outer s H us vs f cl c' ws Q E hr e0 C r q⟩
  obtain ⟨od, sl, doc, pm, ctv, ho⟩ := fnO_at hok C.fn
  exact ⟨_, od, _, sl, ho⟩
theorem TelOk.or {k : Nat} {a1 a2 : Addr → Hp → Prop} {s1 s2 : Addr → Sp} (t1 : TelOk P w K mg base k a1 s1) (t2 : TelOk P w K mg base k a2 s2) :
    TelOk P w K mg base k (fun f H => a1 f H ∨ a2 f H) (fun f vs H Q E => s1 f vs H Q E ∨ s2 f vs H Q E) :=
  ⟨fun H h f hok a => a.elim (t1.fn H h f hok) (t2.fn H h f hok), fun f vs H Q E q => q.imp (t1.ok f vs H Q E) (t2.ok f vs H Q E), fun A outer s H us vs f Q E hr e0 r q => q.elim (t1.run A outer s H us vs f Q E hr e0 r) (t2.run A outer s H us vs f Q E hr e0 r)⟩
end
/-- f(..), f a local name -/
def tTel (i : Nat) (at_ : Addr → Hp → Prop) (sp : Addr → Sp) (t : TA) : TE := fun σ H Q => ∃ f, σ[i]? = some (some (.ref f)) ∧ at_ f H ∧ t σ H fun vs H1 => sp f vs H1 Q (fun _ _ _ => False)
section
variable {X : Cx} {k j i : Nat} {at_ : Addr → Hp → Prop} {sp : Addr → Sp} {t : TA} {x : Str} {e : Expr} {es : List Expr} {p pos : Pos}
theorem pe_callTel (c : TelOk X.prog X.w X.K X.mg X.base j at_ sp) (hr : Room k X.A) (hN : X.N[i]? = some x) (hv : Vis X.env.scope x) (ha : PA X (e :: es) t) (hk : j ≤ k := by decide)
    (hd : (x == ("__debug__" : Str)) = false := by decide) (hcd : (x == ("__classdict__" : Str)) = false := by decide)
    (he : starEach (e :: es) X.env = (false, eval e X.env) :: starEach es X.env := by rfl) (hpl : (backTo pos (starEach es X.env)).any (·.1) = false := by rfl) :
    PE X (.Call (.Name x p) (e :: es) [] pos) (tTel i at_ sp t) := by
  refine ⟨fun pins s σ H Q I h => ?_⟩
  obtain ⟨f, hs, hf, ht⟩ := h
  refine wpAny_Call_Name_kw (thn ((pe_var (pos := p) hN hv hd hcd).run pins s σ H (fun v H1 => v = .ref f ∧ H1 = H) I ⟨.ref f, hs, rfl, rfl⟩) fun u s1 ⟨v, H1, I1, r1, q1⟩ => ?_)
  obtain ⟨ev, eH⟩ := q1
  subst ev
  subst eH
  obtain rfl : u = Value.ref f := r1
  refine PySem.W.callWith_F (first := []) (c.fn H1 s1.heap f I1.hok hf) (thn (ha.run pos pins s1 σ H1 _ I1 ht) fun us s2 ⟨vs, H2, I2, r, q⟩ => ⟨c.fn H2 s2.heap f I2.hok (c.ok f vs H2 _ _ q), ?_⟩) he hpl
  show wpAny _ _ (call (.ref f) us) _ _ _
  refine wpAny_call (codeAny_mono (c.run X.A X.stack s2 H2 us vs f Q _ (hr.mono hk) I2.env0 r q) fun r s' hq => ?_)
  cases r with
  | error e => exact hq.elim
  | ok fl =>
    cases fl with
    | ret u => exact I2.after hq
    | next => exact False.elim hq
    | brk => exact False.elim hq
    | cont => exact False.elim hq
theorem r_tel {σ : L2.St} {H : Hp} {Q : VK} {f : Addr} (hs : σ[i]? = some (some (.ref f))) (h : at_ f H) (k : t σ H fun vs H1 => sp f vs H1 Q (fun _ _ _ => False)) : tTel i at_ sp t σ H Q := ⟨f, hs, h, k⟩
end
end SH

set_option Elab.async false
set_option linter.all false
set_option maxRecDepth 100000
set_option maxHeartbeats 4000000
/-! SHE: data, and what == tells of it -/
namespace SH
open PySem PySem.Spec PyProof.Rows L2

/-- Lean values that stand in the heap as data; n: how deep -/
class Enc (α : Type) where
  dec : DecidableEq α
  d : α → PyData
  n : Nat
  lay : ∀ x, (d x).canLay0 = true
  deep : ∀ x, (d x).depth ≤ n
  eqv : ∀ x y, PyData.eqv (d x) (d y) = @decide (x = y) (dec x y)
/-- a tuple of one kind of things -/
structure Tu (α : Type) where
  l : List α
theorem Enc.deepAll {α : Type} [Enc α] : ∀ xs : List α, PyData.depthAll (xs.map Enc.d) ≤ Enc.n α
  | [] => by simp [PyData.depthAll]
  | x :: xs => by
    have h1 := Enc.deep x
    have h2 := Enc.deepAll xs
    simp only [List.map_cons, PyData.depthAll]
    omega
theorem Enc.layAll {α : Type} [Enc α] : ∀ xs : List α, PyData.canLayAll0 (xs.map Enc.d) = true
  | [] => by simp [PyData.canLayAll0]
  | x :: xs => by simp only [List.map_cons, PyData.canLayAll0, Enc.lay x, Enc.layAll xs, Bool.and_self]
theorem Enc.eqvAll {α : Type} [Enc α] : ∀ xs ys : List α, PyData.eqvAll (xs.map Enc.d) (ys.map Enc.d) = @decide (xs = ys) (@instDecidableEqList α Enc.dec xs ys)
  | [], [] => by simp [PyData.eqvAll]
  | x :: xs, [] => by simp [PyData.eqvAll]
  | [], y :: ys => by simp [PyData.eqvAll]
  | x :: xs, y :: ys => by
    rw [List.map_cons, List.map_cons, show PyData.eqvAll (Enc.d x :: xs.map Enc.d) (Enc.d y :: ys.map Enc.d) = (PyData.eqv (Enc.d x) (Enc.d y) && PyData.eqvAll (xs.map Enc.d) (ys.map Enc.d)) by simp only [PyData.eqvAll], Enc.eqv, Enc.eqvAll xs ys]
    have : ∀ (A B C : Prop) (a : Decidable A) (b : Decidable B) (c : Decidable C), (C ↔ A ∧ B) → (@decide A a && @decide B b) = @decide C c := by
      intro A B C a b c h
      by_cases ha : A <;> by_cases hb : B <;> simp [ha, hb, h]
    exact this _ _ _ _ _ _ (by simp)
instance : Enc Int := ⟨inferInstance, .int, 0, fun _ => by simp [PyData.canLay0], fun _ => by simp [PyData.depth], fun x y => by by_cases h : x = y <;> simp [PyData.eqv, h]⟩
instance : Enc Bool := ⟨inferInstance, .bool, 0, fun _ => by simp [PyData.canLay0], fun _ => by simp [PyData.depth], fun x y => by by_cases h : x = y <;> simp [PyData.eqv, h]⟩
instance : Enc Nat := ⟨inferInstance, fun n => .int n, 0, fun _ => by simp [PyData.canLay0], fun _ => by simp [PyData.depth], fun x y => by
  rw [show PyData.eqv (.int (x : Int)) (.int (y : Int)) = ((x : Int) == (y : Int)) by simp only [PyData.eqv]]
  by_cases h : x = y
  · subst h; simp
  · rw [decide_eq_false h]
    exact beq_eq_false_iff_ne.mpr (by omega)⟩
instance {α : Type} [e : Enc α] : Enc (List α) := ⟨@instDecidableEqList α e.dec, fun xs => .list (xs.map Enc.d), Enc.n α + 1, fun xs => by simp only [PyData.canLay0]; exact Enc.layAll xs,
  fun xs => by simp only [PyData.depth]; exact Nat.succ_le_succ (Enc.deepAll xs), fun xs ys => by simp only [PyData.eqv]; exact Enc.eqvAll xs ys⟩
instance {α : Type} [e : Enc α] : Enc (Tu α) := ⟨fun a b => @decidable_of_iff _ (a.l = b.l) (by cases a; cases b; simp) (@instDecidableEqList α e.dec a.l b.l), fun xs => .tuple (xs.l.map Enc.d), Enc.n α + 1, fun xs => by simp only [PyData.canLay0]; exact Enc.layAll xs.l,
  fun xs => by simp only [PyData.depth]; exact Nat.succ_le_succ (Enc.deepAll xs.l), fun xs ys => by
    simp only [PyData.eqv]
    rw [Enc.eqvAll xs.l ys.l]
    cases xs; cases ys
    simp⟩
instance {α β : Type} [e : Enc α] [f : Enc β] : Enc (α × β) := ⟨@instDecidableEqProd α β e.dec f.dec, fun x => .tuple [Enc.d x.1, Enc.d x.2], max (Enc.n α) (Enc.n β) + 1,
  fun x => by simp only [PyData.canLay0, PyData.canLayAll0, Enc.lay]; rfl,
  fun x => by
    have h1 := Enc.deep x.1
    have h2 := Enc.deep x.2
    simp only [PyData.depth, PyData.depthAll]; omega, fun x y => by
    simp only [PyData.eqv, PyData.eqvAll, Enc.eqv, Bool.and_true]
    obtain ⟨a, b⟩ := x
    obtain ⟨c, d⟩ := y
    by_cases ha : a = c <;> by_cases hb : b = d <;> simp [ha, hb]⟩
/-- three in a tuple -/
structure T3 (α β γ : Type) where
  a : α
  b : β
  c : γ
deriving DecidableEq
instance {α β γ : Type} [e : Enc α] [f : Enc β] [g : Enc γ] : Enc (T3 α β γ) := ⟨@instDecidableEqT3 α β γ e.dec f.dec g.dec, fun x => .tuple [Enc.d x.a, Enc.d x.b, Enc.d x.c], max (Enc.n α) (max (Enc.n β) (Enc.n γ)) + 1,
  fun x => by simp only [PyData.canLay0, PyData.canLayAll0, Enc.lay]; rfl,
  fun x => by
    have h1 := Enc.deep x.a
    have h2 := Enc.deep x.b
    have h3 := Enc.deep x.c
    simp only [PyData.depth, PyData.depthAll]; omega, fun x y => by
    simp only [PyData.eqv, PyData.eqvAll, Enc.eqv, Bool.and_true]
    obtain ⟨a, b, c⟩ := x
    obtain ⟨a', b', c'⟩ := y
    by_cases ha : a = a' <;> by_cases hb : b = b' <;> by_cases hc : c = c' <;> simp [ha, hb, hc]⟩

/-- a text of plain signs -/
abbrev SOk := { s : Str // PyData.canLay0 (.str s) = true }
instance : Enc SOk := ⟨inferInstance, fun s => .str s.1, 0, fun s => s.2, fun _ => by simp [PyData.depth], fun x y => by
  rw [show PyData.eqv (.str x.1) (.str y.1) = (x.1 == y.1) by simp only [PyData.eqv]]
  by_cases h : x = y
  · subst h; simp
  · rw [decide_eq_false h]
    exact beq_eq_false_iff_ne.mpr fun z => h (Subtype.ext z)⟩

mutual
theorem dp_stp {K : PySem.W.Frag} {H H' : Hp} (S : Stp [] H H') : ∀ (d : PyData) (v : V), Dp K H v d → Dp K H' v d
  | .none, _, h => by cases h; exact .non
  | .bool _, _, h => by cases h; exact .bl _
  | .int _, _, h => by cases h; exact .int _
  | .str _, _, h => by cases h; exact .str _
  | .list ds, _, h => by
    cases h with
    | lst hs ha => exact .lst (S.sql0 hs) (dp_stpAll S ds _ ha)
  | .tuple ds, _, h => by
    cases h with
    | tup hs ha => exact .tup (S.sqt0 hs) (dp_stpAll S ds _ ha)
  | .dict _, _, h => by cases h
theorem dp_stpAll {K : PySem.W.Frag} {H H' : Hp} (S : Stp [] H H') : ∀ (ds : List PyData) (vs : List V), DpAll K H vs ds → DpAll K H' vs ds
  | [], _, h => by cases h; exact .nil
  | d :: ds, _, h => by
    cases h with
    | cons h1 h2 => exact .cons (dp_stp S d _ h1) (dp_stpAll S ds _ h2)
end

mutual
/-- no list in it -/
def noL : PyData → Bool
  | .none | .bool _ | .int _ | .str _ => true
  | .tuple xs => noLs xs
  | .list _ => false
  | .dict _ => false
def noLs : List PyData → Bool
  | [] => true
  | x :: xs => noL x && noLs xs
end
mutual
theorem dp_stpM {K : PySem.W.Frag} {M : List Addr} {H H' : Hp} (S : Stp M H H') : ∀ (d : PyData) (v : V), noL d = true → Dp K H v d → Dp K H' v d
  | .none, _, _, h => by cases h; exact .non
  | .bool _, _, _, h => by cases h; exact .bl _
  | .int _, _, _, h => by cases h; exact .int _
  | .str _, _, _, h => by cases h; exact .str _
  | .list _, _, n, _ => by simp [noL] at n
  | .tuple ds, _, n, h => by
    cases h with
    | tup hs ha => exact .tup (S.sqtM hs) (dp_stpMs S ds _ (by simpa [noL] using n) ha)
  | .dict _, _, _, h => by cases h
theorem dp_stpMs {K : PySem.W.Frag} {M : List Addr} {H H' : Hp} (S : Stp M H H') : ∀ (ds : List PyData) (vs : List V), noLs ds = true → DpAll K H vs ds → DpAll K H' vs ds
  | [], _, _, h => by cases h; exact .nil
  | d :: ds, _, n, h => by
    have n' : noL d = true ∧ noLs ds = true := by simpa [noLs] using n
    cases h with
    | cons h1 h2 => exact .cons (dp_stpM S d _ n'.1 h1) (dp_stpMs S ds _ n'.2 h2)
end
class Flat (α : Type) [Enc α] : Prop where
  fl : ∀ x : α, noL (Enc.d x) = true
instance : Flat Int := ⟨fun _ => by simp [Enc.d, noL]⟩
instance : Flat Nat := ⟨fun _ => by simp [Enc.d, noL]⟩
instance : Flat Bool := ⟨fun _ => by simp [Enc.d, noL]⟩
instance : Flat SOk := ⟨fun _ => by simp [Enc.d, noL]⟩
instance {α β : Type} [Enc α] [Enc β] [Flat α] [Flat β] : Flat (α × β) := ⟨fun x => by simp only [Enc.d, noL, noLs, Flat.fl]; rfl⟩
instance {α β γ : Type} [Enc α] [Enc β] [Enc γ] [Flat α] [Flat β] [Flat γ] : Flat (T3 α β γ) := ⟨fun x => by simp only [Enc.d, noL, noLs, Flat.fl]; rfl⟩
theorem noLs_map {α : Type} [Enc α] [Flat α] : ∀ xs : List α, noLs (xs.map Enc.d) = true
  | [] => by simp [noLs]
  | x :: xs => by simp only [List.map_cons, noLs, Flat.fl, noLs_map xs, Bool.and_self]
instance {α : Type} [Enc α] [Flat α] : Flat (Tu α) := ⟨fun x => by simp only [Enc.d, noL]; exact noLs_map x.l⟩

/-- v is x, in the heap H -/
def Is {α : Type} [Enc α] (K : PySem.W.Frag) (H : Hp) (v : V) (x : α) : Prop := Dp K H v (Enc.d x)
def IsL {α : Type} [Enc α] (K : PySem.W.Frag) (H : Hp) (vs : List V) (xs : List α) : Prop := DpAll K H vs (xs.map Enc.d)
section
variable {K : PySem.W.Frag} {H H' : Hp} {α β γ : Type} [Enc α] [Enc β] [Enc γ] {p : Addr} {vs : List V} {xs : List α} {v u t : V} {x y : α} {b : β} {c : γ} {Q : VK}
theorem is_int {n : Int} : Is K H (.int n) n := .int n
theorem is_nat {n : Nat} : Is K H (.int n) n := .int n
theorem is_str {s : Str} (h : PyData.canLay0 (.str s) = true) : Is K H (.str s) (⟨s, h⟩ : SOk) := .str s
theorem is_stp (S : Stp [] H H') (h : Is K H v x) : Is K H' v x := dp_stp S _ _ h
theorem isl_stp (S : Stp [] H H') (h : IsL K H vs xs) : IsL K H' vs xs := dp_stpAll S _ _ h
theorem is_stpM [Flat α] {M : List Addr} (S : Stp M H H') (h : Is K H v x) : Is K H' v x := dp_stpM S _ _ (Flat.fl x) h
theorem isl_stpM [Flat α] {M : List Addr} (S : Stp M H H') (h : IsL K H vs xs) : IsL K H' vs xs := dp_stpMs S _ _ (noLs_map xs) h
theorem is_bl {b : Bool} : Is K H (.bl b) b := .bl b
theorem is_lst (h : SqL K H p vs) (k : IsL K H vs xs) : Is K H (.ref p) xs := .lst h k
theorem is_tu (h : SqT K H p vs) (k : IsL K H vs xs) : Is K H (.ref p) (Tu.mk xs) := .tup h k
theorem is_pr (h : SqT K H p [v, u]) (k : Is K H v x) (l : Is K H u b) : Is K H (.ref p) (x, b) := .tup h (.cons k (.cons l .nil))
theorem is_t3 (h : SqT K H p [v, u, t]) (k : Is K H v x) (l : Is K H u b) (m : Is K H t c) : Is K H (.ref p) (T3.mk x b c) := .tup h (.cons k (.cons l (.cons m .nil)))
theorem isl_nil : IsL K H [] ([] : List α) := .nil
theorem isl_cons (h : Is K H v x) (k : IsL K H vs xs) : IsL K H (v :: vs) (x :: xs) := .cons h k
theorem isl_map {f : α → V} (h : ∀ x ∈ xs, Is K H (f x) x) : IsL K H (xs.map f) xs := by
  induction xs with
  | nil => exact .nil
  | cons x xs ih => exact .cons (h x (by simp)) (ih fun y hy => h y (by simp [hy]))
theorem isl_map2 {β : Type} {l : List β} {f : β → V} {g : β → α} (h : ∀ b ∈ l, Is K H (f b) (g b)) : IsL K H (l.map f) (l.map g) := by
  induction l with
  | nil => exact .nil
  | cons x xs ih => exact .cons (h x (by simp)) (ih fun y hy => h y (by simp [hy]))
theorem isl_ints {ns : List Int} : IsL K H (ns.map V.int) ns := isl_map fun _ _ => is_int
theorem isl_nats {ns : List Nat} : IsL K H (ns.map fun n : Nat => V.int n) ns := isl_map fun _ _ => is_nat
theorem isl_bls {ns : List Bool} : IsL K H (ns.map V.bl) ns := isl_map fun _ _ => is_bl
theorem isl_app {vs' : List V} {xs' : List α} (h : IsL K H vs xs) (k : IsL K H vs' xs') : IsL K H (vs ++ vs') (xs ++ xs') := by
  induction vs generalizing xs with
  | nil => cases xs with
    | nil => exact k
    | cons x xs => cases h
  | cons v vs ih => cases xs with
    | nil => cases h
    | cons x xs => cases h with | cons h1 h2 => exact .cons h1 (ih (xs := xs) h2)
theorem isl_len (h : IsL K H vs xs) : vs.length = xs.length := by
  induction vs generalizing xs with
  | nil => cases xs with
    | nil => rfl
    | cons x xs => cases h
  | cons v vs ih => cases xs with
    | nil => cases h
    | cons x xs => cases h with | cons h1 h2 => simp [ih (xs := xs) h2]
theorem isl_at {i : Nat} {v : V} (h : IsL K H vs xs) (e : vs[i]? = some v) : ∃ x, xs[i]? = some x ∧ Is K H v x := by
  induction vs generalizing xs i with
  | nil => cases e
  | cons w vs ih => cases xs with
    | nil => cases h
    | cons x xs => cases h with | cons h1 h2 => cases i with
      | zero => cases e; exact ⟨x, rfl, h1⟩
      | succ i => exact ih (xs := xs) h2 e
theorem isl_get {i : Nat} {x : α} (h : IsL K H vs xs) (e : xs[i]? = some x) : ∃ v, vs[i]? = some v ∧ Is K H v x := by
  induction vs generalizing xs i with
  | nil => cases xs with
    | nil => cases e
    | cons x xs => cases h
  | cons w vs ih => cases xs with
    | nil => cases h
    | cons y xs => cases h with | cons h1 h2 => cases i with
      | zero => cases e; exact ⟨w, rfl, h1⟩
      | succ i => exact ih (xs := xs) h2 e
theorem is_shaped (hn : Enc.n α ≤ 64) : SeqAt.shaped (Enc.d x) = true := by
  unfold SeqAt.shaped
  rw [Enc.lay]
  exact decide_eq_true (Nat.le_trans (Enc.deep x) hn)
theorem v_eqE (h1 : Is K H v x) (h2 : Is K H u y) (k : Q (.bl (@decide (x = y) (Enc.dec x y))) H) (hn : Enc.n α ≤ 64 := by decide) : aEq K v u H Q :=
  v_eqD h1 h2 (is_shaped hn) (is_shaped hn) (by rw [Enc.eqv]; exact k)
theorem v_neE (h1 : Is K H v x) (h2 : Is K H u y) (k : Q (.bl (!@decide (x = y) (Enc.dec x y))) H) (hn : Enc.n α ≤ 64 := by decide) : aNe K v u H Q :=
  v_neD h1 h2 (is_shaped hn) (is_shaped hn) (by rw [Enc.eqv]; exact k)
theorem v_eqL {ns ms : List Int} {q : Addr} (h1 : SqL K H p (ns.map V.int)) (h2 : SqL K H q (ms.map V.int)) (k : Q (.bl (decide (ns = ms))) H) : aEq K (.ref p) (.ref q) H Q :=
  v_eqE (is_lst h1 isl_ints) (is_lst h2 isl_ints) (by rw [show @decide (ns = ms) (Enc.dec ns ms) = decide (ns = ms) by congr]; exact k)
theorem v_neL {ns ms : List Int} {q : Addr} (h1 : SqL K H p (ns.map V.int)) (h2 : SqL K H q (ms.map V.int)) (k : Q (.bl (!decide (ns = ms))) H) : aNe K (.ref p) (.ref q) H Q :=
  v_neE (is_lst h1 isl_ints) (is_lst h2 isl_ints) (by rw [show @decide (ns = ms) (Enc.dec ns ms) = decide (ns = ms) by congr]; exact k)
theorem v_neL0 {ns : List Int} {q : Addr} (h1 : SqL K H p (ns.map V.int)) (h2 : SqL K H q []) (k : Q (.bl (!decide (ns = []))) H) : aNe K (.ref p) (.ref q) H Q := v_neL (ms := []) h1 h2 k
theorem v_ixLast {ys : List V} (h : SqL K H p (ys ++ [v])) (k : Q v H) : aIx K (.ref p) (.int (-1)) H Q := ⟨_, v, .inl h, atI_last ys v, k⟩
theorem v_neN0 {ns : List Nat} {q : Addr} (h1 : SqL K H p (ns.map fun n : Nat => V.int n)) (h2 : SqL K H q []) (k : Q (.bl (!decide (ns = []))) H) : aNe K (.ref p) (.ref q) H Q :=
  v_neE (y := []) (is_lst h1 isl_nats) (is_lst h2 isl_nil) (by rw [show @decide (ns = []) (Enc.dec ns []) = decide (ns = []) by congr]; exact k)
theorem v_ixMod {vs : List V} {c : Int} {m : Nat} (h : SqL K H p vs) (hl : vs.length = m) (hm : 0 < m) (k : ∀ v ∈ vs, Q v H) : aIx K (.ref p) (.int (c % (m : Int))) H Q := by
  have h0 := Int.emod_nonneg c (show (m : Int) ≠ 0 by omega)
  have h1 := Int.emod_lt_of_pos c (show (0 : Int) < m by omega)
  have e : c % (m : Int) = ((c % (m : Int)).toNat : Int) := by omega
  have hlt : (c % (m : Int)).toNat < vs.length := by omega
  exact v_ixLn h e (List.getElem?_eq_getElem hlt) (k _ (List.getElem_mem hlt))
theorem v_ixAny {vs : List V} {i : Int} {n : Nat} (h : SqL K H p vs) (e : i = n) (hn : n < vs.length) (k : ∀ v ∈ vs, Q v H) : aIx K (.ref p) (.int i) H Q := v_ixLn h e (List.getElem?_eq_getElem hn) (k _ (List.getElem_mem hn))
/-- all are ints -/
def Ints (vs : List V) : Prop := ∀ v ∈ vs, ∃ n : Int, v = .int n
theorem ints_nil : Ints [] := fun _ h => by cases h
theorem ints_cons {n : Int} {vs : List V} (h : Ints vs) : Ints (.int n :: vs) := fun v hv => by
  rcases List.mem_cons.mp hv with rfl | hv
  · exact ⟨n, rfl⟩
  · exact h v hv
/-- a place of a list of ints -/
def getE (es : List Int) (i : Nat) : Int := es.getD i 0
theorem getE_at {es : List Int} {i : Nat} (h : i < es.length) : (es.map V.int)[i]? = some (V.int (getE es i)) := by simp [getE, h]
theorem getE_app {es : List Int} {i : Nat} {y : Int} (h : i < es.length) : getE (es ++ [y]) i = getE es i := by simp [getE, List.getElem?_append, h]
theorem getE_last {es : List Int} {i : Nat} {y : Int} (h : es.length = i) : getE (es ++ [y]) i = y := by subst h; simp [getE]
theorem v_ixE {es : List Int} {i : Int} {n : Nat} (h : SqL K H p (es.map V.int)) (e : i = n) (hn : n < es.length) (k : Q (.int (getE es n)) H) : aIx K (.ref p) (.int i) H Q := v_ixLn h e (getE_at hn) k
theorem v_ixTE {es : List Int} {i : Int} {n : Nat} (h : SqT K H p (es.map V.int)) (e : i = n) (hn : n < es.length) (k : Q (.int (getE es n)) H) : aIx K (.ref p) (.int i) H Q := v_ixTn h e (getE_at hn) k
theorem v_ixEl {es : List Int} {n : Nat} (h : SqL K H p (es.map V.int)) (e : es.length = n + 1) (k : Q (.int (getE es n)) H) : aIx K (.ref p) (.int (-1)) H Q := by
  rcases List.eq_nil_or_concat es with z | ⟨ys, y, z⟩
  · subst z; cases e
  · have hz : es = ys ++ [y] := by simpa using z
    subst hz
    rw [List.map_append] at h
    have hl : ys.length = n := by simpa using e
    rw [getE_last hl] at k
    exact v_ixLast h k
theorem v_eqLL {ns ms : List Int} {q : Addr} (h1 : SqL K H p (ns.map V.int)) (h2 : SqL K H q (ms.map V.int)) (e : ns = ms) (k : Q (.bl true) H) : aEq K (.ref p) (.ref q) H Q := v_eqL h1 h2 (by rw [decide_eq_true e]; exact k)
theorem v_lenQ {n : Nat} (h : SqL K H p vs) (e : vs.length = n) (k : Q (.int n) H) : aLen K [.ref p] H Q := ⟨_, .inl h, by rw [e]; exact k⟩
theorem v_lenU {n : Nat} (h : SqT K H p vs) (e : vs.length = n) (k : Q (.int n) H) : aLen K [.ref p] H Q := ⟨_, .inr h, by rw [e]; exact k⟩
/-- tuple(xs) -/
theorem v_tuL (h : SqL K H p vs) (k : ∀ l, H l = none → Q (.ref l) (upd H l (.tup vs))) : ∃ p' ys, [V.ref p] = [.ref p'] ∧ ((SqL K H p' ys ∧ ∀ l, H l = none → Q (.ref l) (upd H l (.tup ys))) ∨ (SqT K H p' ys ∧ Q (.ref p') H)) := ⟨p, vs, rfl, .inl ⟨h, k⟩⟩
/-- xs.pop(i) -/
theorem v_popAt {i : Int} {n : Nat} (h : H p = some (.lst vs)) (e : i = n) (hn : n < 1000000) (hv : vs[n]? = some v) (k : Q v (upd H p (.lst (vs.eraseIdx n)))) : rPopAt (.ref p) [.int i] H Q := by
  refine ⟨p, vs, i, n, v, rfl, rfl, h, by omega, by omega, ?_, hv, k⟩
  subst e
  exact (ixN_seq (ixN_n (List.getElem?_eq_some_iff.mp hv).1)).1
/-- sorted(xs), ints -/
theorem v_sortI {ns : List Int} (h : SqL K H p (ns.map V.int)) (k : ∀ (ns' : List Int) (q : Addr), ns'.Perm ns → ns'.Pairwise (· ≤ ·) → H q = none → Q (.ref q) (upd H q (.lst (ns'.map V.int)))) : rSortedI K [.ref p] H Q := ⟨p, ns, rfl, h, k⟩
/-- list(range(n)) -/
def kLrg1 (Q : VK) : VK := fun x H1 => ∃ n : Int, x = .int n ∧ RgOk 0 n ∧ ∀ q, H1 q = none → Q (.ref q) (upd H1 q (.lst (rgV 0 n)))
theorem r_lrg1 {ta : TE} {σ : L2.St} (h : ta σ H (kLrg1 Q)) : tLstRg (tRg1 ta) σ H Q := h
theorem rgV_nat (n : Nat) : rgV 0 (n : Int) = (List.range n).map fun i : Nat => V.int i := by unfold rgV; simp
theorem v_lrg1 {i : Int} {n : Nat} (e : i = n) (hn : n ≤ 1000000) (k : ∀ q, H q = none → Q (.ref q) (upd H q (.lst ((List.range n).map fun i : Nat => V.int i)))) : kLrg1 Q (.int i) H := by
  refine ⟨i, rfl, RgOk.of_le (by omega) (by omega) (by omega) (by omega), ?_⟩
  rw [e, rgV_nat]
  exact k
def kLrg2 (Q : VK) (x : V) : VK := fun y H2 => ∃ i j : Int, x = .int i ∧ y = .int j ∧ RgOk i j ∧ ∀ q, H2 q = none → Q (.ref q) (upd H2 q (.lst (rgV i j)))
theorem r_lrg2 {ta tb : TE} {σ : L2.St} (h : ta σ H fun x H1 => tb σ H1 (kLrg2 Q x)) : tLstRg (tRg2 ta tb) σ H Q := h
theorem rgV_nats (n m : Nat) : rgV (n : Int) (m : Int) = (List.range' n (m - n)).map fun i : Nat => V.int i := by
  unfold rgV
  rw [show ((m : Int) - (n : Int)).toNat = m - n by omega, List.range'_eq_map_range, List.map_map]
  exact List.map_congr_left fun i _ => by simp
theorem v_lrg2 {i j : Int} {n m : Nat} (e : i = n) (e2 : j = m) (hn : n ≤ 1000000) (hm : m ≤ 1000000) (k : ∀ q, H q = none → Q (.ref q) (upd H q (.lst ((List.range' n (m - n)).map fun i : Nat => V.int i)))) : kLrg2 Q (.int i) (.int j) H := by
  refine ⟨i, j, rfl, rfl, RgOk.of_le (by omega) (by omega) (by omega) (by omega), ?_⟩
  rw [e, e2, rgV_nats]
  exact k
end
section
variable {X : Cx} {a b : Expr} {ta tb : TE} {p p2 pos pos2 : Pos}
theorem pe_listrange (hg : Gl X "list") (hm : X.mg "list" = none) (hg2 : Gl X "range") (hm2 : X.mg "range" = none) (ha : PE X a ta) (hc : X.calm = true := by rfl) (na : starEach [a] X.env = (false, eval a X.env) :: starEach [] X.env := by rfl)
    (na2 : starEach [.Call (.Name "range" p2) [a] [] pos2] X.env = (false, eval (.Call (.Name "range" p2) [a] [] pos2) X.env) :: starEach [] X.env := by rfl) : PE X (.Call (.Name "list" p) [.Call (.Name "range" p2) [a] [] pos2] [] pos) (tLstRg (tRg1 ta)) :=
  pe_listRg hc hg hm (prg_1 hg2 hm2 ha na) na2
theorem pe_listrange2 (hg : Gl X "list") (hm : X.mg "list" = none) (hg2 : Gl X "range") (hm2 : X.mg "range" = none) (ha : PE X a ta) (hb : PE X b tb) (hc : X.calm = true := by rfl) (na : starEach [a, b] X.env = (false, eval a X.env) :: starEach [b] X.env := by rfl)
    (nb : starEach [b] X.env = (false, eval b X.env) :: starEach [] X.env := by rfl) (hp : (backTo pos2 (starEach [b] X.env)).any (·.1) = false := by rfl)
    (na2 : starEach [.Call (.Name "range" p2) [a, b] [] pos2] X.env = (false, eval (.Call (.Name "range" p2) [a, b] [] pos2) X.env) :: starEach [] X.env := by rfl) : PE X (.Call (.Name "list" p) [.Call (.Name "range" p2) [a, b] [] pos2] [] pos) (tLstRg (tRg2 ta tb)) :=
  pe_listRg hc hg hm (prg_2 hg2 hm2 ha hb na nb hp) na2
end
section
variable {C : Addr} {m : Str} {sp : Sp} {dvs vs : List V} {E : XK} {ta : TE} {t : TA} {σ : L2.St} {H : Hp} {Q : VK} {a dx : Addr} {fs : List (Str × V)}
def kMeth (C : Addr) (m : Str) (sp : Sp) (dvs : List V) (E : XK) (t : TA) (σ : L2.St) (Q : VK) : VK := fun x H1 => ∃ a dx fs, x = .ref a ∧ H1 a = some (.ins C dx fs) ∧ fs.lookup m = none ∧ t σ H1 fun vs H2 => sp (x :: (vs ++ dvs)) H2 Q E
theorem r_meth (h : ta σ H (kMeth C m sp dvs E t σ Q)) : tMeth C m sp dvs E ta t σ H Q := h
theorem v_meth (h : H a = some (.ins C dx fs)) (l : fs.lookup m = none) (k : t σ H fun vs H2 => sp (.ref a :: (vs ++ dvs)) H2 Q E) : kMeth C m sp dvs E t σ Q (.ref a) H := ⟨a, dx, fs, rfl, h, l, k⟩
def kMake (C : Addr) (sp : Sp) (dvs : List V) (E : XK) (Q : VK) : List V → Hp → Prop := fun vs H1 => ∀ x dx, H1 x = none → H1 dx = none → dx ≠ x → sp (.ref x :: (vs ++ dvs)) (upd (upd H1 dx (.own x)) x (.ins C dx [])) (fun v H2 => v = .non ∧ Q (.ref x) H2) E
theorem r_make (h : t σ H (kMake C sp dvs E Q)) : tMake C sp dvs E t σ H Q := h
theorem v_make (k : ∀ x dx, H x = none → H dx = none → dx ≠ x → sp (.ref x :: (vs ++ dvs)) (upd (upd H dx (.own x)) x (.ins C dx [])) (fun v H2 => v = .non ∧ Q (.ref x) H2) E) : kMake C sp dvs E Q vs H := k
theorem isi_bl_int {K : PySem.W.Frag} {b : Bool} (k : Q (.bl true) H) : rIsi K [.bl b, .ty "int"] H Q := ⟨.bl b, .ty "int", .type "bool", .type "int", true, rfl, .ty _, .base (.bl b), by rfl, k⟩
theorem isi_bl_bool {K : PySem.W.Frag} {b : Bool} (k : Q (.bl true) H) : rIsi K [.bl b, .ty "bool"] H Q := ⟨.bl b, .ty "bool", .type "bool", .type "bool", true, rfl, .ty _, .base (.bl b), by rfl, k⟩
theorem isi_L {K : PySem.W.Frag} {xs : List V} (h : H a = some (.lst xs)) (k : Q (.bl true) H) : rIsi K [.ref a, .ty "list"] H Q := ⟨.ref a, .ty "list", .type "list", .type "list", true, rfl, .ty _, .base (.lst h), by rfl, k⟩
theorem isi_T {K : PySem.W.Frag} {xs : List V} (h : H a = some (.tup xs)) (k : Q (.bl true) H) : rIsi K [.ref a, .ty "tuple"] H Q := ⟨.ref a, .ty "tuple", .type "tuple", .type "tuple", true, rfl, .ty _, .base (.tup h), by rfl, k⟩
end
section
variable {f g : Str} {v x : V} {r r' : List (Str × V)} {a1 a2 a3 a4 a5 a6 : Str × V}
theorem pf_nil : putF f v [] = [(f, v)] := rfl
theorem pf_hit : putF f v ((f, x) :: r) = (f, v) :: r := by simp [putF]
theorem pf_miss (h : g ≠ f) (k : putF f v r = r') : putF f v ((g, x) :: r) = (g, x) :: r' := by simp [putF, h, k]
theorem few0 : ([] : List (Str × V)).length < 1000 := by simp
theorem few1 : [a1].length < 1000 := by simp
theorem few2 : [a1, a2].length < 1000 := by simp
theorem few3 : [a1, a2, a3].length < 1000 := by simp
theorem few4 : [a1, a2, a3, a4].length < 1000 := by simp
theorem few5 : [a1, a2, a3, a4, a5].length < 1000 := by simp
theorem few6 : [a1, a2, a3, a4, a5, a6].length < 1000 := by simp
end
theorem mul64 {i j : Int} (h : -18446744073709551616 < i ∧ i < 18446744073709551616) (k : -18446744073709551616 < j ∧ j < 18446744073709551616) : IntMulOk i j :=
  (mulx_ok (a := 64) (b := 64) (by have : (2 : Nat) ^ 64 = 18446744073709551616 := by decide
                                   omega) (by have : (2 : Nat) ^ 64 = 18446744073709551616 := by decide
                                              omega) (by decide)).ok
theorem ne_of_none' {H : Hp} {a p : Addr} {o : HO} (hp : H p = none) (h : H a = some o) : a ≠ p := ne_of_none h hp
theorem r_ty {K : PySem.W.Frag} {H : Hp} {p : Addr} {xs : List V} {B : Prop} (h : H p = some (.lst xs)) (k : B) : tyV K "list" (.ref p) H ∧ B := ⟨ty_list h, k⟩
/-! built-ins by names of their own -/
def rListOf (K : PySem.W.Frag) : List V → Hp → VK → Prop := fun xs H Q => ∃ p ys, xs = [.ref p] ∧ (SqL K H p ys ∨ SqT K H p ys) ∧ ∀ l, H l = none → Q (.ref l) (upd H l (.lst ys))
def rTupOf (K : PySem.W.Frag) : List V → Hp → VK → Prop := fun xs H Q => ∃ p ys, xs = [.ref p] ∧ ((SqL K H p ys ∧ ∀ l, H l = none → Q (.ref l) (upd H l (.tup ys))) ∨ (SqT K H p ys ∧ Q (.ref p) H))
def rMax2 : List V → Hp → VK → Prop := fun xs H Q => ∃ i j, xs = [.int i, .int j] ∧ Q (.int (if j > i then j else i)) H
def rMin2 : List V → Hp → VK → Prop := fun xs H Q => ∃ i j, xs = [.int i, .int j] ∧ Q (.int (if j < i then j else i)) H
def rIns : V → List V → Hp → VK → Prop := fun x vs H Q => ∃ (l : Addr) (xs : List V) (i : Int) (y : V), x = .ref l ∧ vs = [.int i, y] ∧ H l = some (.lst xs) ∧ xs.length < sizeLine ∧ 0 ≤ i ∧ i < 2 ^ 63 ∧ Q .non (upd H l (.lst (xs.take i.toNat ++ [y] ++ xs.drop i.toNat)))
section
variable {X : Cx} {K : PySem.W.Frag} {H : Hp} {Q : VK} {p : Addr} {vs : List V} {v : V} {i j : Int}
theorem cListOf : CallR X (.type "list") (rListOf X.K) := call_list_of
theorem cTupOf : CallR X (.type "tuple") (rTupOf X.K) := call_tuple_of
theorem cMax2 (hc : X.calm = true) : CallR X (.builtin "max") rMax2 := call_max2 hc
theorem cMin2 (hc : X.calm = true) : CallR X (.builtin "min") rMin2 := call_min2 hc
theorem mIns : MtR X "list.insert" rIns := mt_insert
theorem w_listL (h : SqL K H p vs) (k : ∀ l, H l = none → Q (.ref l) (upd H l (.lst vs))) : rListOf K [.ref p] H Q := ⟨p, vs, rfl, .inl h, k⟩
theorem w_listT (h : SqT K H p vs) (k : ∀ l, H l = none → Q (.ref l) (upd H l (.lst vs))) : rListOf K [.ref p] H Q := ⟨p, vs, rfl, .inr h, k⟩
theorem w_tupL (h : SqL K H p vs) (k : ∀ l, H l = none → Q (.ref l) (upd H l (.tup vs))) : rTupOf K [.ref p] H Q := ⟨p, vs, rfl, .inl ⟨h, k⟩⟩
theorem w_tupT (h : SqT K H p vs) (k : Q (.ref p) H) : rTupOf K [.ref p] H Q := ⟨p, vs, rfl, .inr ⟨h, k⟩⟩
theorem w_max (k : Q (.int (if j > i then j else i)) H) : rMax2 [.int i, .int j] H Q := ⟨i, j, rfl, k⟩
theorem w_min (k : Q (.int (if j < i then j else i)) H) : rMin2 [.int i, .int j] H Q := ⟨i, j, rfl, k⟩
theorem w_ins {n : Nat} (h : H p = some (.lst vs)) (e : i = n) (hn : n < 1000000) (hl : vs.length < 1000000) (k : Q .non (upd H p (.lst (vs.take n ++ [v] ++ vs.drop n)))) : rIns (.ref p) [.int i, v] H Q :=
  ⟨p, vs, i, v, rfl, rfl, h, Nat.lt_trans hl (by decide), by omega, by omega, by rw [e]; exact k⟩
theorem w_insI (h : H p = some (.lst vs)) (h0 : 0 ≤ i) (h1 : i < 1000000) (hl : vs.length < 1000000) (k : Q .non (upd H p (.lst (vs.take i.toNat ++ [v] ++ vs.drop i.toNat)))) : rIns (.ref p) [.int i, v] H Q :=
  ⟨p, vs, i, v, rfl, rfl, h, Nat.lt_trans hl (by decide), h0, by omega, k⟩
end
/-! one layer of a heap taken off -/
section
variable {K : PySem.W.Frag} {H : Hp} {a p : Addr} {xs : List V} {o u : HO}
theorem off_old (hp : H p = none) (h : H a = some o) : upd H p u a = some o := upd_old h hp
theorem off_far (n : a ≠ p) (h : H a = some o) : upd H p u a = some o := upd_far n h
theorem sql_off (hp : H p = none) (h : SqL K H a xs) : SqL K (upd H p u) a xs := sql_upd h hp
theorem sql_offar (n : a ≠ p) (h : SqL K H a xs) : SqL K (upd H p u) a xs := sql_far h n
theorem sqt_off (hp : H p = none) (h : SqT K H a xs) : SqT K (upd H p u) a xs := sqt_upd h hp
theorem sqt_offar (n : a ≠ p) (h : SqT K H a xs) : SqT K (upd H p u) a xs := sqt_far h n
end
/-! x is True, for a truth x -/
def aIsB : R2 := fun x y H Q => ∃ b c, x = .bl b ∧ y = .bl c ∧ Q (.bl (decide (b = c))) H
def aNotB : R2 := fun x y H Q => ∃ b c, x = .bl b ∧ y = .bl c ∧ Q (.bl (!decide (b = c))) H
section
variable {X : Cx} {K : PySem.W.Frag} {H : Hp} {Q : VK} {b c : Bool} {x y : V} {d : PyData}
theorem oIsB : OpR X (compareOp .Is) aIsB := by
  intro pins s σ H x y v u Q I rx ry h
  obtain ⟨b, c, rfl, rfl, q⟩ := h
  cases rx
  cases ry
  show wpAny _ _ ((isSame (Value.bool b) (Value.bool c)) >>= fun z => pure (Value.bool z)) _ _ s
  exact wpAny_bind (wpAny_isSame_plain (by rfl) (wpAny_pure (fin_bl I q (by cases b <;> cases c <;> rfl))))
theorem oNotB : OpR X (compareOp .IsNot) aNotB := by
  intro pins s σ H x y v u Q I rx ry h
  obtain ⟨b, c, rfl, rfl, q⟩ := h
  cases rx
  cases ry
  show wpAny _ _ ((isSame (Value.bool b) (Value.bool c)) >>= fun z => pure (Value.bool (!z))) _ _ s
  exact wpAny_bind (wpAny_isSame_plain (by rfl) (wpAny_pure (fin_bl I q (by cases b <;> cases c <;> rfl))))
theorem w_isB (k : Q (.bl (decide (b = c))) H) : aIsB (.bl b) (.bl c) H Q := ⟨b, c, rfl, rfl, k⟩
theorem w_notB (k : Q (.bl (!decide (b = c))) H) : aNotB (.bl b) (.bl c) H Q := ⟨b, c, rfl, rfl, k⟩
mutual
theorem eqv_refl : ∀ d : PyData, d.canLay0 = true → PyData.eqv d d = true
  | .none, _ => by simp [PyData.eqv]
  | .bool _, _ => by simp [PyData.eqv]
  | .int _, _ => by simp [PyData.eqv]
  | .str _, _ => by simp [PyData.eqv]
  | .list ds, h => by simp only [PyData.eqv]; exact eqvAll_refl ds (by simpa [PyData.canLay0] using h)
  | .tuple ds, h => by simp only [PyData.eqv]; exact eqvAll_refl ds (by simpa [PyData.canLay0] using h)
  | .dict _, h => by simp [PyData.canLay0] at h
theorem eqvAll_refl : ∀ ds : List PyData, PyData.canLayAll0 ds = true → PyData.eqvAll ds ds = true
  | [], _ => by simp [PyData.eqvAll]
  | d :: ds, h => by
    have h' : d.canLay0 = true ∧ PyData.canLayAll0 ds = true := by simpa [PyData.canLayAll0] using h
    simp only [PyData.eqvAll, eqv_refl d h'.1, eqvAll_refl ds h'.2, Bool.and_self]
end
/-- the same data -/
theorem v_eqR (h1 : Dp K H x d) (h2 : Dp K H y d) (hs : SeqAt.shaped d = true) (k : Q (.bl true) H) : aEq K x y H Q :=
  v_eqD h1 h2 hs hs (by rw [eqv_refl d (SeqAt.canLay_of_shaped hs)]; exact k)
theorem v_neR (h1 : Dp K H x d) (h2 : Dp K H y d) (hs : SeqAt.shaped d = true) (k : Q (.bl false) H) : aNe K x y H Q :=
  v_neD h1 h2 hs hs (by rw [eqv_refl d (SeqAt.canLay_of_shaped hs)]; exact k)
end
/-- an if whose two ways meet again -/
theorem r_wJ {c : Prop} [Decidable c] {t1 t2 : TS} {D : Ends} {σ : L2.St} {H : Hp} (W : L2.St → Hp → Prop) (hk : ∀ σ' H', W σ' H' → D.nx σ' H')
    (h1 : c → ∀ N : L2.St → Hp → Prop, (∀ σ' H', W σ' H' → N σ' H') → t1 { D with nx := N } σ H) (h2 : ¬ c → ∀ N : L2.St → Hp → Prop, (∀ σ' H', W σ' H' → N σ' H') → t2 { D with nx := N } σ H) :
    if decide c = true then t1 D σ H else t2 D σ H := r_w (fun h => h1 h D.nx hk) fun h => h2 h D.nx hk
theorem r_nwJ {c : Prop} [Decidable c] {t1 t2 : TS} {D : Ends} {σ : L2.St} {H : Hp} (W : L2.St → Hp → Prop) (hk : ∀ σ' H', W σ' H' → D.nx σ' H')
    (h1 : ¬ c → ∀ N : L2.St → Hp → Prop, (∀ σ' H', W σ' H' → N σ' H') → t1 { D with nx := N } σ H) (h2 : c → ∀ N : L2.St → Hp → Prop, (∀ σ' H', W σ' H' → N σ' H') → t2 { D with nx := N } σ H) :
    if (!decide c) = true then t1 D σ H else t2 D σ H := r_nw (fun h => h1 h D.nx hk) fun h => h2 h D.nx hk
/-! a heap without one address -/
def wo (D : Addr) (H : Hp) : Hp := fun b => if b = D then none else H b
theorem wo_at {D b : Addr} {H : Hp} {o : HO} (n : b ≠ D) (h : H b = some o) : wo D H b = some o := by unfold wo; rw [if_neg n]; exact h
theorem wo_upd {D : Addr} {H : Hp} {o : HO} : wo D (upd H D o) = wo D H := by
  funext b
  unfold wo
  by_cases h : b = D
  · rw [if_pos h, if_pos h]
  · rw [if_neg h, if_neg h, upd_ne h]
theorem wo_stp {D : Addr} {H : Hp} : Stp [] (wo D H) H := ⟨fun b o e _ => by
  unfold wo at e
  by_cases h : b = D
  · rw [if_pos h] at e; cases e
  · rw [if_neg h] at e; exact e, fun b e => by
  unfold wo
  by_cases h : b = D
  · rw [if_pos h]
  · rw [if_neg h]; exact e⟩
theorem wo_mono {D : Addr} {H H' : Hp} (S : Stp [] H H') : Stp [] (wo D H) (wo D H') := ⟨fun b o e _ => by
  unfold wo at e ⊢
  by_cases h : b = D
  · rw [if_pos h] at e; cases e
  · rw [if_neg h] at e ⊢; exact S.keep0 e, fun b e => by
  unfold wo at e ⊢
  by_cases h : b = D
  · rw [if_pos h]
  · rw [if_neg h] at e ⊢; exact S.dom b e⟩
/-- data gathered in the list at D -/
theorem dp_gather {K : PySem.W.Frag} {D : Addr} {H1 H2 : Hp} {us : List V} {ds : List PyData} {x : V} {d : PyData} {o : HO} (S : Stp [] H1 H2) (h : DpAll K (wo D H1) us ds) (k : Dp K (wo D H2) x d) : DpAll K (wo D (upd H2 D o)) (us ++ [x]) (ds ++ [d]) := by
  rw [wo_upd]
  have h2 := dp_stpAll (wo_mono S) _ _ h
  clear h
  induction us generalizing ds with
  | nil => cases h2; exact .cons k .nil
  | cons u us ih => cases h2 with | cons h1 h2 => exact .cons h1 (ih h2)
theorem st_new {M : List Addr} {H H1 : Hp} {p : Addr} {o : HO} (h : H1 p = none) (a : Stp M H H1) : Stp M H (upd H1 p o) := a.new h
theorem st_trans {M : List Addr} {H H1 H2 : Hp} (b : Stp [] H1 H2) (a : Stp M H H1) : Stp M H H2 := a.then0 b
theorem st_put {M : List Addr} {H H1 : Hp} {p : Addr} {o : HO} (h : H p = none) (a : Stp M H H1) : Stp M H (upd H1 p o) := a.putN h
theorem st_fr {H H' : Hp} {p : Addr} (h : H' p = none) (S : Stp [] H H') : H p = none := S.dom p h
theorem dpall_len {K : PySem.W.Frag} {H : Hp} : ∀ {us : List V} {ds : List PyData}, DpAll K H us ds → us.length = ds.length
  | [], _, h => by cases h; rfl
  | u :: us, _, h => by cases h with | cons h1 h2 => simp [dpall_len h2]
theorem dpall_get {K : PySem.W.Frag} {H : Hp} {us : List V} {ds : List PyData} {i : Nat} {d : PyData} (h : DpAll K H us ds) (e : ds[i]? = some d) : ∃ v, us[i]? = some v ∧ Dp K H v d := by
  induction us generalizing ds i with
  | nil => cases h; cases e
  | cons u us ih => cases h with | cons h1 h2 => cases i with
    | zero => cases e; exact ⟨u, rfl, h1⟩
    | succ i => exact ih h2 e
theorem dpall_map {K : PySem.W.Frag} {H : Hp} {β : Type} {l : List β} {f : β → V} {g : β → PyData} (h : ∀ b ∈ l, Dp K H (f b) (g b)) : DpAll K H (l.map f) (l.map g) := by
  induction l with
  | nil => exact .nil
  | cons x xs ih => exact .cons (h x (by simp)) (ih fun y hy => h y (by simp [hy]))
theorem shaped_list {ds : List PyData} (h : ∀ d ∈ ds, PyData.canLay0 d = true ∧ PyData.depth d ≤ 1) : SeqAt.shaped (.list ds) = true := by
  have h1 : PyData.canLayAll0 ds = true ∧ PyData.depthAll ds ≤ 1 := by
    induction ds with
    | nil => exact ⟨by simp [PyData.canLayAll0], by simp [PyData.depthAll]⟩
    | cons d ds ih =>
      obtain ⟨a, b⟩ := h d (by simp)
      obtain ⟨c, e⟩ := ih fun x hx => h x (by simp [hx])
      exact ⟨by simp only [PyData.canLayAll0, a, c, Bool.and_self], by simp only [PyData.depthAll]; omega⟩
  unfold SeqAt.shaped
  rw [show PyData.canLay0 (.list ds) = true by simp only [PyData.canLay0]; exact h1.1]
  exact decide_eq_true (by simp only [PyData.depth]; omega)
/-! defs with defaults -/
section
variable {P : Program} {w : World} {K : PySem.W.Frag} {mg : Str → Option Value} {base : Heap}
theorem funD_mk {x qual : Str} {st : Stmt} {f T : Addr} {oc oT : Value} {od an oU : Option Addr} {osl tsl : Array (Option Value)} {kV doc pm cdv ct : Value} {its : List Value} {n : Nat} {dvs : List V}
    (l : K.lookup f = some ⟨oc, od, .func (PySem.W.fnOf x qual (defArgs st) (defBody st) (defScope st) (.ref T) kV doc pm an cdv ct), osl⟩) (t : K.lookup T = some ⟨oT, oU, .seq its.toArray n, tsl⟩) (r : Vals dvs its) (hd : dvs ≠ [])
    (c : PySem.W.codeIn K cdv qual = true) (k : PySem.W.keepIn K (.ref f) = true) : FunD K x qual (defArgs st) (defBody st) (defScope st) dvs [] f (PySem.W.fnOf x qual (defArgs st) (defBody st) (defScope st) (.ref T) kV doc pm an cdv ct) :=
  ⟨⟨oc, od, _, kV, doc, pm, an, cdv, ct, osl, rfl, l, c, .inr ⟨hd, T, _, its, n, rfl, t, rfl, r⟩, .inl rfl⟩, k⟩
theorem funD_ok {x qual : Str} {st : Stmt} {dvs : List V} {f : Addr} {fd : FuncData} {N ps : List Str} {k : Nat} {sp : Sp} (F : FunD K x qual (defArgs st) (defBody st) (defScope st) dvs [] f fd) (S : FnScope N ps (defScope st)) (len : ∀ vs H Q E, sp vs H Q E → vs.length = ps.length)
    (hb : ∀ (cdv : Value) (A : Around) (outer : List Env) (s : Shared) (H : Hp) (vs : List V) (Q : VK) (E : XK), Room k (A.deeper (envOfC qual (defScope st) s.heap.objs.size f cdv)) → sp vs H Q E →
      ∃ t, PSs (cxOf CX0 P w K mg base N qual (defScope st) f cdv A outer s H E).nox (defBody st) t ∧ t { nx := fun _ H' => Q .non H', rt := Q } (start N vs) H) : FnOk P w K mg base CX0 (k + 1) f fd ps sp :=
  F.ok S len fun cdv A outer s H vs Q E hr h => by
    obtain ⟨t, h1, h2⟩ := hb cdv A outer s H vs Q E hr h
    exact ⟨t, h1.nox, h2⟩
end
theorem Stp.putI {M : List Addr} {H H1 : Hp} {p C d : Addr} {fs : List (Str × V)} {o : HO} (a : Stp M H H1) (h : p ∈ M) (h1 : H1 p = some (.ins C d fs)) : Stp M H (upd H1 p o) := a.putM h h1 (fun z => z)
theorem Stp.putL {M : List Addr} {H H1 : Hp} {p : Addr} {xs : List V} {o : HO} (a : Stp M H H1) (h : p ∈ M) (h1 : H1 p = some (.lst xs)) : Stp M H (upd H1 p o) := a.putM h h1 (fun z => z)
theorem v_tup1 {H : Hp} {Q : VK} {x : V} (h : ∀ p, H p = none → Q (.ref p) (upd H p (.tup [x]))) : SH.kTup Q [x] H := v_tup (by simp) h
/-- a statement of a def's body -/
def inDef (s : Stmt) (j : Nat) : Stmt := (defBody s).getD j (.Pass ⟨0, 0, 0, 0⟩)
/-- a table that tells nothing as yet -/
theorem tabN_empty {H : Hp} {P : Addr} {nm : Nat → Nat → Str} (h : H P = some (.tbl #[])) : NdefX.TabN H P nm := ⟨#[], h, by trivial, fun pos cv hc => by cases hc⟩
/-! rules with the frag by its name (in a comprehension the context is not to be seen from outside) -/
section
variable {X : Cx}
theorem opK {op : Value → Value → Sem Value} (r : PySem.W.Frag → R2) (K : PySem.W.Frag) (h : OpR X op (r X.K)) (e : X.K = K := by rfl) : OpR X op (r K) := e ▸ h
theorem ixK (r : PySem.W.Frag → R2) (K : PySem.W.Frag) (h : IxR X (r X.K)) (e : X.K = K := by rfl) : IxR X (r K) := e ▸ h
theorem crK {v : Value} (r : PySem.W.Frag → List V → Hp → VK → Prop) (K : PySem.W.Frag) (h : CallR X v (r X.K)) (e : X.K = K := by rfl) : CallR X v (r K) := e ▸ h
theorem slK (r : PySem.W.Frag → V → Option Int → Option Int → Hp → VK → Prop) (K : PySem.W.Frag) (h : SlR X (r X.K)) (e : X.K = K := by rfl) : SlR X (r K) := e ▸ h
theorem piK {tg e : Expr} (r : PySem.W.Frag → TI) (K : PySem.W.Frag) (h : PI X tg e (r X.K)) (e' : X.K = K := by rfl) : PI X tg e (r K) := e' ▸ h
theorem peK {e : Expr} (r : PySem.W.Frag → TE) (K : PySem.W.Frag) (h : PE X e (r X.K)) (e' : X.K = K := by rfl) : PE X e (r K) := e' ▸ h
end
end SH

set_option Elab.async false
set_option linter.all false
set_option maxRecDepth 100000
set_option maxHeartbeats 4000000
/-! SHF: list(reversed(xs)), a new list -/
namespace SH
open PySem PySem.Spec PyProof.Rows L2
section
variable {prog : Program} {w : World} {A : Around} {E : Value → Shared → Prop} {s : Shared}
theorem ext_lrev {R : Result → Shared → Prop} {it l : Addr} {items : Array Value} (hh : A.handled = none) (hit : s.heap.IsRevIter it l ((items.size : Int) - 1)) (hl : s.heap.IsList l items) (hne : l ≠ it) (hn : items.size ≤ sizeLine)
    (S : Addr) (c0 : Nat) (hS : s.heap.get? S = some { cls := .type "list", data := .seq #[] c0 }) (nSi : S ≠ it) (nSl : S ≠ l)
    (hR : ∀ h' tk acc c', (∀ b o, b ≠ S → b ≠ it → s.heap.get? b = some o → h'.get? b = some o) → h'.get? S = some { cls := .type "list", dict := none, data := .seq acc c', slots := #[] } →
      ItemsOf (fun i v => items[items.size - 1 - i]? = some v) acc items.size → R (.ok (.ret .none)) { s with heap := h', toks := tk }) :
    wpAny (model prog w) A.in1 (Builtin.List.listExtendWith (.ref S) (.ref it) .none)
      (fun z s' => match z with | .done u => R (.ok u) s' | .again c' => c'.quiet = true ∧ codeAny (model prog w) A c' R s') (fun e s' => R (.error e) s') s := by
  have W := (Walks.listRev (prog := prog) (w := w) (A := A.in1) hh it l hne items).toS
  have nf : S ∉ [it, l] := by simp only [List.mem_cons, List.not_mem_nil, or_false, not_or]; exact ⟨nSi, nSl⟩
  have ty : s.TypeIs (.ref it) "list_reverseiterator" := Heap.IsRevIter.typeIs (s := s) hit
  have same : Builtin.List.listSameRef (.ref S) (.ref it) = false := by simp [Builtin.List.listSameRef, nSi]
  unfold Builtin.List.listExtendWith; refine wpAny_bind (wpAny_typeOf ty ?_); rw [if_neg (by rw [same]; decide)]
  refine wpAny_bind (wpAny_pyIter_revIter (s := s) hit ?_); refine wpAny_bind (wpAny_holding ?_); unfold Builtin.List.listLengthHint
  refine wpAny_bind (wpAny_specialOf ty RT.nolen_lri ?_); show wpAny _ A.in1 (specialOf (Value.ref it) (Str.ofString "__length_hint__") >>= _) _ _ _
  refine wpAny_bind (wpAny_specialOf ty RT.hint_lri ?_); generalize hid : ("list_reverseiterator.__length_hint__" : String) = id0
  wp_delta; rw [show splitId id0 = some ("list_reverseiterator", "__length_hint__") from by subst hid; decide +kernel]; subst hid
  refine wpAny_bind (wpAny_isInstance (b := true) ty (by rw [isSubtype_type]; kernel_rfl) ?_); refine wpAny_pure ?_; rw [if_neg (by decide)]
  have z0 : ((items.size : Nat) : Int) - 1 - ((0 : Nat) : Int) = (items.size : Int) - 1 := by omega
  refine wpAny_pure ⟨plainId_quiet F.plain_extend_loop _, codeAny_extend_loopS W hn _ nf _ items.size 0 _ _ _ rfl (Nat.zero_le _) ⟨Nat.zero_le _, by rw [z0]; exact hit, hl⟩ hS (ItemsOf.nil _) fun s' acc c' hm hS' ha => ?_⟩
  rw [Moved.eq_with hm]; refine hR s'.heap s'.toks acc c' (fun b o n1 n2 e => hm.heap b o (fun hmem => ?_) e) hS' ha
  rcases List.mem_cons.mp hmem with e' | hmem
  · exact n1 e'
  · exact n2 (List.mem_singleton.mp hmem)
theorem call_list_rev {it l : Addr} {items : Array Value} {Q : Value → Shared → Prop} (hh : A.handled = none) (hit : s.heap.IsRevIter it l ((items.size : Int) - 1)) (hl : s.heap.IsList l items) (hne : l ≠ it) (hn : items.size ≤ sizeLine)
    (hQ : ∀ h' tk acc c', (∀ b o, b ≠ it → s.heap.get? b = some o → h'.get? b = some o) → h'.get? s.heap.objs.size = some { cls := .type "list", dict := none, data := .seq acc c', slots := #[] } →
      ItemsOf (fun i v => items[items.size - 1 - i]? = some v) acc items.size → Q (.ref s.heap.objs.size) { s with heap := h', toks := tk }) :
    wpAny (model prog w) A (call (.type "list") [.ref it]) Q E s := by
  refine callType_codes (Q₁ := fun ob s1 => ob = .ref s.heap.objs.size ∧ s1 = { s with heap := s.heap.push { cls := .type "list", data := .seq #[] } }) F.called_list (F.typeCall_list_1 _) F.entry_list_init (code_list_new _ ⟨rfl, rfl⟩) fun ob s1 h1 => ?_
  obtain ⟨e1, e2⟩ := h1; subst e1; subst e2
  have hS : (s.heap.push { cls := .type "list", data := .seq #[] }).get? s.heap.objs.size = some { cls := .type "list", data := .seq #[] } := by exact Heap.get?_push_size _ rfl
  obtain ⟨oi, hoi, _⟩ := id hit; obtain ⟨ol, hol, hol'⟩ := id hl
  have nSi : s.heap.objs.size ≠ it := Nat.ne_of_gt (Heap.lt_size hoi); have nSl : s.heap.objs.size ≠ l := Nat.ne_of_gt (Heap.lt_size hol)
  refine ⟨⟨_, hS, rfl⟩, F.args_list_init_2 _ _, ?_⟩
  show wpAny _ _ (do let old ← Builtin.List.listItems (.ref s.heap.objs.size); Builtin.List.listUpdate (.ref s.heap.objs.size) (fun _ => #[]); letGo old.toList.reverse; Builtin.List.listExtendWith (.ref s.heap.objs.size) (.ref it) .none) _ _ _
  refine wpAny_bind ?_; unfold Builtin.List.listItems; refine wpAny_bind (wpAny_seqItems hS rfl (wpAny_pure ?_))
  show wpAny _ _ (updateSeq s.heap.objs.size (fun _ => #[]) >>= fun _ => letGo (#[] : Array Value).toList.reverse >>= fun _ => Builtin.List.listExtendWith (.ref s.heap.objs.size) (.ref it) .none) _ _ _
  refine wpAny_bind (wpAny_updateSeq hS rfl ?_); have hS2 := Heap.get?_update_self (Obj.mapSeq (fun _ => (#[] : Array Value))) hS rfl
  have oth : ∀ b o, b ≠ s.heap.objs.size → s.heap.get? b = some o → ((s.heap.push { cls := .type "list", data := .seq #[] }).update s.heap.objs.size (Obj.mapSeq (fun _ => (#[] : Array Value)))).get? b = some o :=
    fun b o hb e => (Heap.get?_update_other _ _ (Ne.symm hb)).trans (Heap.get?_push_of_some _ e)
  refine wpAny_bind (wpAny_letGo ?_)
  refine ext_lrev (A := A.in1) (R := wants (fun r s2 => r = Value.none ∧ Q (.ref s.heap.objs.size) s2) E) (s := { s with heap := (s.heap.push { cls := .type "list", data := .seq #[] }).update s.heap.objs.size (Obj.mapSeq (fun _ => (#[] : Array Value))) }) hh (hit.at fun o e => oth it o (Ne.symm nSi) e) ?_ hne hn _ _ hS2 nSi nSl fun h' tk acc c' hk hS' ha => ?_
  · exact ⟨ol, oth l ol (Ne.symm nSl) hol, hol'⟩
  · exact ⟨rfl, hQ h' tk acc c' (fun b o n2 e => hk b o (Nat.ne_of_lt (Heap.lt_size e)) n2 (oth b o (Nat.ne_of_lt (Heap.lt_size e)) e)) hS' ha⟩
end
/-- list(reversed(xs)) -/
def kLstRev (K : PySem.W.Frag) (Q : VK) : VK := fun v H1 => ∃ (a : Addr) (xs : List V), v = .ref a ∧ SqL K H1 a xs ∧ ∀ q, H1 q = none → Q (.ref q) (upd H1 q (.lst xs.reverse))
def tLstRev (K : PySem.W.Frag) (te : TE) : TE := fun σ H Q => te σ H (kLstRev K Q)
theorem r_lrev {K : PySem.W.Frag} {te : TE} {σ : L2.St} {H : Hp} {Q : VK} (h : te σ H (kLstRev K Q)) : tLstRev K te σ H Q := h
theorem v_lrev {K : PySem.W.Frag} {H : Hp} {Q : VK} {a : Addr} {xs : List V} (h : SqL K H a xs) (k : ∀ q, H q = none → Q (.ref q) (upd H q (.lst xs.reverse))) : kLstRev K Q (.ref a) H := ⟨a, xs, rfl, h, k⟩
section
variable {X : Cx}
theorem pe_lstRev {e : Expr} {te : TE} {p p2 pos pos2 : Pos} (hg : Gl X "list") (hm : X.mg "list" = none) (hg2 : Gl X "reversed") (hm2 : X.mg "reversed" = none) (he : PE X e te) (hc : X.calm = true := by rfl)
    (hs : starEach [e] X.env = (false, eval e X.env) :: starEach [] X.env := by rfl)
    (hs2 : starEach [.Call (.Name "reversed" p2) [e] [] pos2] X.env = (false, eval (.Call (.Name "reversed" p2) [e] [] pos2) X.env) :: starEach [] X.env := by rfl) :
    PE X (.Call (.Name "list" p) [.Call (.Name "reversed" p2) [e] [] pos2] [] pos) (tLstRev X.K te) := by
  refine ⟨fun pins s σ H Q I h => ?_⟩
  refine Call_ (ld_blt I hg hm boot_list (PyProof.Rows.callWith_type1 (args_cons (Call_ (ld_blt I hg2 hm2 PyProof.Rows.boot_reversed (PyProof.Rows.callWith_type1 (args_cons (thn (he.run pins s σ H _ I h) fun u s1 ⟨v, H1, I1, r1, q1⟩ => args_nil ?_) hs) hs rfl))) hs2) hs2 rfl))
  obtain ⟨a, xs, ev, hq, q⟩ := q1; subst ev; obtain rfl : u = Value.ref a := r1; obtain ⟨its, rv, p', hz⟩ := I1.list hq
  refine call_reversed_list p'.isList (args_nil ?_)
  have I2 : Inv X pins σ H1 { s1 with heap := s1.heap.push (revObj a ((its.toArray.size : Int) - 1)) } := by exact I1.kept (t' := s1.toks) fun b o e => Heap.get?_push_of_some _ e
  obtain ⟨f0, f1, f2, f3, f4, f5⟩ := I1.fpOk (H' := H1) (b := s1.heap.objs.size) (Nat.le_refl _) (I1.hok.fresh (Nat.le_refl _)); have hl := p'.isList; obtain ⟨ol, hol, _⟩ := id hl
  have hne : a ≠ s1.heap.objs.size := by exact Nat.ne_of_lt (Heap.lt_size hol)
  have hn : its.toArray.size ≤ sizeLine := by rw [List.size_toArray, ← rv.length]; exact (by exact hz)
  refine call_list_rev (s := { s1 with heap := s1.heap.push (revObj a ((its.toArray.size : Int) - 1)) }) (I1.ok.hd hc) ⟨_, Heap.get?_push_size _ rfl, rfl, rfl⟩ (hl.push _) hne hn fun h' tk acc c' hk hS' hi => ?_
  have z : s1.heap.objs.size ≤ (s1.heap.push (revObj a ((its.toArray.size : Int) - 1))).objs.size := by simp [Heap.push]
  have k1 : ∀ b o, s1.heap.get? b = some o → h'.get? b = some o := fun b o e => hk b o (Nat.ne_of_lt (Heap.lt_size e)) (by exact Heap.get?_push_of_some _ e)
  refine ⟨.ref _, upd H1 (s1.heap.push (revObj a ((its.toArray.size : Int) - 1))).objs.size (.lst xs.reverse), I1.laid (t' := tk) k1 z (show ObjOk X.prog X.w _ _ _ (.lst xs.reverse) from ⟨by rw [List.length_reverse]; exact hz, acc.toList, c', RT.vals_rev rv hi, ?_⟩), rfl, q _ (I1.hok.fresh z)⟩
  rw [Array.toArray_toList]; exact (by exact hS')
end
theorem cutL_from_len {α : Type} (xs : List α) (i : Nat) (hi : Option Int) : (cutL xs (some (i : Int)) hi).length ≤ xs.length - i := by
  unfold cutL
  rw [HT.sIx_nat, List.length_take, List.length_drop]
  omega
theorem r_ckw2 {r : List V → List V → Hp → VK → Prop} {t tk : TA} {σ : L2.St} {H : Hp} {Q : VK} (h : t σ H fun vs H1 => tk σ H1 fun zs H2 => r vs zs H2 Q) : tCKw r t tk σ H Q := h
end SH

set_option Elab.async false
set_option linter.all false
set_option maxRecDepth 100000
set_option maxHeartbeats 4000000
/-! SHG: max(xs, default=d), ints -/
namespace SH
open PySem PySem.Spec PyProof.Rows L2
def rMaxDef (K : PySem.W.Frag) : List V → List V → Hp → VK → Prop := fun vs zs H Q => ∃ (a : Addr) (ns : List Int) (d : Int), vs = [V.ref a] ∧ zs = [V.int d] ∧ SqL K H a (ns.map V.int) ∧ (ns = [] → Q (.int d) H) ∧ ∀ m, m ∈ ns → (∀ y, y ∈ ns → y ≤ m) → Q (.int m) H
theorem foldl_max : ∀ (r : List Int) (n : Int), r.foldl max n ∈ n :: r ∧ ∀ y ∈ n :: r, y ≤ r.foldl max n
  | [], n => ⟨by simp, by simp⟩
  | k :: r, n => by
    obtain ⟨h1, h2⟩ := foldl_max r (max n k)
    rw [List.foldl_cons]
    constructor
    · rcases List.mem_cons.mp h1 with e | e
      · rw [e]
        by_cases z : n ≤ k
        · rw [Int.max_eq_right z]; simp
        · rw [Int.max_eq_left (by omega)]; simp
      · simp [e]
    · intro y hy
      have hm := h2 (max n k) (by simp)
      rcases List.mem_cons.mp hy with e | hy
      · omega
      · rcases List.mem_cons.mp hy with e | hy
        · omega
        · exact h2 y (by simp [hy])
theorem depth_ints : ∀ ns : List Int, PyData.depthAll (ns.map PyData.int) = 0
  | [] => by simp [PyData.depthAll]
  | n :: r => by simp [PyData.depthAll, PyData.depth, depth_ints r]
theorem dp_ints {K : PySem.W.Frag} {H : Hp} : ∀ ns : List Int, DpAll K H (ns.map V.int) (ns.map PyData.int)
  | [] => .nil
  | n :: r => .cons (.int n) (dp_ints r)
section
variable {X : Cx}
theorem cr_maxDef (hc : X.calm = true) (hu : X.A.units + 64 < cLine) : CallRK X (.builtin "max") [Str.ofString "default"] (rMaxDef X.K) := by
  intro pins s σ H vs zs us ws Q I r rz h
  obtain ⟨a, ns, d, rfl, rfl, hs, h0, h1⟩ := h
  obtain rfl := Vals.ref1 r
  obtain ⟨w1, rfl, e1⟩ := vals1 rz
  obtain ⟨t, rfl⟩ := e1
  obtain ⟨its, rv, hl, hz⟩ := I.list hs
  obtain ⟨as, hr⟩ := Dp.readsAll I (ns.map PyData.int) _ its (dp_ints ns) rv
  have al : PySem.W.AlikeAll (ns.map PyData.int) := ⟨fun x hx y hy => by
    obtain ⟨i, _, rfl⟩ := List.mem_map.mp hx
    obtain ⟨j, _, rfl⟩ := List.mem_map.mp hy
    rfl, fun x hx => by
    obtain ⟨i, _, rfl⟩ := List.mem_map.mp hx
    intro z; cases z⟩
  refine PySem.W.max_list_default (xs := ns.map PyData.int) (I.ok.hd hc) hl.isList (by simpa using hr) al (by rw [depth_ints]; omega) (fun e h' tk hk => ⟨.int d, H, I.kept hk, ⟨t, rfl⟩, h0 (by simpa using e)⟩) fun y ys i v h' tk bs e hv hR hk => ?_
  cases ns with
  | nil => cases e
  | cons n r =>
    rw [List.map_cons] at e
    cases e
    rw [PySem.W.maxD_ints] at hR
    obtain ⟨m1, m2⟩ := foldl_max r n
    generalize r.foldl max n = m at hR m1 m2
    cases hR
    exact ⟨.int m, H, I.kept hk, ⟨_, rfl⟩, h1 m m1 m2⟩
end
theorem r_ckw {r : List V → List V → Hp → VK → Prop} {t tk : TA} {σ : L2.St} {H : Hp} {Q : VK} (h : t σ H fun vs H1 => tk σ H1 fun zs H2 => r vs zs H2 Q) : tCKw r t tk σ H Q := h
end SH

set_option Elab.async false
set_option linter.all false
set_option maxRecDepth 100000
set_option maxHeartbeats 4000000
/-! SHI: xs[i] op= e, dicts with tuples as keys, int(truth) -/
namespace SH
open PySem PySem.Spec PyProof.Rows L2
section
variable {K : PySem.W.Frag} {σ : L2.St} {H : Hp} {Q : VK} {D : Ends} {to ti te td ty tv : TE} {tget : V → V → Hp → VK → Prop} {tip : TIp} {tset : TSet} {P : Hp → Prop} {d b : Addr} {kvs : List (List Key × V)} {ks : List Key} {v x y : V}
/-- a, b = x, y -/
def kPar2 (i j : Nat) (σ : L2.St) (P : L2.St → Hp → Prop) : List V → Hp → Prop := fun vs H1 => ∃ v w, vs = [v, w] ∧ P ((σ.set i (some v)).set j (some w)) H1
theorem r_par {i j : Nat} {ta : TA} (h : ta σ H (kPar2 i j σ D.nx)) : tPar i j ta D σ H := h
theorem v_par {i j : Nat} {w : V} {σ1 σ2 : L2.St} {R : L2.St → Hp → Prop} (e1 : σ.set i (some v) = σ1) (e2 : σ1.set j (some w) = σ2) (h : R σ2 H) : kPar2 i j σ R [v, w] H := ⟨v, w, rfl, by rw [e1, e2]; exact h⟩
def kPar3 (i j l : Nat) (σ : L2.St) (P : L2.St → Hp → Prop) : List V → Hp → Prop := fun vs H1 => ∃ u v w, vs = [u, v, w] ∧ P (((σ.set i (some u)).set j (some v)).set l (some w)) H1
theorem r_par3 {i j l : Nat} {ta : TA} (h : ta σ H (kPar3 i j l σ D.nx)) : tPar3 i j l ta D σ H := h
theorem v_par3 {i j l : Nat} {u w : V} {σ1 σ2 σ3 : L2.St} {R : L2.St → Hp → Prop} (e1 : σ.set i (some u) = σ1) (e2 : σ1.set j (some v) = σ2) (e3 : σ2.set l (some w) = σ3) (h : R σ3 H) : kPar3 i j l σ R [u, v, w] H := ⟨u, v, w, rfl, by rw [e1, e2, e3]; exact h⟩
theorem r_augS (h : to σ H fun o H1 => ti σ H1 fun i H2 => tget o i H2 fun x H3 => te σ H3 fun y H4 => tip x y H4 fun z H5 => tset o i z H5 fun H6 => D.nx σ H6) : tAugS to ti te tget tip tset D σ H := h
theorem r_dnewT (h : ∀ p, H p = none → Q (.ref p) (upd H p (.dT []))) : tDNewT σ H Q := h
theorem r_dnewK (h : ∀ p, H p = none → Q (.ref p) (upd H p (.dK []))) : tDNewK σ H Q := h
def kDPut (x y v : V) (H3 : Hp) (P : Hp → Prop) : Prop := ∃ a H4, x = .ref a ∧ DPut H3 a y v H4 ∧ P H4
theorem r_dput (h : tv σ H fun v H1 => td σ H1 fun x H2 => ty σ H2 fun y H3 => kDPut x y v H3 (D.nx σ)) : sDPut td ty tv D σ H := h
theorem v_dputT (hd : H d = some (.dT kvs)) (hk : H b = some (.tup (ks.map kV))) (hl : kvs.length < 1000000) (k : P (upd H d (.dT (putK kvs ks v)))) : kDPut (.ref d) (.ref b) v H P := ⟨d, _, rfl, DPut.t hd hk (Nat.lt_trans hl (by decide)), k⟩
def kDGet1 (ty : TE) (σ : L2.St) (Q : VK) : VK := fun x H1 => ∃ a, x = .ref a ∧ IsD H1 a ∧ ty σ H1 fun y H2 => ∃ o, DGet H2 a y o ∧ Q (o.getD .non) H2
theorem r_dget1 (h : td σ H (kDGet1 ty σ Q)) : tDGet1 td ty σ H Q := h
theorem v_dget1 (hd : H d = some (.dT kvs)) (h : ty σ H fun y H2 => ∃ o, DGet H2 d y o ∧ Q (o.getD .non) H2) : kDGet1 ty σ Q (.ref d) H := ⟨d, rfl, .inr ⟨kvs, .inl hd⟩, h⟩
theorem v_dgetT {R : Option V → Prop} (hd : H d = some (.dT kvs)) (hk : H b = some (.tup (ks.map kV))) (q : R (valV kvs ks)) : ∃ o, DGet H d (.ref b) o ∧ R o := ⟨_, DGet.t hd hk, q⟩
def kDGet (x y : V) (H2 : Hp) (Q : VK) : Prop := ∃ a v, x = .ref a ∧ DGet H2 a y (some v) ∧ Q v H2
theorem r_dgetI (h : td σ H fun x H1 => ty σ H1 fun y H2 => kDGet x y H2 Q) : tDGet td ty σ H Q := h
theorem v_dgetI (hd : H d = some (.dT kvs)) (hk : H b = some (.tup (ks.map kV))) (e : valV kvs ks = some v) (q : Q v H) : kDGet (.ref d) (.ref b) H Q := ⟨d, v, rfl, by rw [← e]; exact DGet.t hd hk, q⟩
def kDIn (y x : V) (H2 : Hp) (Q : VK) : Prop := ∃ a o, x = .ref a ∧ DGet H2 a y o ∧ Q (.bl o.isSome) H2
def kDNi (y x : V) (H2 : Hp) (Q : VK) : Prop := ∃ a o, x = .ref a ∧ DGet H2 a y o ∧ Q (.bl (!o.isSome)) H2
theorem r_din (h : ty σ H fun y H1 => td σ H1 fun x H2 => kDIn y x H2 Q) : tDIn ty td σ H Q := h
theorem r_dnotin (h : ty σ H fun y H1 => td σ H1 fun x H2 => kDNi y x H2 Q) : tDNotIn ty td σ H Q := h
theorem v_din (hd : H d = some (.dT kvs)) (hk : H b = some (.tup (ks.map kV))) (q : Q (.bl (valV kvs ks).isSome) H) : kDIn (.ref b) (.ref d) H Q := ⟨d, _, rfl, DGet.t hd hk, q⟩
theorem v_dnotin (hd : H d = some (.dT kvs)) (hk : H b = some (.tup (ks.map kV))) (q : Q (.bl (!(valV kvs ks).isSome)) H) : kDNi (.ref b) (.ref d) H Q := ⟨d, _, rfl, DGet.t hd hk, q⟩
end
/-- int(truth) or int(int) -/
def rInt1 : List V → Hp → VK → Prop := fun xs H Q => (∃ i, xs = [.int i] ∧ Q (.int i) H) ∨ ∃ k, xs = [.bl k] ∧ Q (.int (if k then 1 else 0)) H
section
variable {X : Cx} {H : Hp} {Q : VK} {i : Int} {b : Bool}
theorem cInt1 : CallR X (.type "int") rInt1 := call_int1
theorem w_intI (k : Q (.int i) H) : rInt1 [.int i] H Q := .inl ⟨i, rfl, k⟩
theorem w_intB (k : Q (.int (b.toNat : Nat)) H) : rInt1 [.bl b] H Q := .inr ⟨b, rfl, by cases b <;> exact k⟩
end
/-! a dict of answers -/
def pk (a b : Nat) : List Key := [.inl (a : Int), .inl (b : Int)]
theorem pk_map {a b : Nat} : (pk a b).map kV = [.int (a : Nat), .int (b : Nat)] := rfl
theorem pk_inj {a b c d : Nat} : pk a b = pk c d ↔ a = c ∧ b = d := by
  unfold pk
  constructor
  · intro h
    injection h with h1 h2
    injection h2 with h2 _
    injection h1 with h1
    injection h2 with h2
    exact ⟨by omega, by omega⟩
  · rintro ⟨rfl, rfl⟩; rfl
/-- what is known behind so many answers -/
def kn (es : List (T3 Nat Nat Bool)) : List (List Key × V) := es.foldl (fun acc e => putK acc (pk e.a e.b) (.bl e.c)) []
theorem kn_app {es : List (T3 Nat Nat Bool)} {e : T3 Nat Nat Bool} : kn (es ++ [e]) = putK (kn es) (pk e.a e.b) (.bl e.c) := by simp [kn]
theorem kn_len (es : List (T3 Nat Nat Bool)) : (kn es).length ≤ es.length := by
  have : ∀ (es : List (T3 Nat Nat Bool)) (acc : List (List Key × V)), (es.foldl (fun acc e => putK acc (pk e.a e.b) (.bl e.c)) acc).length ≤ acc.length + es.length := by
    intro es
    induction es with
    | nil => intro acc; simp
    | cons e es ih => intro acc; have := ih (putK acc (pk e.a e.b) (.bl e.c)); have := length_putK acc (pk e.a e.b) (.bl e.c); simp only [List.foldl_cons, List.length_cons]; omega
  simpa [kn] using this es []
theorem kn_val {es : List (T3 Nat Nat Bool)} {f : Nat → Nat → Bool} (h : ∀ e ∈ es, e.c = f e.a e.b) (a b : Nat) [Decidable (∃ e ∈ es, e.a = a ∧ e.b = b)] : valV (kn es) (pk a b) = if (∃ e ∈ es, e.a = a ∧ e.b = b) then some (.bl (f a b)) else none := by
  have key : ∀ (es : List (T3 Nat Nat Bool)), (∀ e ∈ es, e.c = f e.a e.b) → ((∃ e ∈ es, e.a = a ∧ e.b = b) → valV (kn es) (pk a b) = some (.bl (f a b))) ∧ ((¬ ∃ e ∈ es, e.a = a ∧ e.b = b) → valV (kn es) (pk a b) = none) := by
    intro es h
    obtain ⟨n, hn⟩ : ∃ n, n = es.length := ⟨_, rfl⟩
    induction n generalizing es with
    | zero =>
      have : es = [] := List.length_eq_zero_iff.mp hn.symm
      subst this
      exact ⟨fun ⟨e, he, _⟩ => by simp at he, fun _ => rfl⟩
    | succ n ih =>
      obtain ⟨fs, e, rfl⟩ : ∃ fs e, es = fs ++ [e] := ⟨es.dropLast, es.getLast (by intro z; subst z; simp at hn), (List.dropLast_concat_getLast _).symm⟩
      obtain ⟨i1, i2⟩ := ih fs (fun x hx => h x (by simp [hx])) (by simp at hn; omega)
      rw [kn_app, valV_put]
      have he := h e (by simp)
      by_cases z : pk a b = pk e.a e.b
      · obtain ⟨z1, z2⟩ := pk_inj.mp z
        subst z1; subst z2
        simp only [if_true]
        exact ⟨fun _ => by rw [he], fun n => (n ⟨e, by simp, rfl, rfl⟩).elim⟩
      · rw [if_neg z]
        have z' : ¬ (e.a = a ∧ e.b = b) := fun ⟨p, q⟩ => z (pk_inj.mpr ⟨p.symm, q.symm⟩)
        refine ⟨fun ⟨x, hx, q⟩ => i1 ?_, fun n => i2 fun ⟨x, hx, q⟩ => n ⟨x, by simp [hx], q⟩⟩
        rcases List.mem_append.mp hx with hx | hx
        · exact ⟨x, hx, q⟩
        · rw [List.mem_singleton] at hx; subst hx; exact (z' q).elim
  by_cases c : ∃ e ∈ es, e.a = a ∧ e.b = b
  · rw [if_pos c]; exact (key es h).1 c
  · rw [if_neg c]; exact (key es h).2 c
theorem kn_get {es : List (T3 Nat Nat Bool)} {f : Nat → Nat → Bool} (h : ∀ e ∈ es, e.c = f e.a e.b) {a b : Nat} (hm : ∃ e ∈ es, e.a = a ∧ e.b = b) : valV (kn es) (pk a b) = some (.bl (f a b)) := by
  classical
  rw [kn_val h, if_pos hm]
theorem kn_none {es : List (T3 Nat Nat Bool)} {f : Nat → Nat → Bool} (h : ∀ e ∈ es, e.c = f e.a e.b) {a b : Nat} (hm : ¬ ∃ e ∈ es, e.a = a ∧ e.b = b) : valV (kn es) (pk a b) = none := by
  classical
  rw [kn_val h, if_neg hm]
end SH

set_option Elab.async false
set_option linter.all false
set_option maxRecDepth 100000
set_option maxHeartbeats 4000000
/-! SHJ: (k, p) >= (k', q); t[:2] -/
namespace SH
open PySem PySem.Spec PySem.W PyProof.Rows L2
theorem dataLt_pair {k p k' p' : Int} : dataLt (.tuple [.int k, .int p]) (.tuple [.int k', .int p']) = decide (k < k' ∨ (k = k' ∧ p < p')) := by
  unfold dataLt
  simp only [keyToks, keyToksAll, List.cons_append, List.nil_append]
  rw [lex_self (O := itemOrd)]
  by_cases e : k = k'
  · subst e
    rw [lex_self (O := itemOrd), lex_self (O := itemOrd)]
    by_cases e2 : p = p'
    · subst e2
      rw [lex_self (O := itemOrd), lex_self (O := itemOrd)]
      simp [PyProof.Rows.lexLt]
    · rw [lex_diff (O := itemOrd) (by simpa using e2)]
      show decide (p < p') = _
      exact decide_eq_decide.mpr (by omega)
  · rw [lex_diff (O := itemOrd) (by simpa using e)]
    show decide (k < k') = _
    exact decide_eq_decide.mpr (by omega)
def aGeT (K : PySem.W.Frag) : R2 := fun x y H Q => ∃ a b k p k' p', x = .ref a ∧ y = .ref b ∧ SqT K H a [.int k, .int p] ∧ SqT K H b [.int k', .int p'] ∧ Q (.bl (decide (¬ (k < k' ∨ (k = k' ∧ p < p'))))) H
theorem oGeT {X : Cx} (hu : X.A.units + 64 < cLine) : OpR X (compareOp .GtE) (aGeT X.K) := by
  intro pins s σ H x y v u Q I rx ry h
  obtain ⟨a, b, k, p, k', p', rfl, rfl, h1, h2, q⟩ := h
  obtain ⟨as, r1⟩ := Dp.reads I (.tuple [.int k, .int p]) _ v (.tup h1 (.cons (.int k) (.cons (.int p) .nil))) rx
  obtain ⟨bs, r2⟩ := Dp.reads I (.tuple [.int k', .int p']) _ u (.tup h2 (.cons (.int k') (.cons (.int p') .nil))) ry
  refine ge_data r1 r2 rfl (fun z => by cases z) ?_ ⟨.bl _, H, I, rfl, ?_⟩
  · have : (PyData.tuple [.int k, .int p]).depth ≤ 64 := by show 1 ≤ 64; decide
    omega
  · rw [dataLt_pair]
    have e : (!decide (k < k' ∨ (k = k' ∧ p < p'))) = decide (¬ (k < k' ∨ (k = k' ∧ p < p'))) := decide_not.symm
    rw [e]
    exact q
theorem v_geT {K : PySem.W.Frag} {H : Hp} {Q : VK} {a b : Addr} {k p k' p' : Int} (h1 : SqT K H a [.int k, .int p]) (h2 : SqT K H b [.int k', .int p']) (q : Q (.bl (decide (¬ (k < k' ∨ (k = k' ∧ p < p'))))) H) : aGeT K (.ref a) (.ref b) H Q := ⟨a, b, k, p, k', p', rfl, rfl, h1, h2, q⟩
def aGtT (K : PySem.W.Frag) : R2 := fun x y H Q => ∃ a b k p k' p', x = .ref a ∧ y = .ref b ∧ SqT K H a [.int k, .int p] ∧ SqT K H b [.int k', .int p'] ∧ Q (.bl (decide (k' < k ∨ (k' = k ∧ p' < p)))) H
theorem oGtT {X : Cx} (hu : X.A.units + 64 < cLine) : OpR X (compareOp .Gt) (aGtT X.K) := by
  intro pins s σ H x y v u Q I rx ry h
  obtain ⟨a, b, k, p, k', p', rfl, rfl, h1, h2, q⟩ := h
  obtain ⟨as, r1⟩ := Dp.reads I (.tuple [.int k, .int p]) _ v (.tup h1 (.cons (.int k) (.cons (.int p) .nil))) rx
  obtain ⟨bs, r2⟩ := Dp.reads I (.tuple [.int k', .int p']) _ u (.tup h2 (.cons (.int k') (.cons (.int p') .nil))) ry
  refine gt_data r1 r2 rfl (fun z => by cases z) ?_ ⟨.bl _, H, I, rfl, ?_⟩
  · have : (PyData.tuple [.int k, .int p]).depth ≤ 64 := by show 1 ≤ 64; decide
    omega
  · rw [dataLt_pair]
    exact q
theorem v_gtT {K : PySem.W.Frag} {H : Hp} {Q : VK} {a b : Addr} {k p k' p' : Int} (h1 : SqT K H a [.int k, .int p]) (h2 : SqT K H b [.int k', .int p']) (q : Q (.bl (decide (k' < k ∨ (k' = k ∧ p' < p)))) H) : aGtT K (.ref a) (.ref b) H Q := ⟨a, b, k, p, k', p', rfl, rfl, h1, h2, q⟩
/-- t[:2] of three -/
theorem v_slT2 {K : PySem.W.Frag} {H : Hp} {Q : VK} {a : Addr} {x y z : V} (h : SqT K H a [x, y, z]) (q : ∀ p, H p = none → Q (.ref p) (upd H p (.tup [x, y]))) : rSlT K (.ref a) none (some 2) H Q :=
  ⟨a, _, rfl, h, by rintro ⟨_, h⟩; exact absurd (show (2 : Nat) = 3 from h) (by decide), q⟩
end SH

set_option Elab.async false
set_option linter.all false
set_option maxRecDepth 100000
set_option maxHeartbeats 4000000
/-! SHK: d.update(d2), keys that are tuples; a method whose class is known at the run alone -/
namespace SH
open PySem PySem.Spec PyProof.Rows L2
/-- d.update(d2) -/
def mergK (kvs more : List (List Key × V)) : List (List Key × V) := more.foldl (fun acc p => putK acc p.1 p.2) kvs
theorem mergK_len : ∀ (more kvs : List (List Key × V)), (mergK kvs more).length ≤ kvs.length + more.length
  | [], kvs => by simp [mergK]
  | p :: ps, kvs => by
    have h1 := mergK_len ps (putK kvs p.1 p.2)
    have h2 := length_putK kvs p.1 p.2
    show (mergK (putK kvs p.1 p.2) ps).length ≤ _
    rw [List.length_cons]; omega
theorem mergK_val : ∀ (more kvs : List (List Key × V)) (k : List Key), (∃ p ∈ more, p.1 = k ∧ valV (mergK kvs more) k = some p.2) ∨ ((∀ p ∈ more, p.1 ≠ k) ∧ valV (mergK kvs more) k = valV kvs k)
  | [], kvs, k => .inr ⟨by simp, rfl⟩
  | p :: ps, kvs, k => by
    show (∃ q ∈ p :: ps, q.1 = k ∧ valV (mergK (putK kvs p.1 p.2) ps) k = some q.2) ∨ ((∀ q ∈ p :: ps, q.1 ≠ k) ∧ valV (mergK (putK kvs p.1 p.2) ps) k = valV kvs k)
    rcases mergK_val ps (putK kvs p.1 p.2) k with ⟨q, hq, e1, e2⟩ | ⟨h1, h2⟩
    · exact .inl ⟨q, List.mem_cons_of_mem _ hq, e1, e2⟩
    · rw [valV_put] at h2
      by_cases e : k = p.1
      · rw [if_pos e] at h2
        exact .inl ⟨p, List.mem_cons_self .., e.symm, h2⟩
      · rw [if_neg e] at h2
        refine .inr ⟨fun q hq => ?_, h2⟩
        rcases List.mem_cons.mp hq with rfl | hq
        · exact fun z => e z.symm
        · exact h1 q hq
theorem mem_putK {kvs : List (List Key × V)} {k : List Key} {v : V} {p : List Key × V} (h : p ∈ putK kvs k v) : p = (k, v) ∨ p ∈ kvs := by
  unfold putK at h
  split at h
  · obtain ⟨q, hq, e⟩ := List.mem_map.mp h
    by_cases z : q.1 = k
    · rw [if_pos z] at e
      exact .inl (by rw [← e, z])
    · rw [if_neg z] at e
      exact .inr (by rw [← e]; exact hq)
  · rcases List.mem_append.mp h with h | h
    · exact .inr h
    · exact .inl (List.mem_singleton.mp h)
theorem putK_same {kvs : List (List Key × V)} {k : List Key} {v : V} : (k, v) ∈ putK kvs k v := by
  unfold putK
  split
  · rename_i h
    obtain ⟨q, hq, e⟩ := List.any_eq_true.mp h
    exact List.mem_map.mpr ⟨q, hq, by rw [if_pos (of_decide_eq_true e), of_decide_eq_true e]⟩
  · exact List.mem_append_right _ (List.mem_singleton.mpr rfl)
theorem putK_other {kvs : List (List Key × V)} {k : List Key} {v : V} {p : List Key × V} (h : p ∈ kvs) (n : p.1 ≠ k) : p ∈ putK kvs k v := by
  unfold putK
  split
  · exact List.mem_map.mpr ⟨p, h, by rw [if_neg n]⟩
  · exact List.mem_append_left _ h
theorem KT_all {H : Hp} : ∀ {more : List (List Key × V)} {ps : List (List Key × Addr × Value)} {kvs : List (List Key × V)} {xs : List (List Key × Addr × Value)}, KT H kvs xs → KT H more ps → KT H (mergK kvs more) (storedAllH xs ps)
  | _, _, kvs, xs, h, .nil => h
  | _, _, kvs, xs, h, .cons (a := p) (b := q) (l₁ := more) (l₂ := ps) hq t => by
    obtain ⟨e1, e2, e3⟩ := hq
    show KT H (mergK (putK kvs p.1 p.2) more) (storedAllH (storedH xs q.1 q.2.1 q.2.2) ps)
    exact KT_all (by rw [← e1]; exact h.put p.1 e2 e3) t
def rUpdT : V → List V → Hp → VK → Prop := fun x xs H Q => ∃ (a b : Addr) (kvs more : List (List Key × V)), x = .ref a ∧ xs = [.ref b] ∧ H a = some (.dT kvs) ∧ H b = some (.dT more) ∧ a ≠ b ∧ kvs ≠ [] ∧ kvs.length + more.length ≤ 1000000 ∧ Q .non (upd H a (.dT (mergK kvs more)))
theorem mt_updT {X : Cx} (hu : X.A.units + 1 < cLine) : MtR X "dict.update" rUpdT := by
  intro pins s σ H x xs v us Q I rx rxs h
  obtain ⟨a, b, kvs, more, rfl, rfl, ha, hb, hab, hne, hl, q⟩ := h
  cases rx
  obtain rfl := Vals.ref1 rxs
  obtain ⟨z, hd, xs', rel, dd⟩ := dt_of I.hok ha
  obtain ⟨z2, hd2, ps, rel2, dd2⟩ := dt_of I.hok hb
  have e1 := Paired.length rel
  have e2 := Paired.length rel2
  have hz : xs'.length + ps.length ≤ sizeLine := by rw [← e1, ← e2]; exact Nat.le_trans hl (by decide)
  refine call_update_dictH (knd := tupleKind (mixKind X.prog X.w)) (tupleKind_room_in1 hu) hab hd2 dd dd2 (.inl fun e => hne ?_) hz fun h' dd' _ hs => ?_
  · rw [e] at e1
    exact List.length_eq_zero_iff.mp e1
  · obtain ⟨o, es, ep, hq, h2, h3, h4, _, h5⟩ := dd'
    have hml : (mergK kvs more).length ≤ sizeLine := Nat.le_trans (mergK_len more kvs) (Nat.le_trans hl (by decide))
    have I2 : Inv X pins σ (upd H a (.dT (mergK kvs more))) { s with heap := h' } :=
      d_write (t' := s.toks) I (by rw [ha]; exact True.intro) hs ⟨o, hq⟩ ⟨hml, hd, _, (KT_all rel rel2).keeps (fun c ys ec => (by rw [upd_ne (ne_of ec ha (fun z => nomatch z))]; exact ec)), o, es, ep, hq, h2, h3, h4, h5⟩
    exact ⟨.non, _, I2, rfl, q⟩
theorem w_upd {H : Hp} {Q : VK} {a b : Addr} {kvs more : List (List Key × V)} (ha : H a = some (.dT kvs)) (hb : H b = some (.dT more)) (hab : a ≠ b) (hne : kvs ≠ []) (hl : kvs.length + more.length ≤ 1000000) (q : Q .non (upd H a (.dT (mergK kvs more)))) : rUpdT (.ref a) [.ref b] H Q :=
  ⟨a, b, kvs, more, rfl, rfl, ha, hb, hab, hne, hl, q⟩
theorem ty_dT {K : PySem.W.Frag} {H : Hp} {a : Addr} {kvs : List (List Key × V)} (ha : H a = some (.dT kvs)) : tyV K "dict" (.ref a) H := .inr (.inr (.inl ⟨rfl, .inr ⟨kvs, ha⟩⟩))
/-- either rule will do -/
theorem peOr {X : Cx} {e : Expr} {t u : TE} (h : PE X e t) (k : PE X e u) : PE X e (fun σ H Q => t σ H Q ∨ u σ H Q) := ⟨fun pins s σ H Q I q => q.elim (h.run pins s σ H Q I) (k.run pins s σ H Q I)⟩
/-- either rule will do, by name -/
def tOrE (t u : TE) : TE := fun σ H Q => t σ H Q ∨ u σ H Q
theorem peOrE {X : Cx} {e : Expr} {t u : TE} (h : PE X e t) (k : PE X e u) : PE X e (tOrE t u) := peOr h k
theorem r_orL {t u : TE} {σ : L2.St} {H : Hp} {Q : VK} (h : t σ H Q) : tOrE t u σ H Q := .inl h
theorem r_orR {t u : TE} {σ : L2.St} {H : Hp} {Q : VK} (h : u σ H Q) : tOrE t u σ H Q := .inr h
/-- an if by two tests, whose ways meet again -/
theorem r_waJ {c : Prop} [Decidable c] {te : TT} {t1 t2 : TS} {D : Ends} {σ : L2.St} {H : Hp} (W : L2.St → Hp → Prop) (hk : ∀ σ' H', W σ' H' → D.nx σ' H')
    (h1 : c → ∀ N : L2.St → Hp → Prop, (∀ σ' H', W σ' H' → N σ' H') → te σ H fun b H1 => if b = true then t1 { D with nx := N } σ H1 else t2 { D with nx := N } σ H1) (h2 : ¬ c → ∀ N : L2.St → Hp → Prop, (∀ σ' H', W σ' H' → N σ' H') → t2 { D with nx := N } σ H) :
    if decide c = true then te σ H (fun b H1 => if b = true then t1 D σ H1 else t2 D σ H1) else if false = true then t1 D σ H else t2 D σ H := r_w (fun h => h1 h D.nx hk) fun h => r_F (h2 h D.nx hk)
theorem r_naJ {c : Prop} [Decidable c] {te : TT} {t1 t2 : TS} {D : Ends} {σ : L2.St} {H : Hp} (W : L2.St → Hp → Prop) (hk : ∀ σ' H', W σ' H' → D.nx σ' H')
    (h1 : ¬ c → ∀ N : L2.St → Hp → Prop, (∀ σ' H', W σ' H' → N σ' H') → te σ H fun b H1 => if b = true then t1 { D with nx := N } σ H1 else t2 { D with nx := N } σ H1) (h2 : c → ∀ N : L2.St → Hp → Prop, (∀ σ' H', W σ' H' → N σ' H') → t2 { D with nx := N } σ H) :
    if (!decide c) = true then te σ H (fun b H1 => if b = true then t1 D σ H1 else t2 D σ H1) else if false = true then t1 D σ H else t2 D σ H := r_nw (fun h => h1 h D.nx hk) fun h => r_F (h2 h D.nx hk)
theorem inV_nats {p : Nat} {xs : List Nat} : inV (.int (p : Nat)) (xs.map fun n : Nat => V.int n) = decide (p ∈ xs) := by
  unfold inV
  rw [List.any_map]
  induction xs with
  | nil => simp
  | cons x xs ih =>
    rw [List.any_cons, ih]
    by_cases e : p = x
    · subst e; simp [eqV]
    · have e2 : ¬ ((x : Int) = (p : Int)) := by omega
      simp [eqV, e, e2]
theorem flat_nats {xs : List Nat} : (xs.map fun n : Nat => V.int n).all flatV = true := by
  rw [List.all_map]
  exact List.all_eq_true.mpr fun _ _ => rfl
section
variable {K : PySem.W.Frag} {H : Hp} {Q : VK} {a : Addr} {xs : List Nat} {p : Nat}
theorem v_inN (h : SqL K H a (xs.map fun n : Nat => V.int n)) (k : Q (.bl (decide (p ∈ xs))) H) : rIn K false (.int (p : Nat)) (.ref a) H Q := ⟨a, _, rfl, .inl h, rfl, flat_nats, by rw [inV_nats]; exact k⟩
theorem v_niN (h : SqL K H a (xs.map fun n : Nat => V.int n)) (k : Q (.bl (!decide (p ∈ xs))) H) : rIn K true (.int (p : Nat)) (.ref a) H Q := ⟨a, _, rfl, .inl h, rfl, flat_nats, by rw [inV_nats]; exact k⟩
end
/-! dicts of numbers -/
theorem v_dputK {H : Hp} {P : Hp → Prop} {d : Addr} {kvs : List (Key × V)} {i : Int} {v : V} (hd : H d = some (.dK kvs)) (hl : kvs.length < 1000000) (k : P (upd H d (.dK (putK kvs (.inl i) v)))) : kDPut (.ref d) (.int i) v H P := ⟨d, _, rfl, DPut.k (k := .inl i) hd (Nat.lt_trans hl (by decide)), k⟩
theorem v_dgetK {H : Hp} {Q : VK} {d : Addr} {kvs : List (Key × V)} {i : Int} {v : V} (hd : H d = some (.dK kvs)) (e : valV kvs (.inl i) = some v) (q : Q v H) : kDGet (.ref d) (.int i) H Q := ⟨d, v, rfl, by rw [← e]; exact DGet.k (k := .inl i) hd, q⟩
/-! isinstance of an own class -/
structure IsiC (K : PySem.W.Frag) (C : Addr) : Prop where
  ca : PySem.W.findIn K (.ref C) "__class__" = some (some (.builtin "object.__class__"))
  cn : PySem.W.specialIn K (.builtin "object.__class__") "__get__" = some (some (.builtin "getset_descriptor.__get__"))
  ct : PySem.W.takesIn K (.builtin "object.__class__") = some true
  cm : PySem.W.mroIn K C (.type "object") = some true
theorem isi_ins {K : PySem.W.Frag} {H : Hp} {Q : VK} {a C D dx : Addr} {fs : List (Str × V)} {b : Bool} (ho : H a = some (.ins C dx fs)) (cl : Cls K C) (i : IsiC K C) (kt : PySem.W.kitOne K (.ref C) (.ref D) = some b) (k : Q (.bl b) H) : rIsi K [.ref a, .ref D] H Q :=
  v_isi (.own D) (.base (.ins ho cl i.ca i.cn i.ct i.cm)) kt k
end SH

set_option Elab.async false
set_option linter.all false
set_option maxRecDepth 100000
set_option maxHeartbeats 4000000
/-! SHN: C(e, .., k = v): an instance made with keywords -/
namespace SH
open PySem PySem.Spec PyProof.Rows L2
structure CalCK (P : Program) (w : World) (K : PySem.W.Frag) (mg : Str → Option Value) (base : Heap) (CX : CXT) (k : Nat) (x : Str) (C : Addr) (n : Nat) (ks : List Str) (gV : List V → List V → List V) (sp : Sp) : Prop where
  ex : ∃ (f : Addr) (fd : FuncData) (ps : List Str) (g : List Value → List Value → List Value), mg x = some (.ref C) ∧ L2.Mk K C f ∧ KBn K fd ps (n + 1) ks g gV ∧ FnOk P w K mg base CX k f fd ps sp
section
variable {X : Cx} {CX : CXT} {k j n : Nat} {C : Addr} {sp : Sp} {gV : List V → List V → List V} {ks : List Str} {E : XK} {x : Str} {p pos : Pos} {e : Expr} {es : List Expr} {kws : List Keyword} {t tk : TA}
theorem pe_makeKF (c : CalCK X.prog X.w X.K X.mg X.base CX j x C n ks gV sp) (hr : Room k X.A) (hg : Gl X x) (hx : Passes CX X E) (ha : PA X (e :: es) t) (hkw : PK X kws tk) (hk : j + 1 ≤ k := by decide)
    (hall : (backToKw pos (keywordEach kws X.env)).all (·.1.isSome) = true := by rfl) (hks : (backToKw pos (keywordEach kws X.env)).filterMap (·.1) = ks := by rfl)
    (hdb : (x == ("__debug__" : Str)) = false := by decide) (he : starEach (e :: es) X.env = (false, eval e X.env) :: starEach es X.env := by rfl)
    (hpl : ((backTo pos (starEach (e :: es) X.env)).any (·.1) || (backToKw pos (keywordEach kws X.env)).any (·.1.isNone)) = false := by rfl) :
    PE X (.Call (.Name x p) (e :: es) kws pos) (tMakeN C n ks.length sp gV E t tk) := by
  obtain ⟨f, fd, ps, g, h1, h2, h3, h5⟩ := c.ex
  exact pe_makeN h2 h5 (hr.mono hk) hg h1 h3 hx ha hkw hall hks hdb he hpl
def kMakeN (C : Addr) (n m : Nat) (sp : Sp) (gV : List V → List V → List V) (E : XK) (Q : VK) (vs zs : List V) (H2 : Hp) : Prop := vs.length = n ∧ zs.length = m ∧
  ∀ x dx, H2 x = none → H2 dx = none → dx ≠ x → sp (gV (.ref x :: vs) zs) (upd (upd H2 dx (.own x)) x (.ins C dx [])) (fun v H3 => v = .non ∧ Q (.ref x) H3) E
theorem r_makeN {C : Addr} {n m : Nat} {σ : L2.St} {H : Hp} {Q : VK} (h : t σ H fun vs H1 => tk σ H1 fun zs H2 => kMakeN C n m sp gV E Q vs zs H2) : tMakeN C n m sp gV E t tk σ H Q := h
end
/-! a name of one's own that holds a def of the module -/
section
variable {X : Cx} {k j i : Nat} {f : Addr} {sp : Sp} {x : Str} {p pos : Pos} {e : Expr} {es : List Expr} {t : TA}
theorem pe_callLF (c : Held X.prog X.w X.K X.mg X.base j f sp) (hr : Room k X.A) (hN : X.N[i]? = some x) (hv : Vis X.env.scope x) (ha : PA X (e :: es) t) (hk : j ≤ k := by decide)
    (hdb : (x == ("__debug__" : Str)) = false := by decide) (hcd : (x == ("__classdict__" : Str)) = false := by decide)
    (he : starEach (e :: es) X.env = (false, eval e X.env) :: starEach es X.env := by rfl) (hpl : (backTo pos (starEach es X.env)).any (·.1) = false := by rfl) : PE X (.Call (.Name x p) (e :: es) [] pos) (tCallL i f sp [] (fun _ _ _ => False) t) := by
  obtain ⟨fd, ps, F, h1, h2⟩ := c.ex
  exact pe_callL F (hr.mono hk) hN hv h1 h2 .nil (fun _ _ _ _ _ _ _ z => z.elim) ha hdb hcd he hpl
theorem r_callL {σ : L2.St} {H : Hp} {Q : VK} {E : XK} (hs : σ[i]? = some (some (.ref f))) (k : t σ H fun vs H1 => sp (vs ++ []) H1 Q E) : tCallL i f sp [] E t σ H Q := ⟨hs, k⟩
end
end SH

set_option Elab.async false
set_option linter.all false
set_option maxRecDepth 100000
set_option maxHeartbeats 4000000
/-! SHR: C() where C has no __init__ but object's -/
namespace SH
open PySem PySem.Spec PyProof.Rows L2
structure MkP (K : PySem.W.Frag) (C : Addr) : Prop where
  makes : PySem.W.makesIn K C = true
  init : PySem.W.findIn K (.ref C) "__init__" = some (some (.builtin "object.__init__"))
  kp : PySem.W.keepIn K (.ref C) = true
def tMakeP (C : Addr) : TE := fun σ H Q => ∀ x dx, H x = none → H dx = none → dx ≠ x → Q (.ref x) (upd (upd H dx (.own x)) x (.ins C dx []))
theorem pe_makeP {X : Cx} {C : Addr} {x : Str} {p pos : Pos} (M : MkP X.K C) (hg : Gl X x) (hm : X.mg x = some (.ref C)) (hdb : (x == ("__debug__" : Str)) = false := by decide) : PE X (.Call (.Name x p) [] [] pos) (tMakeP C) := by
  refine ⟨fun pins s σ H Q I h => ?_⟩
  refine wpAny_Call_Name_kw (ld_glob I hg hm ?_ hdb)
  refine PySem.W.callWith_K0 I.kIn M.kp ?_
  have hq := h (s.heap.objs.size + 1) s.heap.objs.size (I.hok.fresh (Nat.le_succ _)) (I.hok.fresh (Nat.le_refl _)) (Nat.ne_of_lt (Nat.lt_succ_self _))
  have I2 := Inv.made (C := C) I
  refine wpAny_call (make_map0 I.kIn M.makes M.init (fun self => PySem.W.Looks.of_pure (PySem.W.oi_bind self)) ?_)
  have hx : ((s.heap.push PySem.W.emptyDict).push (PySem.W.instObj C s.heap.objs.size)).get? (s.heap.objs.size + 1) = some (PySem.W.instObj C s.heap.objs.size) := by heap_get
  refine codeAny_call_builtin PySem.W.oi_plain PySem.W.entry_oi (PySem.W.check_slot PySem.W.oi_kind PySem.W.oi_split ?_ (PySem.W.oi_args _) ?_)
  · have LT : PySem.W.Looks (model X.prog X.w) ((s.heap.push PySem.W.emptyDict).push (PySem.W.instObj C s.heap.objs.size)) (typeOf (.ref (s.heap.objs.size + 1))) (.ref C) := fun A Q E s k q => wpAny_typeOf_ref (k _ _ hx) q
    exact LT.andThen (PySem.W.looks_mroIn I2.kIn (mro_obj M.makes))
  · rw [PySem.W.oi_run]
    exact wpAny_pure ⟨rfl, ⟨V.ref (s.heap.objs.size + 1), _, I2, rfl, hq⟩⟩
/-! membership of data in a list of data -/
def rInD (K : PySem.W.Frag) (neg : Bool) : R2 := fun x y H Q => ∃ d ds, Dp K H x d ∧ Dp K H y (.list ds) ∧ d.canLay0 = true ∧ PyData.canLayAll0 ds = true ∧ d.depth ≤ 8 ∧ Q (.bl (if neg then !(ds.any fun e => PyData.eqv e d) else ds.any fun e => PyData.eqv e d)) H
theorem op_inD {X : Cx} (hu : X.A.units + 64 < cLine) : OpR X (compareOp .In) (rInD X.K false) := by
  intro pins s σ H x y v u Q I rx ry h
  obtain ⟨d, ds, hd, he, sd, se, hdp, q⟩ := h
  obtain ⟨as, r1⟩ := Dp.reads I d x v hd rx
  obtain ⟨bs, r2⟩ := Dp.reads I _ y u he ry
  refine SeqAt.in_list_reads r2 r1 se sd ?_ ⟨.bl _, H, I, rfl, q⟩
  have := Nat.min_le_right (PyData.depthAll ds) d.depth
  omega
theorem op_notInD {X : Cx} (hu : X.A.units + 64 < cLine) : OpR X (compareOp .NotIn) (rInD X.K true) := by
  intro pins s σ H x y v u Q I rx ry h
  obtain ⟨d, ds, hd, he, sd, se, hdp, q⟩ := h
  obtain ⟨as, r1⟩ := Dp.reads I d x v hd rx
  obtain ⟨bs, r2⟩ := Dp.reads I _ y u he ry
  refine SeqAt.notIn_list_reads r2 r1 se sd ?_ ⟨.bl _, H, I, rfl, q⟩
  have := Nat.min_le_right (PyData.depthAll ds) d.depth
  omega
section
variable {K : PySem.W.Frag} {H : Hp} {α : Type} [Enc α] {p : Addr} {vs : List V} {xs : List α} {v : V} {x : α} {Q : VK}
theorem v_notInE (h1 : Is K H v x) (h2 : SqL K H p vs) (h3 : IsL K H vs xs) (k : ∀ b : Bool, (b = true ↔ x ∈ xs) → Q (.bl (!b)) H) (hn : Enc.n α ≤ 8 := by decide) : rInD K true v (.ref p) H Q := by
  refine ⟨Enc.d x, xs.map Enc.d, h1, .lst h2 h3, Enc.lay x, Enc.layAll xs, Nat.le_trans (Enc.deep x) hn, ?_⟩
  rw [if_pos rfl]
  refine k _ ?_
  rw [List.any_map, List.any_eq_true]
  constructor
  · rintro ⟨y, hy, e⟩
    have e' : PyData.eqv (Enc.d y) (Enc.d x) = true := e
    rw [Enc.eqv] at e'
    obtain rfl := @of_decide_eq_true _ (Enc.dec y x) e'
    exact hy
  · intro h
    refine ⟨x, h, ?_⟩
    show PyData.eqv (Enc.d x) (Enc.d x) = true
    rw [Enc.eqv]
    exact @decide_eq_true _ (Enc.dec x x) rfl
end
end SH

set_option Elab.async false
set_option linter.all false
set_option maxRecDepth 100000
set_option maxHeartbeats 4000000
/-! SHX: defs that raise, try, what is caught -/
namespace SH
open PySem PySem.Spec PyProof.Rows L2
section
variable {X : Cx} {CX : CXT} {k j : Nat} {sp : Sp} {dvs : List V} {E : L2.St → XK} {x : Str} {p pos : Pos} {e : Expr} {es : List Expr} {t : TA}
/-- a call in a try: what is raised is wished for at the slots -/
theorem pe_callX (c : Cal X.prog X.w X.K X.mg X.base CX j x dvs sp) (hr : Room k X.A) (hg : Gl X x) (hx : ∀ σ, PassesAt CX X σ (E σ)) (ha : PA X (e :: es) t) (hk : j ≤ k := by decide)
    (hdb : (x == ("__debug__" : Str)) = false := by decide) (he : starEach (e :: es) X.env = (false, eval e X.env) :: starEach es X.env := by rfl) (hpl : (backTo pos (starEach es X.env)).any (·.1) = false := by rfl) :
    PE X (.Call (.Name x p) (e :: es) [] pos) (tCallSD sp dvs E t) := by
  obtain ⟨f, fd, ps, ds, h1, h2, h3, h4, h5⟩ := c.ex
  exact pe_callSD h5 (hr.mono hk) hg h1 h2 h3 h4 hx ha hdb he hpl
theorem r_callX {σ : L2.St} {H : Hp} {Q : VK} (h : t σ H fun vs H1 => sp (vs ++ dvs) H1 Q (E σ)) : tCallSD sp dvs E t σ H Q := h
/-- isinstance of what a suite holds, an error without a dict -/
def rIsX (K : PySem.W.Frag) (cls : Value) (d : Option Addr) (a : Addr) : List V → Hp → VK → Prop := fun xs H Q => ∃ D, cls = .ref D ∧ d = none ∧ ExcC K D ∧ rIsE K D a xs H Q
theorem call_isX {a : Addr} {oe : Obj} {cls : Value} {d : Option Addr} {pn : List (Addr × Obj)} (hz : Zc cls d oe) (hf : ∃ vs, oe.data = .fields vs) : CallR (X.suite a ((a, oe) :: pn)) (.builtin "isinstance") (rIsX X.K cls d a) := by
  intro pins s σ H xs us Q I r h
  obtain ⟨D, rfl, rfl, C, h⟩ := h
  exact call_isE C hz hf pins s σ H xs us Q I r h
theorem v_isX {K : PySem.W.Frag} {D C a : Addr} {H : Hp} {Q : VK} {b : Bool} (hc : ExcC K D) (h : PySem.W.kitOne K (.ref D) (.ref C) = some b) (k : Q (.bl b) H) : rIsX K (.ref D) none a [.ref a, .ref C] H Q :=
  ⟨D, rfl, rfl, hc, .ref C, .ref C, b, rfl, fun _ r => r, h, k⟩
theorem v_isXT {K : PySem.W.Frag} {D a : Addr} {n : String} {H : Hp} {Q : VK} {b : Bool} (hc : ExcC K D) (h : PySem.W.kitOne K (.ref D) (.type n) = some b) (k : Q (.bl b) H) : rIsX K (.ref D) none a [.ref a, .ty n] H Q :=
  ⟨D, rfl, rfl, hc, .ty n, .type n, b, rfl, fun _ r => r, h, k⟩
/-- what an except clause asks: the class is caught -/
theorem r_catch {K : PySem.W.Frag} {c cls : Value} {d : Option Addr} {i : Nat} {ts : Addr → Value → Option Addr → TS} {Wo : WX} {D : Ends} {σ : L2.St} {H : Hp} (h : PySem.W.exmOne K cls c = some true)
    (k : ∀ a, H a = none → ts a cls d { nx := fun σ' H' => D.nx (σ'.set i none) H', rt := D.rt, bk := fun σ' H' => D.bk (σ'.set i none) H', ct := fun σ' H' => D.ct (σ'.set i none) H' } (σ.set i (some (.ref a))) H) : wAs K c i ts Wo D cls d σ H :=
  ⟨true, h, fun _ => k, fun z => by cases z⟩
end
end SH

set_option Elab.async false
set_option linter.all false
set_option maxRecDepth 100000
set_option maxHeartbeats 4000000
/-! SHS: texts -/
namespace SH
open PySem PySem.Spec PyProof.Rows L2
theorem v_isiSS {K : PySem.W.Frag} {H : Hp} {Q : VK} {s : Str} (k : Q (.bl true) H) : rIsi K [.str s, .ty "str"] H Q := ⟨.str s, .ty "str", .type "str", .type "str", true, rfl, .ty _, .base (.str s), by rfl, k⟩
theorem ty_str {K : PySem.W.Frag} {H : Hp} {s : Str} : tyV K "str" (.str s) H := rfl
/-! zip of two tuples -/
section
variable {K : PySem.W.Frag} {a b : Addr} {xs ys : List V}
theorem walk_zipT {n : Nat} (hn : n = min xs.length ys.length) : Walk (RZ.ItzT K a b) n (fun H => SqT K H a xs ∧ SqT K H b ys) (YPair (fun i => xs[i]?) (fun i => ys[i]?)) := by
  subst hn
  refine ⟨fun i _ hi q => ?_, fun _ q => ⟨xs, ys, q.1, q.2, by omega⟩, fun i H v H' _ q y => ?_⟩
  · have h1 : i < xs.length := by omega
    have h2 : i < ys.length := by omega
    exact ⟨xs, ys, xs[i], ys[i], q.1, q.2, by simp [h1], by simp [h2]⟩
  · obtain ⟨T, x, z, h1, h2, h3, h4, h5⟩ := y
    exact ⟨T, x, z, h1, h2, h3, h4 xs q.1, h5 ys q.2⟩
def kZipA (K : PySem.W.Frag) (R : It → Hp → Prop) : List V → Hp → Prop := fun vs H1 => ∃ a b xs ys, vs = [.ref a, .ref b] ∧ ((SqL K H1 a xs ∧ SqL K H1 b ys ∧ R (Itz K a b) H1) ∨ (SqT K H1 a xs ∧ SqT K H1 b ys ∧ R (RZ.ItzT K a b) H1))
theorem r_iZipA {as : TA} {σ : L2.St} {H : Hp} {R : It → Hp → Prop} (h : as σ H (kZipA K R)) : RZ.iZipA K as σ H R := h
theorem v_zipAT {H : Hp} {R : It → Hp → Prop} (h1 : SqT K H a xs) (h2 : SqT K H b ys) (k : R (RZ.ItzT K a b) H) : kZipA K R [.ref a, .ref b] H := ⟨a, b, xs, ys, rfl, .inr ⟨h1, h2, k⟩⟩
end
end SH

set_option Elab.async false
set_option linter.all false
set_option maxRecDepth 100000
set_option maxHeartbeats 8000000
/-! the step -/
local macro_rules | `(tactic| walk_at "slot") => `(tactic| (with_reducible first | exact SH.get_z | (apply SH.get_s; walk_at "slot")))
local macro_rules | `(tactic| walk_at "put") => `(tactic| (with_reducible first | exact SH.set_z | (apply SH.set_s; walk_at "put")))
local macro_rules | `(tactic| walk_at "wipe") => `(tactic| (with_reducible first | exact SH.wp_z | apply SH.wp_s (by walk_at "wipe") (by walk_at "put")))
local macro_rules | `(tactic| walk_at "begin") => `(tactic| ((apply SH.r_start (by (repeat (with_reducible first | exact SH.st_z | apply SH.st_c | apply SH.st_n)))); (try dsimp only [L2.Cx.nox, L2.Cx.wish, L2.cxOf])))
local macro_rules | `(tactic| walk_at "r0") => `(tactic| with_reducible first
  | ((apply SH.r_nx (by walk_at "put")))
  | refine SH.r_seq ?_ | refine SH.r_asg ?_ | (apply SH.r_gnw (by walk_at "wipe")) | (apply SH.r_gtw (by walk_at "wipe")) | ((apply SH.r_gname (by walk_at "put")))
  | ((apply SH.r_var (by walk_at "slot"))) | refine SH.r_c ?_ | refine SH.r_op ?_ | refine SH.r_cons ?_ | refine SH.r_nil ?_
  | refine SH.v_addI ?_ | refine SH.v_subI ?_ | refine SH.v_ltI ?_ | refine SH.v_leI ?_ | refine SH.v_gtI ?_ | refine SH.v_geI ?_ | refine SH.v_eqI ?_ | refine SH.v_neI ?_
  | refine SH.v_eqB ?_ | refine SH.v_neB ?_ | refine SH.w_isB ?_ | refine SH.w_notB ?_ | refine SH.v_isN ?_ | refine SH.v_notN ?_ | refine SH.v_ipA ?_ | refine SH.v_ipS ?_ | refine SH.v_and ?_
  | refine SH.r_ifS ?_ | refine SH.r_test ?_ | refine SH.r_bl ?_ | refine SH.r_B ?_ | refine SH.r_and ?_ | refine SH.r_or ?_ | refine SH.r_not ?_ | refine SH.r_andV ?_ | refine SH.r_orV ?_ | refine SH.r_notV ?_
  | refine SH.r_T ?_ | refine SH.r_F ?_ | refine SH.r_nT ?_ | refine SH.r_nF ?_
  | refine SH.r_ret ?_ | refine SH.r_retN ?_ | refine SH.r_drop ?_ | ((apply SH.r_aug (by walk_at "slot"))) | refine SH.r_next ?_ | refine SH.r_if ?_
  | refine SH.r_call ?_ | refine SH.r_cb ?_ | refine SH.r_tup ?_ | refine SH.r_lst ?_ | refine SH.r_part ?_ | refine SH.r_nopart ?_ | refine SH.r_int ?_ | refine SH.r_sl ?_ | refine SH.r_chain ?_
  | refine SH.r_bm ?_ | refine SH.r_bm0 ?_ | refine SH.r_un ?_ | refine SH.r_neg ?_ | refine SH.r_gcons ?_ | refine SH.r_gnil ?_ | refine SH.r_gsub ?_ | refine SH.r_brk ?_ | refine SH.r_cont ?_ | refine SH.r_yes ?_
  | refine SH.r_for ?_ | refine SH.r_lc ?_ | refine SH.r_iList ?_ | refine SH.r_iTup ?_ | refine SH.r_iRng1 ?_ | refine SH.r_iRng2 ?_ | refine SH.r_iRng3 ?_ | refine SH.r_iEnum ?_ | refine SH.r_iZip ?_ | refine SH.r_iRev ?_
  | refine SH.r_fldF ?_ | refine SH.r_sfldF ?_ | refine SH.r_sfldAugF ?_ | refine SH.r_meth ?_ | refine SH.r_make ?_ | refine SH.r_lrg1 ?_ | refine SH.r_lrg2 ?_ | refine SH.r_bits ?_ | refine SH.v_bits ?_ | refine SH.w_max ?_ | refine SH.w_min ?_
  | refine SH.r_par ?_ | refine SH.r_par3 ?_ | (apply SH.v_par (by walk_at "put") (by walk_at "put")) | (apply SH.v_par3 (by walk_at "put") (by walk_at "put") (by walk_at "put"))
  | refine SH.r_callS ?_ | refine SH.r_mkO ?_ | refine SH.r_xf ?_ | refine SH.r_ost ?_ | refine SH.r_methX ?_ | refine SH.r_makeX ?_ | refine SH.r_augS ?_ | refine SH.r_dnewT ?_ | refine SH.r_dput ?_ | refine SH.r_dget1 ?_ | refine SH.r_dgetI ?_ | refine SH.r_din ?_ | refine SH.r_dnotin ?_ | refine SH.w_intI ?_ | refine SH.w_intB ?_ | ((apply SH.v_dget1 (by assumption))))
/-! heap facts -/
local macro_rules | `(tactic| walk_at "ne") => `(tactic| with_reducible first
  | assumption | (apply Ne.symm; assumption)
  | ((apply SH.ne_of_none'); (focus (assumption; done)); (focus (walk_at "lk"))) | ((apply Ne.symm); (apply SH.ne_of_none'); (focus (assumption; done)); (focus (walk_at "lk")))
  | ((apply L2.ne_of); (focus (walk_at "lk")); (focus (walk_at "lk")); (focus (intro z; cases z; done))))
local macro_rules | `(tactic| walk_at "lk") => `(tactic| (focus
  ((repeat (with_reducible first
  | assumption | exact L2.upd_same
  | (apply SH.off_old (by assumption))
  | ((apply SH.off_far); (focus (walk_at "ne")))
  | (apply SH.Stp.keep0 (by assumption))));
        done)))
local macro_rules | `(tactic| walk_at "sq") => `(tactic| (focus
  ((repeat (with_reducible first
  | assumption | exact L2.SqL.of L2.upd_same | exact L2.SqT.of L2.upd_same | exact L2.SqL.of (by assumption) | exact L2.SqT.of (by assumption)
  | (apply SH.sql_off (by assumption)) | (apply SH.sqt_off (by assumption))
  | ((apply SH.sql_offar); (focus (walk_at "ne"))) | ((apply SH.sqt_offar); (focus (walk_at "ne")))
  | (apply SH.Stp.sql0 (by assumption)) | (apply SH.Stp.sqt0 (by assumption))));
        done)))
local macro_rules | `(tactic| walk_at "st") => `(tactic| (focus
  ((repeat (with_reducible first
  | assumption | exact SH.Stp.refl _ _
  | (apply SH.st_new (by assumption)) | (apply SH.st_trans (by assumption)) | ((apply SH.st_put); (focus (walk_at "fr")))));
        done)))
local macro_rules | `(tactic| walk_at "fr") => `(tactic| with_reducible first | assumption | ((apply SH.st_fr (by assumption)); (walk_at "st")))
local macro_rules | `(tactic| walk_at "few") => `(tactic| first | exact SH.few0 | exact SH.few1 | exact SH.few2 | exact SH.few3 | exact SH.few4 | exact SH.few5 | exact SH.few6 | (simp; done))
local macro_rules | `(tactic| walk_at "pf") => `(tactic| first | exact SH.pf_nil | exact SH.pf_hit | (apply SH.pf_miss (by decide) (by walk_at "pf")))
/-! steps with a side -/
local macro_rules | `(tactic| walk_at "r2") => `(tactic| first
  | ((with_reducible refine SH.v_mulI ?_ ?_); (focus (first | exact L2.CMul.ok (.inl ⟨by omega, by omega⟩) | exact L2.CMul.ok (.inr ⟨by omega, by omega⟩) | exact SH.mul64 ⟨by omega, by omega⟩ ⟨by omega, by omega⟩)))
  | ((with_reducible refine SH.v_divS ?_ ?_ ?_); (focus omega); (focus omega))
  | ((with_reducible refine SH.v_mod ?_ ?_); (focus omega))
  | (with_reducible refine SH.v_pow60 ?_)
  | ((with_reducible apply SH.v_lenQ); (focus (walk_at "sq")); (focus (first | exact List.length_map _ | rfl))) | ((with_reducible apply SH.v_lenU); (focus (walk_at "sq")); (focus (first | exact List.length_map _ | rfl)))
  | ((with_reducible apply SH.v_slL); (focus (walk_at "sq"))) | ((with_reducible apply SH.v_iList); (focus (walk_at "sq")))
  | ((with_reducible refine SH.v_rng2 ?_ ?_); (focus (refine ⟨by omega, by omega, by omega, by omega⟩)))
  | ((with_reducible refine SH.v_rng1 ?_ ?_); (focus (refine ⟨by omega, by omega⟩)))
  | ((with_reducible apply SH.v_fld); (focus (walk_at "lk")); (focus rfl)) | ((with_reducible apply SH.v_sfld); (focus (walk_at "lk")); (focus (walk_at "few")); (focus (walk_at "pf"))) | ((with_reducible apply SH.v_aug1); (focus (walk_at "lk")); (focus rfl)) | ((with_reducible apply SH.v_aug2); (focus (walk_at "lk")); (focus (walk_at "few")); (focus (walk_at "pf")))
  | ((with_reducible apply SH.v_enum); (focus (walk_at "sq"))) | ((with_reducible apply SH.v_rev1); (focus (walk_at "sq"))) | ((with_reducible apply SH.v_zip); (focus (walk_at "sq")); (focus (walk_at "sq"))) | ((with_reducible apply SH.v_iTup); (focus (walk_at "sq")))
  | (with_reducible refine SH.v_tup1 ?_) | (with_reducible refine SH.v_tup2 ?_) | (with_reducible refine SH.v_tup3 ?_) | (with_reducible refine SH.v_lst0 ?_) | (with_reducible refine SH.v_lst1 ?_) | (with_reducible refine SH.v_lst2 ?_) | (with_reducible refine SH.v_lst3 ?_) | (with_reducible refine SH.v_lst4 ?_)
  | ((with_reducible apply SH.r_ty); (focus (walk_at "lk")))
  | ((with_reducible apply SH.w_listL); (focus (walk_at "sq"))) | ((with_reducible apply SH.w_listT); (focus (walk_at "sq"))) | ((with_reducible apply SH.w_tupL); (focus (walk_at "sq"))) | ((with_reducible apply SH.w_tupT); (focus (walk_at "sq")))
  | ((with_reducible apply SH.r_gtup); (focus (walk_at "sq")); (focus rfl))
  | ((with_reducible apply SH.r_glst); (focus (walk_at "sq")); (focus rfl))
  | (with_reducible refine SH.r_callX ?_)
  | ((with_reducible refine SH.r_wp ?_ ?_); (focus rfl))
  | ((with_reducible apply SH.v_methX); (focus (walk_at "lk")); (focus rfl)) | ((with_reducible apply SH.v_xf); (focus (walk_at "lk")); (focus rfl)) | ((with_reducible apply SH.v_meth); (focus (walk_at "lk")); (focus rfl)) | ((with_reducible apply SH.isi_L); (focus (walk_at "lk"))) | ((with_reducible apply SH.isi_T); (focus (walk_at "lk"))) | (with_reducible refine SH.isi_bl_bool ?_) | (with_reducible refine SH.isi_bl_int ?_)
  | (with_reducible refine SH.r_ckw ?_) | (with_reducible refine SH.r_ckw2 ?_) | (with_reducible refine SH.r_lrev ?_) | ((with_reducible apply SH.v_lrev); (focus (walk_at "sq")))
  | ((with_reducible refine SH.v_isiIT ?_)) | ((with_reducible refine SH.v_isiIB ?_)) )
local macro_rules | `(tactic| walk_at "r1") => `(tactic| first | walk_at "r0" | walk_at "r2")
local macro_rules | `(tactic| walk_at "rd") => `(tactic| repeat walk_at "r1")
/-! the same, up to the making of an instance, or a call -/
local macro_rules | `(tactic| walk_at "rq") => `(tactic| repeat ((fail_if_success (with_reducible refine SH.r_make ?_)); walk_at "r1"))
local macro_rules | `(tactic| walk_at "rc") => `(tactic| repeat ((fail_if_success (with_reducible refine SH.r_call ?_)); walk_at "r1"))
/-! the same, up to an if -/
local macro_rules | `(tactic| walk_at "ri") => `(tactic| repeat ((fail_if_success (with_reducible refine SH.r_ifS ?_)); walk_at "r1"))

namespace Law
open PySem PySem.Spec PyProof.Rows L2 SH TL
def top (i : Nat) : Stmt := PySem.Challenge.pw_sorthall_k83_rules_read.main.body.getD i (.Pass ⟨0, 0, 0, 0⟩)
abbrev s_number_in : Stmt := top 5
theorem sc_number_in : FnScope ["word", "figures"] ["word"] (defScope s_number_in) := ⟨rfl, rfl, rfl, by decide +kernel, rfl, by decide +kernel, by decide +kernel⟩
abbrev s_good : Stmt := top 8
theorem sc_good : FnScope ["at"] ["at"] (defScope s_good) := ⟨rfl, rfl, rfl, by decide +kernel, rfl, by decide +kernel, by decide +kernel⟩
abbrev s_Rule_before : Stmt := inClass (top 9) 0
theorem sc_Rule_before : FnScope ["self", "x", "y"] ["self", "x", "y"] (defScope s_Rule_before) := ⟨rfl, rfl, rfl, by decide +kernel, rfl, by decide +kernel, by decide +kernel⟩
abbrev s_Rule_widest : Stmt := inClass (top 9) 1
theorem sc_Rule_widest : FnScope ["self"] ["self"] (defScope s_Rule_widest) := ⟨rfl, rfl, rfl, by decide +kernel, rfl, by decide +kernel, by decide +kernel⟩
abbrev s_KeyRule___init__ : Stmt := inClass (top 10) 0
theorem sc_KeyRule___init__ : FnScope ["self", "columns", "at", "way"] ["self", "columns"] (defScope s_KeyRule___init__) := ⟨rfl, rfl, rfl, by decide +kernel, rfl, by decide +kernel, by decide +kernel⟩
abbrev s_KeyRule_before : Stmt := inClass (top 10) 1
theorem sc_KeyRule_before : FnScope ["self", "x", "y", "at", "way"] ["self", "x", "y"] (defScope s_KeyRule_before) := ⟨rfl, rfl, rfl, by decide +kernel, rfl, by decide +kernel, by decide +kernel⟩
abbrev s_KeyRule_widest : Stmt := inClass (top 10) 2
theorem sc_KeyRule_widest : FnScope ["self", "at", "way"] ["self"] (defScope s_KeyRule_widest) := ⟨rfl, rfl, rfl, by decide +kernel, rfl, by decide +kernel, by decide +kernel⟩
abbrev s_NearRule___init__ : Stmt := inClass (top 11) 0
theorem sc_NearRule___init__ : FnScope ["self", "at", "gap"] ["self", "at", "gap"] (defScope s_NearRule___init__) := ⟨rfl, rfl, rfl, by decide +kernel, rfl, by decide +kernel, by decide +kernel⟩
abbrev s_NearRule_before : Stmt := inClass (top 11) 1
theorem sc_NearRule_before : FnScope ["self", "x", "y"] ["self", "x", "y"] (defScope s_NearRule_before) := ⟨rfl, rfl, rfl, by decide +kernel, rfl, by decide +kernel, by decide +kernel⟩
abbrev s_NearRule_widest : Stmt := inClass (top 11) 2
theorem sc_NearRule_widest : FnScope ["self"] ["self"] (defScope s_NearRule_widest) := ⟨rfl, rfl, rfl, by decide +kernel, rfl, by decide +kernel, by decide +kernel⟩
abbrev s_RingRule___init__ : Stmt := inClass (top 12) 0
theorem sc_RingRule___init__ : FnScope ["self", "at", "size"] ["self", "at", "size"] (defScope s_RingRule___init__) := ⟨rfl, rfl, rfl, by decide +kernel, rfl, by decide +kernel, by decide +kernel⟩
abbrev s_RingRule_before : Stmt := inClass (top 12) 1
theorem sc_RingRule_before : FnScope ["self", "x", "y", "far"] ["self", "x", "y"] (defScope s_RingRule_before) := ⟨rfl, rfl, rfl, by decide +kernel, rfl, by decide +kernel, by decide +kernel⟩
abbrev s_RingRule_widest : Stmt := inClass (top 12) 2
theorem sc_RingRule_widest : FnScope ["self"] ["self"] (defScope s_RingRule_widest) := ⟨rfl, rfl, rfl, by decide +kernel, rfl, by decide +kernel, by decide +kernel⟩
abbrev s_VoteRule___init__ : Stmt := inClass (top 13) 0
theorem sc_VoteRule___init__ : FnScope ["self", "rules"] ["self", "rules"] (defScope s_VoteRule___init__) := ⟨rfl, rfl, rfl, by decide +kernel, rfl, by decide +kernel, by decide +kernel⟩
abbrev s_VoteRule_before : Stmt := inClass (top 13) 1
theorem sc_VoteRule_before : FnScope ["self", "x", "y", "votes", "rule"] ["self", "x", "y"] (defScope s_VoteRule_before) := ⟨rfl, rfl, rfl, by decide +kernel, rfl, by decide +kernel, by decide +kernel⟩
abbrev s_VoteRule_widest : Stmt := inClass (top 13) 2
theorem sc_VoteRule_widest : FnScope ["self", "rule"] ["self"] (defScope s_VoteRule_widest) := ⟨rfl, rfl, rfl, by decide +kernel, rfl, by decide +kernel, by decide +kernel⟩
abbrev s_ChainRule___init__ : Stmt := inClass (top 14) 0
theorem sc_ChainRule___init__ : FnScope ["self", "rules"] ["self", "rules"] (defScope s_ChainRule___init__) := ⟨rfl, rfl, rfl, by decide +kernel, rfl, by decide +kernel, by decide +kernel⟩
abbrev s_ChainRule_before : Stmt := inClass (top 14) 1
theorem sc_ChainRule_before : FnScope ["self", "x", "y", "rule", "first"] ["self", "x", "y"] (defScope s_ChainRule_before) := ⟨rfl, rfl, rfl, by decide +kernel, rfl, by decide +kernel, by decide +kernel⟩
abbrev s_ChainRule_widest : Stmt := inClass (top 14) 2
theorem sc_ChainRule_widest : FnScope ["self", "rule"] ["self"] (defScope s_ChainRule_widest) := ⟨rfl, rfl, rfl, by decide +kernel, rfl, by decide +kernel, by decide +kernel⟩
abbrev s_key_in : Stmt := top 16
theorem sc_key_in : FnScope ["word"] ["word"] (defScope s_key_in) := ⟨rfl, rfl, rfl, by decide +kernel, rfl, by decide +kernel, by decide +kernel⟩
abbrev s_plain_rule : Stmt := top 17
theorem sc_plain_rule : FnScope ["text", "word", "blank", "rest", "key", "last", "number"] ["text"] (defScope s_plain_rule) := ⟨rfl, rfl, rfl, by decide +kernel, rfl, by decide +kernel, by decide +kernel⟩
abbrev s_part_rule : Stmt := top 18
theorem sc_part_rule : FnScope ["text", "part"] ["text"] (defScope s_part_rule) := ⟨rfl, rfl, rfl, by decide +kernel, rfl, by decide +kernel, by decide +kernel⟩
abbrev s_read_rule : Stmt := top 19
theorem sc_read_rule : FnScope ["text", "rules", "part"] ["text"] (defScope s_read_rule) := ⟨rfl, rfl, rfl, by decide +kernel, rfl, by decide +kernel, by decide +kernel⟩
abbrev s__law_cell_at : Stmt := top 21
theorem sc__law_cell_at : FnScope ["_law_script", "_law_k"] ["_law_script", "_law_k"] (defScope s__law_cell_at) := ⟨rfl, rfl, rfl, by decide +kernel, rfl, by decide +kernel, by decide +kernel⟩
abbrev s__law_whole : Stmt := top 22
theorem sc__law_whole : FnScope ["_law_found"] ["_law_found"] (defScope s__law_whole) := ⟨rfl, rfl, rfl, by decide +kernel, rfl, by decide +kernel, by decide +kernel⟩
abbrev s__law_plain : Stmt := top 23
theorem sc__law_plain : FnScope ["_law_cell", "_law_number"] ["_law_cell"] (defScope s__law_plain) := ⟨rfl, rfl, rfl, by decide +kernel, rfl, by decide +kernel, by decide +kernel⟩
abbrev s__law_parts : Stmt := top 24
theorem sc__law_parts : FnScope ["_law_script", "_law_many", "_law_parts_here", "_law_k", "_law_cell", "_law_j"] ["_law_script", "_law_many"] (defScope s__law_parts) := ⟨rfl, rfl, rfl, by decide +kernel, rfl, by decide +kernel, by decide +kernel⟩
abbrev s__law_shown : Stmt := top 25
theorem sc__law_shown : FnScope ["_law_plain_here", "_law_word", "_law_key", "_law_number"] ["_law_plain_here"] (defScope s__law_shown) := ⟨rfl, rfl, rfl, by decide +kernel, rfl, by decide +kernel, by decide +kernel⟩
abbrev s__law_text : Stmt := top 26
theorem sc__law_text : FnScope ["_law_parts_here", "_law_texts", "_law_part", "_law_plain_here"] ["_law_parts_here"] (defScope s__law_text) := ⟨rfl, rfl, rfl, by decide +kernel, rfl, by decide +kernel, by decide +kernel⟩
abbrev s__law_goes : Stmt := top 27
theorem sc__law_goes : FnScope ["_law_plain_here", "_law_x", "_law_y", "_law_word", "_law_key", "_law_number", "_law_far"] ["_law_plain_here", "_law_x", "_law_y"] (defScope s__law_goes) := ⟨rfl, rfl, rfl, by decide +kernel, rfl, by decide +kernel, by decide +kernel⟩
abbrev s__law_puts : Stmt := top 28
theorem sc__law_puts : FnScope ["_law_part", "_law_x", "_law_y", "_law_votes", "_law_plain_here"] ["_law_part", "_law_x", "_law_y"] (defScope s__law_puts) := ⟨rfl, rfl, rfl, by decide +kernel, rfl, by decide +kernel, by decide +kernel⟩
abbrev s__law_before : Stmt := top 29
theorem sc__law_before : FnScope ["_law_parts_here", "_law_x", "_law_y", "_law_part"] ["_law_parts_here", "_law_x", "_law_y"] (defScope s__law_before) := ⟨rfl, rfl, rfl, by decide +kernel, rfl, by decide +kernel, by decide +kernel⟩
abbrev s__law_things : Stmt := top 30
theorem sc__law_things : FnScope ["_law_script", "_law_kind", "_law_things_here", "_law_t", "_law_cells", "_law_k", "_law_cell"] ["_law_script", "_law_kind"] (defScope s__law_things) := ⟨rfl, rfl, rfl, by decide +kernel, rfl, by decide +kernel, by decide +kernel⟩
abbrev s__law_does : Stmt := top 31
theorem sc__law_does : FnScope ["_law_rule", "_law_parts_here", "_law_things_here", "_law_x", "_law_y", "_law_found"] ["_law_rule", "_law_parts_here", "_law_things_here"] (defScope s__law_does) := ⟨rfl, rfl, rfl, by decide +kernel, rfl, by decide +kernel, by decide +kernel⟩
abbrev s_law : Stmt := top 32
theorem sc_law : FnScope ["_law_script", "_law_parts_here", "_law_things_here", "_law_widest", "_law_part", "_law_plain_here", "_law_text_here", "_law_rule", "_law_other"] ["_law_script"] (defScope s_law) := ⟨rfl, rfl, rfl, by decide +kernel, rfl, by decide +kernel, by decide +kernel⟩
structure Ad where
  HallError : Addr
  NoRule : Addr
  Rule : Addr
  KeyRule : Addr
  NearRule : Addr
  RingRule : Addr
  VoteRule : Addr
  ChainRule : Addr
structure Txt (K : PySem.W.Frag) (mg : Str → Option Value) (A : Ad) : Prop where
  z_ValueError : mg "ValueError" = Option.none
  z_int : mg "int" = Option.none
  z_range : mg "range" = Option.none
  z_list : mg "list" = Option.none
  z_max : mg "max" = Option.none
  z_isinstance : mg "isinstance" = Option.none
  z_str : mg "str" = Option.none
  z_len : mg "len" = Option.none
  z_bool : mg "bool" = Option.none
  z_tuple : mg "tuple" = Option.none
  g_HallError : mg "HallError" = some (.ref A.HallError)
  g_NoRule : mg "NoRule" = some (.ref A.NoRule)
  g_Rule : mg "Rule" = some (.ref A.Rule)
  cl_Rule : Cls K A.Rule
  g_KeyRule : mg "KeyRule" = some (.ref A.KeyRule)
  cl_KeyRule : Cls K A.KeyRule
  na_KeyRule_columns : NoAttr K A.KeyRule "columns"
  g_NearRule : mg "NearRule" = some (.ref A.NearRule)
  cl_NearRule : Cls K A.NearRule
  na_NearRule_at : NoAttr K A.NearRule "at"
  na_NearRule_gap : NoAttr K A.NearRule "gap"
  g_RingRule : mg "RingRule" = some (.ref A.RingRule)
  cl_RingRule : Cls K A.RingRule
  na_RingRule_at : NoAttr K A.RingRule "at"
  na_RingRule_size : NoAttr K A.RingRule "size"
  g_VoteRule : mg "VoteRule" = some (.ref A.VoteRule)
  cl_VoteRule : Cls K A.VoteRule
  na_VoteRule_rules : NoAttr K A.VoteRule "rules"
  g_ChainRule : mg "ChainRule" = some (.ref A.ChainRule)
  cl_ChainRule : Cls K A.ChainRule
  na_ChainRule_rules : NoAttr K A.ChainRule "rules"
  k_MOST_FIGURES : ∃ u, mg "MOST_FIGURES" = some u ∧ RelV (.int 60) u
  k_LAST : ∃ u, mg "LAST" = some u ∧ RelV (.int 7) u
  mkp_Rule : SH.MkP K A.Rule
def sp__law_cell_at (K : PySem.W.Frag) (A : Ad) : Sp := fun vs H Q _ => ∃ (a : Addr) (ns : List Int) (k : Nat), vs = [.ref a, .int k] ∧ SqL K H a (ns.map V.int) ∧ ∀ c : Int, Q (.int c) H
theorem ok__law_cell_at {P : Program} {w : World} {K : PySem.W.Frag} {mg : Str → Option Value} {base : Heap} {A : Ad} {f : Addr} {fd : FuncData} (F : Fun K "_law_cell_at" "_law_cell_at" s__law_cell_at f fd) (T : Txt K mg A)  : FnOk P w K mg base CX0 1 f fd ["_law_script", "_law_k"] (sp__law_cell_at K A) := by
  refine F.ok sc__law_cell_at (fun vs H Q E h => by obtain ⟨_, _, _, rfl, _⟩ := h; rfl) (fun cdv A' outer s H vs Q E hr h => ?_)
  obtain ⟨a, ns, i, rfl, hS, k⟩ := h
  refine ⟨_, (pss_cons (ps_if (pt_cmpR (SH.oLt hr.units0) (pv 1) (pe_callB SH.cLen (by rfl) T.z_len (by decide +kernel) (pa_cons (pv 0) pa_nil)) (nomark _)) (pss_one (ps_ret (pe_ix SH.ixA (pv 0) (pv 1) (fun _ _ => rfl)))) pss_nil)
        (pss_one (ps_ret pe_int))), ?_⟩
  walk_at "begin"
  walk_at "rd"
  refine r_w (fun hc => ?_) fun hc => ?_
  · walk_at "rd"
    refine v_ixE (n := i) (by walk_at "sq") rfl (by omega) ?_
    walk_at "rd"
    exact k _
  · walk_at "rd"
    exact k _
def sp_good (K : PySem.W.Frag) (A : Ad) : Sp := fun vs H Q _ => ∃ (i : Int), vs = [.int i] ∧ (0 ≤ i ∧ i < 8) ∧ Q (.int i) H
theorem ok_good {P : Program} {w : World} {K : PySem.W.Frag} {mg : Str → Option Value} {base : Heap} {A : Ad} {f : Addr} {fd : FuncData} (F : Fun K "good" "good" s_good f fd) (T : Txt K mg A)  : FnOk P w K mg base CX0 1 f fd ["at"] (sp_good K A) := by
  refine F.ok sc_good (fun vs H Q E h => by obtain ⟨_, rfl, _⟩ := h; rfl) (fun cdv A' outer s H vs Q E hr h => ?_)
  obtain ⟨i, rfl, ⟨h0, h1⟩, k⟩ := h
  refine ⟨_, (pss_cons (ps_if (PW.pt (pw_or (pt_cmpR (SH.oLt hr.units0) (pv 0) pe_int (nomark _)) (pw_or1 (pt_cmpR SH.oGt (pv 0) (SH.pe_k T.k_LAST) (nomark _))))) (pss_one ps_never) pss_nil)
        (pss_one (ps_ret (pv 0)))), ?_⟩
  walk_at "begin"
  walk_at "rd"
  refine r_wF (by omega) ?_
  walk_at "rd"
  refine r_wF (by omega) ?_
  walk_at "rd"
  exact k
/-! ### rules by keys -/
def wayS (b : Bool) : Str := if b then "up" else "down"
theorem wayS_up {b : Bool} : decide (wayS b = "up") = b := by cases b <;> decide +kernel
theorem wayS_down {b : Bool} : decide (wayS b = "down") = !b := by cases b <;> decide +kernel
/-- the columns in a heap -/
def Cols (K : PySem.W.Frag) (H : Hp) (cvs : List V) (cols : List (Nat × Bool)) : Prop := cvs.length = cols.length ∧ ∀ (j : Nat) (v : V), cvs[j]? = some v → ∃ (t : Addr) (c : Nat × Bool), v = .ref t ∧ cols[j]? = some c ∧ H t = some (.tup [.int c.1, .str (wayS c.2)])
theorem Cols.stp {K : PySem.W.Frag} {M : List Addr} {H H' : Hp} {cvs : List V} {cols : List (Nat × Bool)} (h : Cols K H cvs cols) (S : Stp M H H') : Cols K H' cvs cols :=
  ⟨h.1, fun j v e => by obtain ⟨t, c, h1, h2, h3⟩ := h.2 j v e; exact ⟨t, c, h1, h2, S.tup h3⟩⟩
def keyB : List (Nat × Bool) → List Int → List Int → Bool
  | [], _, _ => false
  | c :: cs, xs, ys => if getE xs c.1 ≠ getE ys c.1 then decide (getE xs c.1 < getE ys c.1) == c.2 else keyB cs xs ys
def sp_KeyRule___init__ (K : PySem.W.Frag) (A : Ad) : Sp := fun vs H Q _ => ∃ (s b : Addr) (cvs : List V) (cols : List (Nat × Bool)), vs = [.ref s, .ref b] ∧ (∃ dx, H s = some (.ins A.KeyRule dx [])) ∧ (SqL K H b cvs ∧ Cols K H cvs cols ∧ cols.length ≤ 1000 ∧ ∀ c ∈ cols, c.1 < 8) ∧
  ∀ dx l H', H l = none → s ≠ l → H' s = some (.ins A.KeyRule dx [("columns", .ref l)]) → H' l = some (.lst cvs) → Stp [s] H H' → Q .non H'
theorem ok_KeyRule___init__ {P : Program} {w : World} {K : PySem.W.Frag} {mg : Str → Option Value} {base : Heap} {A : Ad} {f : Addr} {fd : FuncData} (F : Fun K "__init__" "KeyRule.__init__" s_KeyRule___init__ f fd) (T : Txt K mg A) (C_good : SH.Cal P w K mg base CX0 1 "good" [] (sp_good K A)) : FnOk P w K mg base CX0 2 f fd ["self", "columns"] (sp_KeyRule___init__ K A) := by
  refine F.ok sc_KeyRule___init__ (fun vs H Q E h => by obtain ⟨_, _, _, _, rfl, _⟩ := h; rfl) (fun cdv A' outer s H vs Q E hr h => ?_)
  obtain ⟨s', b, cvs, cols, rfl, ⟨dx, hs⟩, ⟨hb, hC, hl, h8⟩, k⟩ := h
  refine ⟨_, (pss_cons (ps_for PassesOwn.never rfl (pi_list (pv 1)) (pg_tup (by rfl) (pgs_cons (pg_name (i := 2) sc_KeyRule___init__.nd rfl (Or.inl rfl)) (pgs_cons (pg_name (i := 3) sc_KeyRule___init__.nd rfl (Or.inl rfl)) pgs_nil))) (pss_cons (ps_expr (SH.pe_callF C_good hr (by rfl) pass0 (pa_cons (pv 2) pa_nil)))
        (pss_one (ps_if (PW.pt (pw_and (pt_cmpR (SH.oNe hr.units) (pv 3) pe_str (nomark _)) (pw_and1 (pt_cmpR (SH.oNe hr.units) (pv 3) pe_str (nomark _))))) (pss_one ps_never) pss_nil))))
        (pss_one (SH.ps_fldF T.cl_KeyRule T.na_KeyRule_columns (pv 0) (pe_callTy SH.cListOf (by rfl) T.z_list (by decide +kernel) (pa_cons (pv 1) pa_nil)) rfl))), ?_⟩
  walk_at "begin"
  walk_at "rd"
  refine for_it (walk_list (xs := cvs)) (fun j σ H' => H' = H ∧ ∃ v2 v3, σ = [some (.ref s'), some (.ref b), v2, v3]) ⟨rfl, _, _, rfl⟩ (fun _ _ _ _ z => by rw [z.1]; exact hb) ?_ ?_
  · rintro j x σ H1 H2 hj ⟨rfl, v2, v3, rfl⟩ ⟨rfl, hx⟩
    obtain ⟨t, c, rfl, hc, ht⟩ := hC.2 j x hx
    have := h8 c (List.mem_of_getElem? hc)
    walk_at "rd"
    refine ⟨_, rfl, ⟨by omega, by omega⟩, ?_⟩
    walk_at "rd"
    refine v_neS ?_
    rw [wayS_up]
    walk_at "rd"
    refine r_nb (fun hc => ?_) fun hc => ?_
    · walk_at "rd"
      refine v_neS ?_
      rw [wayS_down, hc]
      walk_at "rd"
      exact ⟨rfl, _, _, rfl⟩
    · walk_at "rd"
      exact ⟨rfl, _, _, rfl⟩
  · rintro σ H1 ⟨rfl, v2, v3, rfl⟩
    walk_at "rd"
    intro l hl2
    walk_at "rd"
    exact k _ l _ hl2 (ne_of_none hs hl2) upd_same (upd_far (ne_of_none hs hl2).symm upd_same) (((Stp.refl [s'] H1).new hl2).putM (List.mem_singleton.mpr rfl) (upd_old hs hl2) (fun z => z))

def sp_KeyRule_before (K : PySem.W.Frag) (A : Ad) : Sp := fun vs H Q _ => ∃ (u x y d l : Addr) (cvs : List V) (cols : List (Nat × Bool)) (xs ys : List Int), vs = [.ref u, .ref x, .ref y] ∧ H u = some (.ins A.KeyRule d [("columns", .ref l)]) ∧ (SqL K H l cvs ∧ Cols K H cvs cols ∧ SqT K H x (xs.map V.int) ∧ SqT K H y (ys.map V.int) ∧ ∀ c ∈ cols, c.1 < xs.length ∧ c.1 < ys.length) ∧
  Q (.bl (keyB cols xs ys)) H
theorem ok_KeyRule_before {P : Program} {w : World} {K : PySem.W.Frag} {mg : Str → Option Value} {base : Heap} {A : Ad} {f : Addr} {fd : FuncData} (F : Fun K "before" "KeyRule.before" s_KeyRule_before f fd) (T : Txt K mg A)  : FnOk P w K mg base CX0 1 f fd ["self", "x", "y"] (sp_KeyRule_before K A) := by
  refine F.ok sc_KeyRule_before (fun vs H Q E h => by obtain ⟨_, _, _, _, _, _, _, _, _, rfl, _⟩ := h; rfl) (fun cdv A' outer s H vs Q E hr h => ?_)
  obtain ⟨u, x, y, d, l, cvs, cols, xs, ys, rfl, hu, ⟨hl, hC, hx, hy, hlt⟩, k⟩ := h
  refine ⟨_, (pss_cons (ps_for PassesOwn.never rfl (pi_list (SH.pe_fldF T.cl_KeyRule T.na_KeyRule_columns (pv 0))) (pg_tup (by rfl) (pgs_cons (pg_name (i := 3) sc_KeyRule_before.nd rfl (Or.inl rfl)) (pgs_cons (pg_name (i := 4) sc_KeyRule_before.nd rfl (Or.inl rfl)) pgs_nil))) (pss_one (ps_if (pt_cmpR (SH.oNe hr.units) (pe_ix SH.ixA (pv 1) (pv 3) (fun _ _ => rfl)) (pe_ix SH.ixA (pv 2) (pv 3) (fun _ _ => rfl)) (nomark _)) (pss_one (ps_ret (pe_cmpR (SH.oEq hr.units) (pe_cmpR (SH.oLt hr.units0) (pe_ix SH.ixA (pv 1) (pv 3) (fun _ _ => rfl)) (pe_ix SH.ixA (pv 2) (pv 3) (fun _ _ => rfl)) (nomark _)) (pe_cmpR (SH.oEq hr.units) (pv 4) pe_str (nomark _)) (nomark _)))) pss_nil)))
        (pss_one (ps_ret pe_bl))), ?_⟩
  walk_at "begin"
  walk_at "rd"
  refine for_it (walk_list (xs := cvs)) (fun j σ H' => H' = H ∧ keyB cols xs ys = keyB (cols.drop j) xs ys ∧ ∃ v3 v4, σ = [some (.ref u), some (.ref x), some (.ref y), v3, v4]) ⟨rfl, rfl, _, _, rfl⟩ (fun _ _ _ _ z => by rw [z.1]; exact hl) ?_ ?_
  · rintro j v σ H1 H2 hj ⟨rfl, hk, v3, v4, rfl⟩ ⟨rfl, hv⟩
    obtain ⟨t, c, rfl, hc, ht⟩ := hC.2 j v hv
    obtain ⟨l1, l2⟩ := hlt c (List.mem_of_getElem? hc)
    obtain ⟨hj', hc'⟩ := List.getElem?_eq_some_iff.mp hc
    rw [List.drop_eq_getElem_cons hj', hc'] at hk
    simp only [keyB] at hk
    walk_at "rd"
    refine v_ixTE (n := c.1) (by walk_at "sq") rfl l1 ?_
    walk_at "rd"
    refine v_ixTE (n := c.1) (by walk_at "sq") rfl l2 ?_
    walk_at "rd"
    refine r_nw (fun hne => ?_) fun he => ?_
    · rw [if_pos hne] at hk
      walk_at "rd"
      refine v_ixTE (n := c.1) (by walk_at "sq") rfl l1 ?_
      walk_at "rd"
      refine v_ixTE (n := c.1) (by walk_at "sq") rfl l2 ?_
      walk_at "rd"
      refine v_eqS ?_
      rw [wayS_up]
      walk_at "rd"
      rw [hk] at k
      rw [show decide (decide (getE xs c.1 < getE ys c.1) = c.2) = (decide (getE xs c.1 < getE ys c.1) == c.2) from by generalize decide (getE xs c.1 < getE ys c.1) = u; cases u <;> cases c.2 <;> rfl]
      exact k
    · rw [if_neg (by simpa using he)] at hk
      walk_at "rd"
      exact ⟨rfl, hk, _, _, rfl⟩
  · rintro σ H1 ⟨rfl, hk, v3, v4, rfl⟩
    walk_at "rd"
    rw [List.drop_of_length_le (by have := hC.1; omega)] at hk
    rw [hk] at k
    exact k
def sp_NearRule___init__ (K : PySem.W.Frag) (A : Ad) : Sp := fun vs H Q _ => ∃ (s : Addr) (i g : Int), vs = [.ref s, .int i, .int g] ∧ (∃ dx, H s = some (.ins A.NearRule dx [])) ∧ (0 ≤ i ∧ i < 8 ∧ 0 ≤ g) ∧
  ∀ dx, Q .non (upd H s (.ins A.NearRule dx [("at", .int i), ("gap", .int g)]))
theorem ok_NearRule___init__ {P : Program} {w : World} {K : PySem.W.Frag} {mg : Str → Option Value} {base : Heap} {A : Ad} {f : Addr} {fd : FuncData} (F : Fun K "__init__" "NearRule.__init__" s_NearRule___init__ f fd) (T : Txt K mg A) (C_good : SH.Cal P w K mg base CX0 1 "good" [] (sp_good K A)) : FnOk P w K mg base CX0 2 f fd ["self", "at", "gap"] (sp_NearRule___init__ K A) := by
  refine F.ok sc_NearRule___init__ (fun vs H Q E h => by obtain ⟨_, _, _, rfl, _⟩ := h; rfl) (fun cdv A' outer s H vs Q E hr h => ?_)
  obtain ⟨s', i, g, rfl, ⟨dx, hs⟩, ⟨h0, h1, h2⟩, k⟩ := h
  refine ⟨_, (pss_cons (ps_if (pt_cmpR (SH.oLt hr.units0) (pv 2) pe_int (nomark _)) (pss_one ps_never) pss_nil)
        (pss_cons (SH.ps_fldF T.cl_NearRule T.na_NearRule_at (pv 0) (SH.pe_callF C_good hr (by rfl) pass0 (pa_cons (pv 1) pa_nil)) rfl)
        (pss_one (SH.ps_fldF T.cl_NearRule T.na_NearRule_gap (pv 0) (pv 2) rfl)))), ?_⟩
  walk_at "begin"
  walk_at "rd"
  refine r_wF (by omega) ?_
  walk_at "rd"
  refine ⟨i, rfl, ⟨h0, h1⟩, ?_⟩
  walk_at "rd"
  rw [upd_upd]
  exact k dx

def sp_NearRule_before (K : PySem.W.Frag) (A : Ad) : Sp := fun vs H Q _ => ∃ (s x y dx : Addr) (g : Int) (i : Nat) (xs ys : List Int), vs = [.ref s, .ref x, .ref y] ∧ H s = some (.ins A.NearRule dx [("at", .int i), ("gap", .int g)]) ∧ SqT K H x (xs.map V.int) ∧ SqT K H y (ys.map V.int) ∧ (i < xs.length ∧ i < ys.length) ∧
  Q (.bl (decide (g < getE ys i - getE xs i))) H
theorem ok_NearRule_before {P : Program} {w : World} {K : PySem.W.Frag} {mg : Str → Option Value} {base : Heap} {A : Ad} {f : Addr} {fd : FuncData} (F : Fun K "before" "NearRule.before" s_NearRule_before f fd) (T : Txt K mg A)  : FnOk P w K mg base CX0 1 f fd ["self", "x", "y"] (sp_NearRule_before K A) := by
  refine F.ok sc_NearRule_before (fun vs H Q E h => by obtain ⟨_, _, _, _, _, _, _, _, rfl, _⟩ := h; rfl) (fun cdv A' outer s H vs Q E hr h => ?_)
  obtain ⟨s', x, y, dx, g, i, xs, ys, rfl, hs, hx, hy, ⟨h0, h1⟩, k⟩ := h
  refine ⟨_, (pss_one (ps_ret (pe_cmpR SH.oGt (pe_op SH.oSub (pe_ix SH.ixA (pv 2) (SH.pe_fldF T.cl_NearRule T.na_NearRule_at (pv 0)) (fun _ _ => rfl)) (pe_ix SH.ixA (pv 1) (SH.pe_fldF T.cl_NearRule T.na_NearRule_at (pv 0)) (fun _ _ => rfl))) (SH.pe_fldF T.cl_NearRule T.na_NearRule_gap (pv 0)) (nomark _)))), ?_⟩
  walk_at "begin"
  walk_at "rd"
  refine v_ixTE (n := i) (by walk_at "sq") rfl h1 ?_
  walk_at "rd"
  refine v_ixTE (n := i) (by walk_at "sq") rfl h0 ?_
  walk_at "rd"
  exact k
def sp_RingRule___init__ (K : PySem.W.Frag) (A : Ad) : Sp := fun vs H Q _ => ∃ (s : Addr) (i g : Int), vs = [.ref s, .int i, .int g] ∧ (∃ dx, H s = some (.ins A.RingRule dx [])) ∧ (0 ≤ i ∧ i < 8 ∧ 1 ≤ g) ∧
  ∀ dx, Q .non (upd H s (.ins A.RingRule dx [("at", .int i), ("size", .int g)]))
theorem ok_RingRule___init__ {P : Program} {w : World} {K : PySem.W.Frag} {mg : Str → Option Value} {base : Heap} {A : Ad} {f : Addr} {fd : FuncData} (F : Fun K "__init__" "RingRule.__init__" s_RingRule___init__ f fd) (T : Txt K mg A) (C_good : SH.Cal P w K mg base CX0 1 "good" [] (sp_good K A)) : FnOk P w K mg base CX0 2 f fd ["self", "at", "size"] (sp_RingRule___init__ K A) := by
  refine F.ok sc_RingRule___init__ (fun vs H Q E h => by obtain ⟨_, _, _, rfl, _⟩ := h; rfl) (fun cdv A' outer s H vs Q E hr h => ?_)
  obtain ⟨s', i, g, rfl, ⟨dx, hs⟩, ⟨h0, h1, h2⟩, k⟩ := h
  refine ⟨_, (pss_cons (ps_if (pt_cmpR (SH.oLt hr.units0) (pv 2) pe_int (nomark _)) (pss_one ps_never) pss_nil)
        (pss_cons (SH.ps_fldF T.cl_RingRule T.na_RingRule_at (pv 0) (SH.pe_callF C_good hr (by rfl) pass0 (pa_cons (pv 1) pa_nil)) rfl)
        (pss_one (SH.ps_fldF T.cl_RingRule T.na_RingRule_size (pv 0) (pv 2) rfl)))), ?_⟩
  walk_at "begin"
  walk_at "rd"
  refine r_wF (by omega) ?_
  walk_at "rd"
  refine ⟨i, rfl, ⟨h0, h1⟩, ?_⟩
  walk_at "rd"
  rw [upd_upd]
  exact k dx

def ringB (x y g : Int) : Bool := decide (0 < (y - x) % g ∧ 2 * ((y - x) % g) < g)
def sp_RingRule_before (K : PySem.W.Frag) (A : Ad) : Sp := fun vs H Q _ => ∃ (s x y dx : Addr) (g : Int) (i : Nat) (xs ys : List Int), vs = [.ref s, .ref x, .ref y] ∧ H s = some (.ins A.RingRule dx [("at", .int i), ("size", .int g)]) ∧ SqT K H x (xs.map V.int) ∧ SqT K H y (ys.map V.int) ∧ (i < xs.length ∧ i < ys.length ∧ 1 ≤ g) ∧
  Q (.bl (ringB (getE xs i) (getE ys i) g)) H
theorem ok_RingRule_before {P : Program} {w : World} {K : PySem.W.Frag} {mg : Str → Option Value} {base : Heap} {A : Ad} {f : Addr} {fd : FuncData} (F : Fun K "before" "RingRule.before" s_RingRule_before f fd) (T : Txt K mg A)  : FnOk P w K mg base CX0 1 f fd ["self", "x", "y"] (sp_RingRule_before K A) := by
  refine F.ok sc_RingRule_before (fun vs H Q E h => by obtain ⟨_, _, _, _, _, _, _, _, rfl, _⟩ := h; rfl) (fun cdv A' outer s H vs Q E hr h => ?_)
  obtain ⟨s', x, y, dx, g, i, xs, ys, rfl, hs, hx, hy, ⟨h0, h1, h2⟩, k⟩ := h
  refine ⟨_, (pss_cons (ps_set (i := 3) sc_RingRule_before.nd rfl (Or.inl rfl) (pe_op SH.oMod (pe_op SH.oSub (pe_ix SH.ixA (pv 2) (SH.pe_fldF T.cl_RingRule T.na_RingRule_at (pv 0)) (fun _ _ => rfl)) (pe_ix SH.ixA (pv 1) (SH.pe_fldF T.cl_RingRule T.na_RingRule_at (pv 0)) (fun _ _ => rfl))) (SH.pe_fldF T.cl_RingRule T.na_RingRule_size (pv 0))))
        (pss_one (ps_ret (pe_and (pe_cmpR SH.oGt (pv 3) pe_int (nomark _)) (pe_one (pe_cmpR (SH.oLt hr.units0) (pe_op SH.oMul pe_int (pv 3)) (SH.pe_fldF T.cl_RingRule T.na_RingRule_size (pv 0)) (nomark _))))))), ?_⟩
  walk_at "begin"
  walk_at "rd"
  refine v_ixTE (n := i) (by walk_at "sq") rfl h1 ?_
  walk_at "rd"
  refine v_ixTE (n := i) (by walk_at "sq") rfl h0 ?_
  walk_at "rd"
  unfold ringB at k
  refine r_w (fun hc => ?_) fun hc => ?_
  · walk_at "rd"
    rw [show decide (2 * ((getE ys i - getE xs i) % g) < g) = decide (0 < (getE ys i - getE xs i) % g ∧ 2 * ((getE ys i - getE xs i) % g) < g) by simp [hc]]
    exact k
  · rw [decide_eq_false (by omega)] at k
    exact k
/-! ### rules of numbers: a column, near, ring; votes and chains of these -/
inductive R0 where
  | key (cols : List (Nat × Bool))
  | near (i : Nat) (g : Int)
  | ring (i : Nat) (m : Int)
def R0.b : R0 → List Int → List Int → Bool
  | .key cols, xs, ys => keyB cols xs ys
  | .near i g, xs, ys => decide (g < getE ys i - getE xs i)
  | .ring i m, xs, ys => ringB (getE xs i) (getE ys i) m
def R0.fit : R0 → List Int → Prop
  | .key cols, xs => ∀ c ∈ cols, c.1 < xs.length
  | .near i _, xs => i < xs.length
  | .ring i _, xs => i < xs.length
inductive R0.At (K : PySem.W.Frag) (A : Ad) (H : Hp) (u : Addr) : R0 → Prop
  | key {d l : Addr} {cvs : List V} {cols : List (Nat × Bool)} (h : H u = some (.ins A.KeyRule d [("columns", .ref l)])) (hl : H l = some (.lst cvs)) (hc : Cols K H cvs cols) : R0.At K A H u (.key cols)
  | near {d : Addr} {i : Nat} {g : Int} (h : H u = some (.ins A.NearRule d [("at", .int i), ("gap", .int g)])) : R0.At K A H u (.near i g)
  | ring {d : Addr} {i : Nat} {m : Int} (h : H u = some (.ins A.RingRule d [("at", .int i), ("size", .int m)])) (hm : 1 ≤ m) : R0.At K A H u (.ring i m)
theorem R0.At.stp {K : PySem.W.Frag} {A : Ad} {M : List Addr} {H H' : Hp} {u : Addr} {r : R0} (h : R0.At K A H u r) (S : Stp M H H') (hM : ∀ m ∈ M, H m = none) : R0.At K A H' u r := by
  have keep : ∀ {a : Addr} {o : HO}, H a = some o → H' a = some o := fun {a o} e => S.keep e fun z => by rw [hM _ z] at e; cases e
  cases h with
  | key h hl hc => exact .key (keep h) (keep hl) (hc.stp S)
  | near h => exact .near (keep h)
  | ring h hm => exact .ring (keep h) hm
theorem R0.go {K : PySem.W.Frag} {A : Ad} {σ : L2.St} {H : Hp} {Q : VK} {E : XK} {i j k : Nat} {u x y : Addr} {r : R0} {xs ys : List Int} (hi : σ[i]? = some (some (.ref u))) (hj : σ[j]? = some (some (.ref x))) (hk : σ[k]? = some (some (.ref y)))
    (hU : R0.At K A H u r) (hx : SqT K H x (xs.map V.int)) (hy : SqT K H y (ys.map V.int)) (fx : r.fit xs) (fy : r.fit ys) (q : Q (.bl (r.b xs ys)) H) :
    tOrE (tMeth A.KeyRule "before" (sp_KeyRule_before K A) [] E (tVar i) (tCons (tVar j) (tCons (tVar k) tNil))) (tOrE (tMeth A.NearRule "before" (sp_NearRule_before K A) [] E (tVar i) (tCons (tVar j) (tCons (tVar k) tNil))) (tMeth A.RingRule "before" (sp_RingRule_before K A) [] E (tVar i) (tCons (tVar j) (tCons (tVar k) tNil)))) σ H Q := by
  cases hU with
  | @key d l cvs cols h hl hc =>
    refine r_orL ?_
    walk_at "rd"
    refine SH.r_var hi ?_
    walk_at "rd"
    refine SH.r_var hj ?_
    walk_at "rd"
    refine SH.r_var hk ?_
    walk_at "rd"
    exact ⟨u, x, y, d, l, cvs, cols, xs, ys, rfl, h, ⟨SqL.of hl, hc, hx, hy, fun c hc => ⟨fx c hc, fy c hc⟩⟩, q⟩
  | @near d i' g h =>
    refine r_orR (r_orL ?_)
    walk_at "rd"
    refine SH.r_var hi ?_
    walk_at "rd"
    refine SH.r_var hj ?_
    walk_at "rd"
    refine SH.r_var hk ?_
    walk_at "rd"
    exact ⟨u, x, y, d, g, i', xs, ys, rfl, h, hx, hy, ⟨fx, fy⟩, q⟩
  | @ring d i' m h hm =>
    refine r_orR (r_orR ?_)
    walk_at "rd"
    refine SH.r_var hi ?_
    walk_at "rd"
    refine SH.r_var hj ?_
    walk_at "rd"
    refine SH.r_var hk ?_
    walk_at "rd"
    exact ⟨u, x, y, d, m, i', xs, ys, rfl, h, hx, hy, ⟨fx, fy, hm⟩, q⟩
/-- a list of rules -/
structure RsAt (K : PySem.W.Frag) (A : Ad) (H : Hp) (uvs : List V) (rs : List R0) : Prop where
  len : uvs.length = rs.length
  at_ : ∀ (j : Nat) (v : V), uvs[j]? = some v → ∃ (u : Addr) (r : R0), v = .ref u ∧ rs[j]? = some r ∧ R0.At K A H u r
theorem RsAt.stp {K : PySem.W.Frag} {A : Ad} {M : List Addr} {H H' : Hp} {uvs : List V} {rs : List R0} (h : RsAt K A H uvs rs) (S : Stp M H H') (hM : ∀ m ∈ M, H m = none) : RsAt K A H' uvs rs :=
  ⟨h.len, fun j v e => by obtain ⟨u, r, h1, h2, h3⟩ := h.at_ j v e; exact ⟨u, r, h1, h2, h3.stp S hM⟩⟩
theorem RsAt.nil {K : PySem.W.Frag} {A : Ad} {H : Hp} : RsAt K A H [] [] := ⟨rfl, fun j v e => by cases e⟩
theorem RsAt.snoc {K : PySem.W.Frag} {A : Ad} {H : Hp} {uvs : List V} {rs : List R0} {u : Addr} {r : R0} (h : RsAt K A H uvs rs) (k : R0.At K A H u r) : RsAt K A H (uvs ++ [.ref u]) (rs ++ [r]) := by
  have hl := h.len
  refine ⟨by simp [hl], fun j v e => ?_⟩
  by_cases hj : j < uvs.length
  · rw [List.getElem?_append_left hj] at e
    obtain ⟨u', r', h1, h2, h3⟩ := h.at_ j v e
    exact ⟨u', r', h1, by rw [List.getElem?_append_left (by omega)]; exact h2, h3⟩
  · rw [List.getElem?_append_right (by omega)] at e
    have : j - uvs.length = 0 := by
      cases h : j - uvs.length with
      | zero => rfl
      | succ m => rw [h] at e; cases e
    rw [this] at e
    cases e
    exact ⟨u, r, rfl, by rw [List.getElem?_append_right (by omega), show j - rs.length = 0 by omega]; rfl, k⟩
def bI (b : Bool) : Int := (b.toNat : Nat)
def voteN (rs : List R0) (xs ys : List Int) : Int := (rs.map fun r => bI (r.b xs ys) - bI (r.b ys xs)).sum
theorem voteN_snoc {rs : List R0} {r : R0} {xs ys : List Int} : voteN (rs ++ [r]) xs ys = voteN rs xs ys + bI (r.b xs ys) - bI (r.b ys xs) := by
  unfold voteN
  rw [List.map_append, List.sum_append]
  simp
  omega
def voteB (rs : List R0) (xs ys : List Int) : Bool := decide (0 < voteN rs xs ys)
theorem take_snoc {α : Type} {xs : List α} {j : Nat} {x : α} (h : xs[j]? = some x) : xs.take (j + 1) = xs.take j ++ [x] := by
  rw [List.take_succ, h]; rfl
def sp_VoteRule___init__ (K : PySem.W.Frag) (A : Ad) : Sp := fun vs H Q _ => ∃ (s b : Addr) (uvs : List V), vs = [.ref s, .ref b] ∧ (∃ dx, H s = some (.ins A.VoteRule dx [])) ∧ SqL K H b uvs ∧
  ∀ dx l H', H l = none → s ≠ l → H' s = some (.ins A.VoteRule dx [("rules", .ref l)]) → H' l = some (.lst uvs) → Stp [s] H H' → Q .non H'
theorem ok_VoteRule___init__ {P : Program} {w : World} {K : PySem.W.Frag} {mg : Str → Option Value} {base : Heap} {A : Ad} {f : Addr} {fd : FuncData} (F : Fun K "__init__" "VoteRule.__init__" s_VoteRule___init__ f fd) (T : Txt K mg A)  : FnOk P w K mg base CX0 1 f fd ["self", "rules"] (sp_VoteRule___init__ K A) := by
  refine F.ok sc_VoteRule___init__ (fun vs H Q E h => by obtain ⟨_, _, _, rfl, _⟩ := h; rfl) (fun cdv A' outer s H vs Q E hr h => ?_)
  obtain ⟨s', b, uvs, rfl, ⟨dx, hs⟩, hb, k⟩ := h
  refine ⟨_, (pss_one (SH.ps_fldF T.cl_VoteRule T.na_VoteRule_rules (pv 0) (pe_callTy SH.cListOf (by rfl) T.z_list (by decide +kernel) (pa_cons (pv 1) pa_nil)) rfl)), ?_⟩
  walk_at "begin"
  walk_at "rd"
  intro l hl2
  walk_at "rd"
  exact k _ l _ hl2 (ne_of_none hs hl2) upd_same (upd_far (ne_of_none hs hl2).symm upd_same) (((Stp.refl [s'] H).new hl2).putM (List.mem_singleton.mpr rfl) (upd_old hs hl2) (fun z => z))
def sp_VoteRule_before (K : PySem.W.Frag) (A : Ad) : Sp := fun vs H Q _ => ∃ (u x y d l : Addr) (uvs : List V) (rs : List R0) (xs ys : List Int), vs = [.ref u, .ref x, .ref y] ∧ H u = some (.ins A.VoteRule d [("rules", .ref l)]) ∧ (SqL K H l uvs ∧ RsAt K A H uvs rs ∧ SqT K H x (xs.map V.int) ∧ SqT K H y (ys.map V.int) ∧ (∀ r ∈ rs, r.fit xs ∧ r.fit ys)) ∧
  Q (.bl (voteB rs xs ys)) H
theorem ok_VoteRule_before {P : Program} {w : World} {K : PySem.W.Frag} {mg : Str → Option Value} {base : Heap} {A : Ad} {f : Addr} {fd : FuncData} (F : Fun K "before" "VoteRule.before" s_VoteRule_before f fd) (T : Txt K mg A) (M_KeyRule_before : SH.CalM P w K mg base CX0 1 A.KeyRule "before" [] (sp_KeyRule_before K A)) (M_NearRule_before : SH.CalM P w K mg base CX0 1 A.NearRule "before" [] (sp_NearRule_before K A)) (M_RingRule_before : SH.CalM P w K mg base CX0 1 A.RingRule "before" [] (sp_RingRule_before K A)) : FnOk P w K mg base CX0 2 f fd ["self", "x", "y"] (sp_VoteRule_before K A) := by
  refine F.ok sc_VoteRule_before (fun vs H Q E h => by obtain ⟨_, _, _, _, _, _, _, _, _, rfl, _⟩ := h; rfl) (fun cdv A' outer s H vs Q E hr h => ?_)
  obtain ⟨u, x, y, d, l, uvs, rs, xs, ys, rfl, hu, ⟨hl, hR, hx, hy, hf⟩, k⟩ := h
  refine ⟨_, (pss_cons (ps_set (i := 3) sc_VoteRule_before.nd rfl (Or.inl rfl) pe_int)
        (pss_cons (ps_for PassesOwn.never rfl (pi_list (SH.pe_fldF T.cl_VoteRule T.na_VoteRule_rules (pv 0))) (pg_name (i := 4) sc_VoteRule_before.nd rfl (Or.inl rfl)) (pss_cons (ps_aug (i := 3) sc_VoteRule_before.nd rfl (Or.inl rfl) (pe_callTy SH.cInt1 (by rfl) T.z_int (by decide +kernel) (pa_cons (SH.peOrE (SH.pe_methF (pv 4) M_KeyRule_before hr pass0 (pa_cons (pv 1) (pa_cons (pv 2) pa_nil))) (SH.peOrE (SH.pe_methF (pv 4) M_NearRule_before hr pass0 (pa_cons (pv 1) (pa_cons (pv 2) pa_nil))) (SH.pe_methF (pv 4) M_RingRule_before hr pass0 (pa_cons (pv 1) (pa_cons (pv 2) pa_nil))))) pa_nil)) SH.ip_add')
        (pss_one (ps_aug (i := 3) sc_VoteRule_before.nd rfl (Or.inl rfl) (pe_callTy SH.cInt1 (by rfl) T.z_int (by decide +kernel) (pa_cons (SH.peOrE (SH.pe_methF (pv 4) M_KeyRule_before hr pass0 (pa_cons (pv 2) (pa_cons (pv 1) pa_nil))) (SH.peOrE (SH.pe_methF (pv 4) M_NearRule_before hr pass0 (pa_cons (pv 2) (pa_cons (pv 1) pa_nil))) (SH.pe_methF (pv 4) M_RingRule_before hr pass0 (pa_cons (pv 2) (pa_cons (pv 1) pa_nil))))) pa_nil)) SH.ip_sub'))))
        (pss_one (ps_ret (pe_cmpR SH.oGt (pv 3) pe_int (nomark _)))))), ?_⟩
  walk_at "begin"
  walk_at "rd"
  refine for_it (walk_list (xs := uvs)) (fun j σ H' => H' = H ∧ ∃ v4, σ = [some (.ref u), some (.ref x), some (.ref y), some (.int (voteN (rs.take j) xs ys)), v4]) ⟨rfl, _, rfl⟩ (fun _ _ _ _ z => by rw [z.1]; exact hl) ?_ ?_
  · rintro j v σ H1 H2 hj ⟨rfl, v4, rfl⟩ ⟨rfl, hv⟩
    obtain ⟨ur, r, rfl, hr', hR'⟩ := hR.at_ j v hv
    obtain ⟨fx, fy⟩ := hf r (List.mem_of_getElem? hr')
    walk_at "rd"
    refine R0.go rfl rfl rfl hR' hx hy fx fy ?_
    walk_at "rd"
    refine R0.go rfl rfl rfl hR' hy hx fy fx ?_
    walk_at "rd"
    rw [take_snoc hr', voteN_snoc]
    exact ⟨rfl, _, rfl⟩
  · rintro σ H1 ⟨rfl, v4, rfl⟩
    walk_at "rd"
    rw [List.take_of_length_le (by have := hR.len; omega)]
    exact k
/-- a part of a chain: one rule, or votes -/
inductive R1 where
  | one (r : R0)
  | votes (rs : List R0)
def R1.b : R1 → List Int → List Int → Bool
  | .one r, xs, ys => r.b xs ys
  | .votes rs, xs, ys => voteB rs xs ys
def R1.fit : R1 → List Int → Prop
  | .one r, xs => r.fit xs
  | .votes rs, xs => ∀ r ∈ rs, r.fit xs
inductive R1.At (K : PySem.W.Frag) (A : Ad) (H : Hp) (u : Addr) : R1 → Prop
  | one {r : R0} (h : R0.At K A H u r) : R1.At K A H u (.one r)
  | votes {d l : Addr} {uvs : List V} {rs : List R0} (h : H u = some (.ins A.VoteRule d [("rules", .ref l)])) (hl : H l = some (.lst uvs)) (hR : RsAt K A H uvs rs) : R1.At K A H u (.votes rs)
theorem R1.At.stp {K : PySem.W.Frag} {A : Ad} {M : List Addr} {H H' : Hp} {u : Addr} {r : R1} (h : R1.At K A H u r) (S : Stp M H H') (hM : ∀ m ∈ M, H m = none) : R1.At K A H' u r := by
  have keep : ∀ {a : Addr} {o : HO}, H a = some o → H' a = some o := fun {a o} e => S.keep e fun z => by rw [hM _ z] at e; cases e
  cases h with
  | one h => exact .one (h.stp S hM)
  | votes h hl hR => exact .votes (keep h) (keep hl) (hR.stp S hM)
theorem R1.go {K : PySem.W.Frag} {A : Ad} {σ : L2.St} {H : Hp} {Q : VK} {E : XK} {i j k : Nat} {u x y : Addr} {r : R1} {xs ys : List Int} (hi : σ[i]? = some (some (.ref u))) (hj : σ[j]? = some (some (.ref x))) (hk : σ[k]? = some (some (.ref y)))
    (hU : R1.At K A H u r) (hx : SqT K H x (xs.map V.int)) (hy : SqT K H y (ys.map V.int)) (fx : r.fit xs) (fy : r.fit ys) (q : Q (.bl (r.b xs ys)) H) :
    tOrE (tMeth A.VoteRule "before" (sp_VoteRule_before K A) [] E (tVar i) (tCons (tVar j) (tCons (tVar k) tNil))) (tOrE (tMeth A.KeyRule "before" (sp_KeyRule_before K A) [] E (tVar i) (tCons (tVar j) (tCons (tVar k) tNil))) (tOrE (tMeth A.NearRule "before" (sp_NearRule_before K A) [] E (tVar i) (tCons (tVar j) (tCons (tVar k) tNil))) (tMeth A.RingRule "before" (sp_RingRule_before K A) [] E (tVar i) (tCons (tVar j) (tCons (tVar k) tNil))))) σ H Q := by
  cases hU with
  | one h => exact r_orR (R0.go hi hj hk h hx hy fx fy q)
  | @votes d l uvs rs h hl hR =>
    refine r_orL ?_
    walk_at "rd"
    refine SH.r_var hi ?_
    walk_at "rd"
    refine SH.r_var hj ?_
    walk_at "rd"
    refine SH.r_var hk ?_
    walk_at "rd"
    exact ⟨u, x, y, d, l, uvs, rs, xs, ys, rfl, h, ⟨SqL.of hl, hR, hx, hy, fun r hr => ⟨fx r hr, fy r hr⟩⟩, q⟩
structure PsAt (K : PySem.W.Frag) (A : Ad) (H : Hp) (uvs : List V) (rs : List R1) : Prop where
  len : uvs.length = rs.length
  at_ : ∀ (j : Nat) (v : V), uvs[j]? = some v → ∃ (u : Addr) (r : R1), v = .ref u ∧ rs[j]? = some r ∧ R1.At K A H u r
theorem PsAt.stp {K : PySem.W.Frag} {A : Ad} {M : List Addr} {H H' : Hp} {uvs : List V} {rs : List R1} (h : PsAt K A H uvs rs) (S : Stp M H H') (hM : ∀ m ∈ M, H m = none) : PsAt K A H' uvs rs :=
  ⟨h.len, fun j v e => by obtain ⟨u, r, h1, h2, h3⟩ := h.at_ j v e; exact ⟨u, r, h1, h2, h3.stp S hM⟩⟩
theorem PsAt.nil {K : PySem.W.Frag} {A : Ad} {H : Hp} : PsAt K A H [] [] := ⟨rfl, fun j v e => by cases e⟩
theorem PsAt.snoc {K : PySem.W.Frag} {A : Ad} {H : Hp} {uvs : List V} {rs : List R1} {u : Addr} {r : R1} (h : PsAt K A H uvs rs) (k : R1.At K A H u r) : PsAt K A H (uvs ++ [.ref u]) (rs ++ [r]) := by
  have hl := h.len
  refine ⟨by simp [hl], fun j v e => ?_⟩
  by_cases hj : j < uvs.length
  · rw [List.getElem?_append_left hj] at e
    obtain ⟨u', r', h1, h2, h3⟩ := h.at_ j v e
    exact ⟨u', r', h1, by rw [List.getElem?_append_left (by omega)]; exact h2, h3⟩
  · rw [List.getElem?_append_right (by omega)] at e
    have : j - uvs.length = 0 := by
      cases h : j - uvs.length with
      | zero => rfl
      | succ m => rw [h] at e; cases e
    rw [this] at e
    cases e
    exact ⟨u, r, rfl, by rw [List.getElem?_append_right (by omega), show j - rs.length = 0 by omega]; rfl, k⟩
def chainB : List R1 → List Int → List Int → Bool
  | [], _, _ => false
  | r :: rs, xs, ys => r.b xs ys || (!(r.b ys xs) && chainB rs xs ys)
def sp_ChainRule___init__ (K : PySem.W.Frag) (A : Ad) : Sp := fun vs H Q _ => ∃ (s b : Addr) (uvs : List V), vs = [.ref s, .ref b] ∧ (∃ dx, H s = some (.ins A.ChainRule dx [])) ∧ SqL K H b uvs ∧
  ∀ dx l H', H l = none → s ≠ l → H' s = some (.ins A.ChainRule dx [("rules", .ref l)]) → H' l = some (.lst uvs) → Stp [s] H H' → Q .non H'
theorem ok_ChainRule___init__ {P : Program} {w : World} {K : PySem.W.Frag} {mg : Str → Option Value} {base : Heap} {A : Ad} {f : Addr} {fd : FuncData} (F : Fun K "__init__" "ChainRule.__init__" s_ChainRule___init__ f fd) (T : Txt K mg A)  : FnOk P w K mg base CX0 1 f fd ["self", "rules"] (sp_ChainRule___init__ K A) := by
  refine F.ok sc_ChainRule___init__ (fun vs H Q E h => by obtain ⟨_, _, _, rfl, _⟩ := h; rfl) (fun cdv A' outer s H vs Q E hr h => ?_)
  obtain ⟨s', b, uvs, rfl, ⟨dx, hs⟩, hb, k⟩ := h
  refine ⟨_, (pss_one (SH.ps_fldF T.cl_ChainRule T.na_ChainRule_rules (pv 0) (pe_callTy SH.cListOf (by rfl) T.z_list (by decide +kernel) (pa_cons (pv 1) pa_nil)) rfl)), ?_⟩
  walk_at "begin"
  walk_at "rd"
  intro l hl2
  walk_at "rd"
  exact k _ l _ hl2 (ne_of_none hs hl2) upd_same (upd_far (ne_of_none hs hl2).symm upd_same) (((Stp.refl [s'] H).new hl2).putM (List.mem_singleton.mpr rfl) (upd_old hs hl2) (fun z => z))
def sp_ChainRule_before (K : PySem.W.Frag) (A : Ad) : Sp := fun vs H Q _ => ∃ (u x y d l : Addr) (uvs : List V) (rs : List R1) (xs ys : List Int), vs = [.ref u, .ref x, .ref y] ∧ H u = some (.ins A.ChainRule d [("rules", .ref l)]) ∧ (SqL K H l uvs ∧ PsAt K A H uvs rs ∧ SqT K H x (xs.map V.int) ∧ SqT K H y (ys.map V.int) ∧ (∀ r ∈ rs, r.fit xs ∧ r.fit ys)) ∧
  Q (.bl (chainB rs xs ys)) H
theorem ok_ChainRule_before {P : Program} {w : World} {K : PySem.W.Frag} {mg : Str → Option Value} {base : Heap} {A : Ad} {f : Addr} {fd : FuncData} (F : Fun K "before" "ChainRule.before" s_ChainRule_before f fd) (T : Txt K mg A) (M_KeyRule_before : SH.CalM P w K mg base CX0 1 A.KeyRule "before" [] (sp_KeyRule_before K A)) (M_NearRule_before : SH.CalM P w K mg base CX0 1 A.NearRule "before" [] (sp_NearRule_before K A)) (M_RingRule_before : SH.CalM P w K mg base CX0 1 A.RingRule "before" [] (sp_RingRule_before K A)) (M_VoteRule_before : SH.CalM P w K mg base CX0 2 A.VoteRule "before" [] (sp_VoteRule_before K A)) : FnOk P w K mg base CX0 3 f fd ["self", "x", "y"] (sp_ChainRule_before K A) := by
  refine F.ok sc_ChainRule_before (fun vs H Q E h => by obtain ⟨_, _, _, _, _, _, _, _, _, rfl, _⟩ := h; rfl) (fun cdv A' outer s H vs Q E hr h => ?_)
  obtain ⟨u, x, y, d, l, uvs, rs, xs, ys, rfl, hu, ⟨hl, hR, hx, hy, hf⟩, k⟩ := h
  refine ⟨_, (pss_cons (ps_for PassesOwn.never rfl (pi_list (SH.pe_fldF T.cl_ChainRule T.na_ChainRule_rules (pv 0))) (pg_name (i := 3) sc_ChainRule_before.nd rfl (Or.inl rfl)) (pss_cons (ps_set (i := 4) sc_ChainRule_before.nd rfl (Or.inl rfl) (SH.peOrE (SH.pe_methF (pv 3) M_VoteRule_before hr pass0 (pa_cons (pv 1) (pa_cons (pv 2) pa_nil))) (SH.peOrE (SH.pe_methF (pv 3) M_KeyRule_before hr pass0 (pa_cons (pv 1) (pa_cons (pv 2) pa_nil))) (SH.peOrE (SH.pe_methF (pv 3) M_NearRule_before hr pass0 (pa_cons (pv 1) (pa_cons (pv 2) pa_nil))) (SH.pe_methF (pv 3) M_RingRule_before hr pass0 (pa_cons (pv 1) (pa_cons (pv 2) pa_nil)))))))
        (pss_one (ps_if (PW.pt (pw_or (pt_val (pv 4)) (pw_or1 (pt_val (SH.peOrE (SH.pe_methF (pv 3) M_VoteRule_before hr pass0 (pa_cons (pv 2) (pa_cons (pv 1) pa_nil))) (SH.peOrE (SH.pe_methF (pv 3) M_KeyRule_before hr pass0 (pa_cons (pv 2) (pa_cons (pv 1) pa_nil))) (SH.peOrE (SH.pe_methF (pv 3) M_NearRule_before hr pass0 (pa_cons (pv 2) (pa_cons (pv 1) pa_nil))) (SH.pe_methF (pv 3) M_RingRule_before hr pass0 (pa_cons (pv 2) (pa_cons (pv 1) pa_nil)))))))))) (pss_one (ps_ret (pv 4))) pss_nil))))
        (pss_one (ps_ret pe_bl))), ?_⟩
  walk_at "begin"
  walk_at "rd"
  refine for_it (walk_list (xs := uvs)) (fun j σ H' => H' = H ∧ chainB rs xs ys = chainB (rs.drop j) xs ys ∧ ∃ v3 v4, σ = [some (.ref u), some (.ref x), some (.ref y), v3, v4]) ⟨rfl, rfl, _, _, rfl⟩ (fun _ _ _ _ z => by rw [z.1]; exact hl) ?_ ?_
  · rintro j v σ H1 H2 hj ⟨rfl, hk, v3, v4, rfl⟩ ⟨rfl, hv⟩
    obtain ⟨ur, r, rfl, hr', hR'⟩ := hR.at_ j v hv
    obtain ⟨fx, fy⟩ := hf r (List.mem_of_getElem? hr')
    obtain ⟨hj', hc'⟩ := List.getElem?_eq_some_iff.mp hr'
    rw [List.drop_eq_getElem_cons hj', hc'] at hk
    simp only [chainB] at hk
    walk_at "rd"
    refine R1.go rfl rfl rfl hR' hx hy fx fy ?_
    walk_at "rd"
    cases h1 : r.b xs ys with
    | true =>
      rw [h1] at hk
      simp at hk
      rw [hk] at k
      walk_at "rd"
      exact k
    | false =>
      walk_at "rd"
      refine R1.go rfl rfl rfl hR' hy hx fy fx ?_
      cases h2 : r.b ys xs with
      | true =>
        rw [h1, h2] at hk
        simp at hk
        rw [hk] at k
        walk_at "rd"
        exact k
      | false =>
        rw [h1, h2] at hk
        simp at hk
        walk_at "rd"
        exact ⟨rfl, hk, _, _, rfl⟩
  · rintro σ H1 ⟨rfl, hk, v3, v4, rfl⟩
    walk_at "rd"
    rw [List.drop_of_length_le (by have := hR.len; omega)] at hk
    rw [hk] at k
    exact k
/-! ### the greatest number that a rule names -/
def maxD (ns : List Int) : Int := ns.foldl max (-1)
theorem maxD_all (ns : List Int) : ∀ y ∈ ns, y ≤ maxD ns := fun y hy => (SH.foldl_max ns (-1)).2 y (by simp [hy])
theorem maxD_low (ns : List Int) : -1 ≤ maxD ns := (SH.foldl_max ns (-1)).2 (-1) (by simp)
theorem maxD_of {ns : List Int} {m : Int} (h : ∀ n ∈ ns, -1 ≤ n) (h1 : m ∈ ns) (h2 : ∀ y, y ∈ ns → y ≤ m) : m = maxD ns := by
  have a := maxD_all ns m h1
  rcases List.mem_cons.mp (SH.foldl_max ns (-1)).1 with e | e
  · have := h m h1
    have e' : maxD ns = -1 := e
    omega
  · have := h2 _ e
    have e' : maxD ns ≤ m := this
    omega
theorem maxD_snoc (ns : List Int) (n : Int) : maxD (ns ++ [n]) = max (maxD ns) n := by unfold maxD; rw [List.foldl_append]; rfl
def R0.wid : R0 → Int
  | .key cols => maxD (cols.map fun c => (c.1 : Int))
  | .near i _ => i
  | .ring i _ => i
theorem R0.wid_low (r : R0) : -1 ≤ r.wid := by
  cases r with
  | key cols => exact maxD_low _
  | near i g => show (-1 : Int) ≤ i; omega
  | ring i g => show (-1 : Int) ≤ i; omega
def R1.wid : R1 → Int
  | .one r => r.wid
  | .votes rs => maxD (rs.map R0.wid)
theorem R1.wid_low (r : R1) : -1 ≤ r.wid := by
  cases r with
  | one r => exact r.wid_low
  | votes rs => exact maxD_low _
def sp_KeyRule_widest (K : PySem.W.Frag) (A : Ad) : Sp := fun vs H Q _ => ∃ (u d l : Addr) (cvs : List V) (cols : List (Nat × Bool)), vs = [.ref u] ∧ H u = some (.ins A.KeyRule d [("columns", .ref l)]) ∧ (SqL K H l cvs ∧ Cols K H cvs cols ∧ cols.length ≤ 1000) ∧ ∀ H', Stp [] H H' → Q (.int (maxD (cols.map fun c => (c.1 : Int)))) H'
theorem ok_KeyRule_widest {P : Program} {w : World} {K : PySem.W.Frag} {mg : Str → Option Value} {base : Heap} {A : Ad} {f : Addr} {fd : FuncData} (F : Fun K "widest" "KeyRule.widest" s_KeyRule_widest f fd) (T : Txt K mg A)  : FnOk P w K mg base CX0 1 f fd ["self"] (sp_KeyRule_widest K A) := by
  refine F.ok sc_KeyRule_widest (fun vs H Q E h => by obtain ⟨_, _, _, _, _, rfl, _⟩ := h; rfl) (fun cdv A' outer s H vs Q E hr h => ?_)
  obtain ⟨u, d, l, cvs, cols, rfl, hu, ⟨hl, hC, hcl⟩, k⟩ := h
  refine ⟨_, (pss_one (ps_ret (pe_callBK (SH.cr_maxDef rfl hr.units) (by rfl) T.z_max (by decide +kernel) (pa_cons (pe_lc (own := [("at", 1), ("way", 2)]) (g := (gTup K 2 (gCons (gName 1) (gCons (gName 2) gNil)))) (tt := tYes) (by rfl) sc_KeyRule_widest.nd (pi_list (SH.pe_fldF T.cl_KeyRule T.na_KeyRule_columns (pv 0))) (blkOk_by (own := [("at", 1), ("way", 2)]) (N := ["self", "at", "way"]) (sc := defScope s_KeyRule_widest) (by decide +kernel)) (fun _ _ _ _ _ => (pg_tup (by rfl) (pgs_cons (pg_name (i := 1) sc_KeyRule_widest.nd rfl (Or.inl rfl)) (pgs_cons (pg_name (i := 2) sc_KeyRule_widest.nd rfl (Or.inl rfl)) pgs_nil)))) (fun _ _ _ _ _ => pts_nil) (fun _ _ _ _ _ => (pv 1))) pa_nil) (pk_cons (pe_un un_neg pe_int) pk_nil)))), ?_⟩
  walk_at "begin"
  walk_at "rd"
  intro D hD
  refine lc_it (walk_list (xs := cvs)) (fun j H' => Stp [] H H' ∧ H' D = some (.lst (((cols.take j).map fun c => (c.1 : Int)).map V.int))) ⟨(Stp.refl _ _).new hD, upd_same⟩ (fun j H' _ z => z.1.sql0 hl) ?_ ?_
  · rintro j v H1 H2 hj ⟨S, hL⟩ ⟨rfl, hv⟩
    obtain ⟨t, c, rfl, hc, ht⟩ := hC.2 j v hv
    have ht2 := S.tup ht
    walk_at "rd"
    refine ⟨_, hL, Nat.lt_of_le_of_lt (m := 1000) (by rw [List.length_map, List.length_map]; exact Nat.le_trans (List.length_take_le' _ _) (by omega)) (by decide), S.putN hD, ?_⟩
    rw [upd_same, List.take_succ, hc]
    simp
  rintro H1 ⟨S, hL⟩
  rw [hC.1, List.take_length] at hL
  walk_at "rd"
  refine ⟨D, cols.map fun c => (c.1 : Int), -1, rfl, rfl, SqL.of hL, fun e => ?_, fun m h1 h2 => ?_⟩
  · have := k H1 S
    rw [e] at this
    exact this
  · rw [maxD_of (fun n hn => by obtain ⟨c, _, rfl⟩ := List.mem_map.mp hn; omega) h1 h2]
    exact k H1 S
def sp_NearRule_widest (K : PySem.W.Frag) (A : Ad) : Sp := fun vs H Q _ => ∃ (s dx : Addr) (i g : V), vs = [.ref s] ∧ H s = some (.ins A.NearRule dx [("at", i), ("gap", g)]) ∧ Q i H
theorem ok_NearRule_widest {P : Program} {w : World} {K : PySem.W.Frag} {mg : Str → Option Value} {base : Heap} {A : Ad} {f : Addr} {fd : FuncData} (F : Fun K "widest" "NearRule.widest" s_NearRule_widest f fd) (T : Txt K mg A)  : FnOk P w K mg base CX0 1 f fd ["self"] (sp_NearRule_widest K A) := by
  refine F.ok sc_NearRule_widest (fun vs H Q E h => by obtain ⟨_, _, _, _, rfl, _⟩ := h; rfl) (fun cdv A' outer s H vs Q E hr h => ?_)
  obtain ⟨s', dx, i, g, rfl, hs, k⟩ := h
  refine ⟨_, (pss_one (ps_ret (SH.pe_fldF T.cl_NearRule T.na_NearRule_at (pv 0)))), ?_⟩
  walk_at "begin"
  walk_at "rd"
  exact k
def sp_RingRule_widest (K : PySem.W.Frag) (A : Ad) : Sp := fun vs H Q _ => ∃ (s dx : Addr) (i g : V), vs = [.ref s] ∧ H s = some (.ins A.RingRule dx [("at", i), ("size", g)]) ∧ Q i H
theorem ok_RingRule_widest {P : Program} {w : World} {K : PySem.W.Frag} {mg : Str → Option Value} {base : Heap} {A : Ad} {f : Addr} {fd : FuncData} (F : Fun K "widest" "RingRule.widest" s_RingRule_widest f fd) (T : Txt K mg A)  : FnOk P w K mg base CX0 1 f fd ["self"] (sp_RingRule_widest K A) := by
  refine F.ok sc_RingRule_widest (fun vs H Q E h => by obtain ⟨_, _, _, _, rfl, _⟩ := h; rfl) (fun cdv A' outer s H vs Q E hr h => ?_)
  obtain ⟨s', dx, i, g, rfl, hs, k⟩ := h
  refine ⟨_, (pss_one (ps_ret (SH.pe_fldF T.cl_RingRule T.na_RingRule_at (pv 0)))), ?_⟩
  walk_at "begin"
  walk_at "rd"
  exact k
def R0.few : R0 → Prop
  | .key cols => cols.length ≤ 1000
  | _ => True
theorem R0.goW {K : PySem.W.Frag} {A : Ad} {σ : L2.St} {H : Hp} {Q : VK} {E : XK} {i : Nat} {u : Addr} {r : R0} (hi : σ[i]? = some (some (.ref u))) (hU : R0.At K A H u r) (hf : r.few) (q : ∀ H', Stp [] H H' → Q (.int r.wid) H') :
    tOrE (tMeth A.KeyRule "widest" (sp_KeyRule_widest K A) [] E (tVar i) tNil) (tOrE (tMeth A.NearRule "widest" (sp_NearRule_widest K A) [] E (tVar i) tNil) (tMeth A.RingRule "widest" (sp_RingRule_widest K A) [] E (tVar i) tNil)) σ H Q := by
  cases hU with
  | @key d l cvs cols h hl hc =>
    refine r_orL ?_
    walk_at "rd"
    refine SH.r_var hi ?_
    walk_at "rd"
    exact ⟨u, d, l, cvs, cols, rfl, h, ⟨SqL.of hl, hc, hf⟩, q⟩
  | @near d i' g h =>
    refine r_orR (r_orL ?_)
    walk_at "rd"
    refine SH.r_var hi ?_
    walk_at "rd"
    exact ⟨u, d, _, _, rfl, h, q H (Stp.refl _ _)⟩
  | @ring d i' m h hm =>
    refine r_orR (r_orR ?_)
    walk_at "rd"
    refine SH.r_var hi ?_
    walk_at "rd"
    exact ⟨u, d, _, _, rfl, h, q H (Stp.refl _ _)⟩
def sp_VoteRule_widest (K : PySem.W.Frag) (A : Ad) : Sp := fun vs H Q _ => ∃ (u d l : Addr) (uvs : List V) (rs : List R0), vs = [.ref u] ∧ H u = some (.ins A.VoteRule d [("rules", .ref l)]) ∧ (SqL K H l uvs ∧ RsAt K A H uvs rs ∧ (∀ r ∈ rs, r.few) ∧ rs.length ≤ 1000) ∧ ∀ H', Stp [] H H' → Q (.int (maxD (rs.map R0.wid))) H'
theorem ok_VoteRule_widest {P : Program} {w : World} {K : PySem.W.Frag} {mg : Str → Option Value} {base : Heap} {A : Ad} {f : Addr} {fd : FuncData} (F : Fun K "widest" "VoteRule.widest" s_VoteRule_widest f fd) (T : Txt K mg A) (M_KeyRule_widest : SH.CalM P w K mg base CX0 1 A.KeyRule "widest" [] (sp_KeyRule_widest K A)) (M_NearRule_widest : SH.CalM P w K mg base CX0 1 A.NearRule "widest" [] (sp_NearRule_widest K A)) (M_RingRule_widest : SH.CalM P w K mg base CX0 1 A.RingRule "widest" [] (sp_RingRule_widest K A)) : FnOk P w K mg base CX0 2 f fd ["self"] (sp_VoteRule_widest K A) := by
  refine F.ok sc_VoteRule_widest (fun vs H Q E h => by obtain ⟨_, _, _, _, _, rfl, _⟩ := h; rfl) (fun cdv A' outer s H vs Q E hr h => ?_)
  obtain ⟨u, d, l, uvs, rs, rfl, hu, ⟨hl, hR, hf, hn⟩, k⟩ := h
  refine ⟨_, (pss_one (ps_ret (pe_callBK (SH.cr_maxDef rfl hr.units) (by rfl) T.z_max (by decide +kernel) (pa_cons (pe_lc (own := [("rule", 1)]) (g := (gName 1)) (tt := tYes) (by rfl) sc_VoteRule_widest.nd (pi_list (SH.pe_fldF T.cl_VoteRule T.na_VoteRule_rules (pv 0))) (blkOk_by (own := [("rule", 1)]) (N := ["self", "rule"]) (sc := defScope s_VoteRule_widest) (by decide +kernel)) (fun _ _ _ _ _ => (pg_name (i := 1) sc_VoteRule_widest.nd rfl (Or.inl rfl))) (fun _ _ _ _ _ => pts_nil) (fun _ _ _ _ _ => (SH.peOrE (SH.pe_methF0 (pv 1) M_KeyRule_widest hr pass0) (SH.peOrE (SH.pe_methF0 (pv 1) M_NearRule_widest hr pass0) (SH.pe_methF0 (pv 1) M_RingRule_widest hr pass0))))) pa_nil) (pk_cons (pe_un un_neg pe_int) pk_nil)))), ?_⟩
  walk_at "begin"
  walk_at "rd"
  intro D hD
  refine lc_it (walk_list (xs := uvs)) (fun j H' => Stp [] H H' ∧ H' D = some (.lst (((rs.take j).map R0.wid).map V.int))) ⟨(Stp.refl _ _).new hD, upd_same⟩ (fun j H' _ z => z.1.sql0 hl) ?_ ?_
  · rintro j v H1 H2 hj ⟨S, hL⟩ ⟨rfl, hv⟩
    obtain ⟨ur, r, rfl, hr', hR'⟩ := (hR.stp S (by simp)).at_ j v hv
    walk_at "rd"
    refine R0.goW rfl hR' (hf r (List.mem_of_getElem? hr')) fun H3 S3 => ?_
    refine ⟨_, S3.keep0 hL, Nat.lt_of_le_of_lt (m := 1000) (by rw [List.length_map, List.length_map]; exact Nat.le_trans (List.length_take_le' _ _) (by omega)) (by decide), (S.trans S3).putN hD, ?_⟩
    rw [upd_same, take_snoc hr', List.map_append, List.map_append]
    rfl
  rintro H1 ⟨S, hL⟩
  rw [hR.len, List.take_length] at hL
  walk_at "rd"
  refine ⟨D, rs.map R0.wid, -1, rfl, rfl, SqL.of hL, fun e => ?_, fun m h1 h2 => ?_⟩
  · have := k H1 S
    rw [e] at this
    exact this
  · rw [maxD_of (fun n hn => by obtain ⟨c, _, rfl⟩ := List.mem_map.mp hn; exact c.wid_low) h1 h2]
    exact k H1 S
def R1.few : R1 → Prop
  | .one r => r.few
  | .votes rs => (∀ r ∈ rs, r.few) ∧ rs.length ≤ 1000
theorem R1.goW {K : PySem.W.Frag} {A : Ad} {σ : L2.St} {H : Hp} {Q : VK} {E : XK} {i : Nat} {u : Addr} {r : R1} (hi : σ[i]? = some (some (.ref u))) (hU : R1.At K A H u r) (hf : r.few) (q : ∀ H', Stp [] H H' → Q (.int r.wid) H') :
    tOrE (tMeth A.VoteRule "widest" (sp_VoteRule_widest K A) [] E (tVar i) tNil) (tOrE (tMeth A.KeyRule "widest" (sp_KeyRule_widest K A) [] E (tVar i) tNil) (tOrE (tMeth A.NearRule "widest" (sp_NearRule_widest K A) [] E (tVar i) tNil) (tMeth A.RingRule "widest" (sp_RingRule_widest K A) [] E (tVar i) tNil))) σ H Q := by
  cases hU with
  | one h => exact r_orR (R0.goW hi h hf q)
  | @votes d l uvs rs h hl hR =>
    refine r_orL ?_
    walk_at "rd"
    refine SH.r_var hi ?_
    walk_at "rd"
    exact ⟨u, d, l, uvs, rs, rfl, h, ⟨SqL.of hl, hR, hf.1, hf.2⟩, q⟩
def sp_ChainRule_widest (K : PySem.W.Frag) (A : Ad) : Sp := fun vs H Q _ => ∃ (u d l : Addr) (uvs : List V) (rs : List R1), vs = [.ref u] ∧ H u = some (.ins A.ChainRule d [("rules", .ref l)]) ∧ (SqL K H l uvs ∧ PsAt K A H uvs rs ∧ (∀ r ∈ rs, r.few) ∧ rs.length ≤ 1000) ∧ ∀ H', Stp [] H H' → Q (.int (maxD (rs.map R1.wid))) H'
theorem ok_ChainRule_widest {P : Program} {w : World} {K : PySem.W.Frag} {mg : Str → Option Value} {base : Heap} {A : Ad} {f : Addr} {fd : FuncData} (F : Fun K "widest" "ChainRule.widest" s_ChainRule_widest f fd) (T : Txt K mg A) (M_KeyRule_widest : SH.CalM P w K mg base CX0 1 A.KeyRule "widest" [] (sp_KeyRule_widest K A)) (M_NearRule_widest : SH.CalM P w K mg base CX0 1 A.NearRule "widest" [] (sp_NearRule_widest K A)) (M_RingRule_widest : SH.CalM P w K mg base CX0 1 A.RingRule "widest" [] (sp_RingRule_widest K A)) (M_VoteRule_widest : SH.CalM P w K mg base CX0 2 A.VoteRule "widest" [] (sp_VoteRule_widest K A)) : FnOk P w K mg base CX0 3 f fd ["self"] (sp_ChainRule_widest K A) := by
  refine F.ok sc_ChainRule_widest (fun vs H Q E h => by obtain ⟨_, _, _, _, _, rfl, _⟩ := h; rfl) (fun cdv A' outer s H vs Q E hr h => ?_)
  obtain ⟨u, d, l, uvs, rs, rfl, hu, ⟨hl, hR, hf, hn⟩, k⟩ := h
  refine ⟨_, (pss_one (ps_ret (pe_callBK (SH.cr_maxDef rfl hr.units) (by rfl) T.z_max (by decide +kernel) (pa_cons (pe_lc (own := [("rule", 1)]) (g := (gName 1)) (tt := tYes) (by rfl) sc_ChainRule_widest.nd (pi_list (SH.pe_fldF T.cl_ChainRule T.na_ChainRule_rules (pv 0))) (blkOk_by (own := [("rule", 1)]) (N := ["self", "rule"]) (sc := defScope s_ChainRule_widest) (by decide +kernel)) (fun _ _ _ _ _ => (pg_name (i := 1) sc_ChainRule_widest.nd rfl (Or.inl rfl))) (fun _ _ _ _ _ => pts_nil) (fun _ _ _ _ _ => (SH.peOrE (SH.pe_methF0 (pv 1) M_VoteRule_widest hr pass0) (SH.peOrE (SH.pe_methF0 (pv 1) M_KeyRule_widest hr pass0) (SH.peOrE (SH.pe_methF0 (pv 1) M_NearRule_widest hr pass0) (SH.pe_methF0 (pv 1) M_RingRule_widest hr pass0)))))) pa_nil) (pk_cons (pe_un un_neg pe_int) pk_nil)))), ?_⟩
  walk_at "begin"
  walk_at "rd"
  intro D hD
  refine lc_it (walk_list (xs := uvs)) (fun j H' => Stp [] H H' ∧ H' D = some (.lst (((rs.take j).map R1.wid).map V.int))) ⟨(Stp.refl _ _).new hD, upd_same⟩ (fun j H' _ z => z.1.sql0 hl) ?_ ?_
  · rintro j v H1 H2 hj ⟨S, hL⟩ ⟨rfl, hv⟩
    obtain ⟨ur, r, rfl, hr', hR'⟩ := (hR.stp S (by simp)).at_ j v hv
    walk_at "rd"
    refine R1.goW rfl hR' (hf r (List.mem_of_getElem? hr')) fun H3 S3 => ?_
    refine ⟨_, S3.keep0 hL, Nat.lt_of_le_of_lt (m := 1000) (by rw [List.length_map, List.length_map]; exact Nat.le_trans (List.length_take_le' _ _) (by omega)) (by decide), (S.trans S3).putN hD, ?_⟩
    rw [upd_same, take_snoc hr', List.map_append, List.map_append]
    rfl
  rintro H1 ⟨S, hL⟩
  rw [hR.len, List.take_length] at hL
  walk_at "rd"
  refine ⟨D, rs.map R1.wid, -1, rfl, rfl, SqL.of hL, fun e => ?_, fun m h1 h2 => ?_⟩
  · have := k H1 S
    rw [e] at this
    exact this
  · rw [maxD_of (fun n hn => by obtain ⟨c, _, rfl⟩ := List.mem_map.mp hn; exact c.wid_low) h1 h2]
    exact k H1 S
/-! ### texts of numbers -/
abbrev istr (z : Int) : Str := Str.ofString (toString z)
theorem tl_istr_nat (n : Nat) : tl (istr (n : Int)) = numL n := tl_num n
theorem tl_istr_neg (n : Nat) : tl (istr (Int.negSucc n)) = 45 :: numL (n + 1) := by
  have h1 : toString (Int.negSucc n) = "-" ++ toString (((n + 1 : Nat) : Nat) : Int) := rfl
  rw [← tl_istr_nat]
  unfold istr
  rw [h1, tl_ofString, tl_ofString, String.toList_append, List.map_append]
  rfl
theorem istr_len {z : Int} {k : Nat} (hk : 0 < k) (h0 : -(10 ^ k : Int) < z) (h1 : z < 10 ^ k) : (istr z).length ≤ k + 1 := by
  rw [len_tl]
  cases z with
  | ofNat n =>
    have := numL_len (n := n) hk (by have : ((n : Nat) : Int) < ((10 ^ k : Nat) : Int) := by rw [Int.natCast_pow]; exact h1
                                     omega)
    rw [show Int.ofNat n = (n : Int) from rfl, tl_istr_nat]
    omega
  | negSucc n =>
    have := numL_len (n := n + 1) hk (by have : ((n + 1 : Nat) : Int) < ((10 ^ k : Nat) : Int) := by
                                           rw [Int.natCast_pow]
                                           have := Int.negSucc_eq n
                                           have e : ((10 : Nat) : Int) ^ k = (10 : Int) ^ k := rfl
                                           rw [e]
                                           omega
                                         omega)
    rw [tl_istr_neg]
    simp
    omega
theorem tl_rjust (x : Str) (i : Int) : tl (Txt.rjust x i) = List.replicate (i.toNat - x.length) 32 ++ tl x := PyProof.Rows.rjustF_list x i 32
theorem joinL_flat (ps : List (List Nat)) : ps ≠ [] → 32 :: joinL [32] ps = (ps.map fun p => 32 :: p).flatten := by
  induction ps with
  | nil => intro h; exact (h rfl).elim
  | cons p qs ih =>
    intro _
    cases qs with
    | nil => simp [joinL]
    | cons q r => rw [List.map_cons, List.flatten_cons, ← ih (by simp)]; simp [joinL]
theorem joinL_snoc (S : List Nat) (l : List Nat) : ∀ {ls : List (List Nat)}, ls ≠ [] → joinL S (ls ++ [l]) = joinL S ls ++ (S ++ l)
  | [], h => (h rfl).elim
  | [p], _ => rfl
  | p :: q :: r, _ => by
    show p ++ (S ++ joinL S (q :: r ++ [l])) = p ++ (S ++ joinL S (q :: r)) ++ (S ++ l)
    rw [joinL_snoc S l (ls := q :: r) (by simp)]
    simp [List.append_assoc]
theorem numL_head {n : Nat} : 0 < n → ∃ c r, numL n = c :: r ∧ c ≠ 48 := by
  induction n using Nat.strongRecOn with
  | _ n ih =>
    intro h
    by_cases h10 : n < 10
    · exact ⟨48 + n, [], numL_lt h10, by omega⟩
    · obtain ⟨c, r, e, hc⟩ := ih (n / 10) (by omega) (by omega)
      exact ⟨c, r ++ [48 + n % 10], by rw [numL_step (by omega), e]; rfl, hc⟩
theorem startswith1 {x : Str} {c d : Nat} {r : List Nat} (h : tl x = c :: r) : Txt.startswith x ⟨#[d]⟩ = decide (c = d) := by
  obtain ⟨⟨l⟩⟩ := x
  change l = c :: r at h
  subst h
  unfold Txt.startswith Builtin.Str.subAt
  simp [Str.length]
  by_cases e : c = d <;> simp [e]
def zok60 (z : Int) : Prop := -(10 ^ 60) < z ∧ z < 10 ^ 60
theorem log60 {z : Int} (h : zok60 z) : z.natAbs.log2 < 1920 := by
  have h2 : z.natAbs < 2 ^ 1000 := by
    have : z.natAbs < 10 ^ 60 := by have := h.1; have := h.2; omega
    exact Nat.lt_of_lt_of_le this (by decide +kernel)
  by_cases h0 : z.natAbs = 0
  · rw [h0]; decide
  · exact Nat.lt_of_lt_of_le ((Nat.log2_lt h0).mpr h2) (by decide)
theorem isdigit_num (n : Nat) : Txt.isdigit (istr (n : Int)) = true := by
  unfold Txt.isdigit
  rw [len_tl, Bool.and_eq_true]
  constructor
  · refine decide_eq_true ?_
    rw [tl_istr_nat]
    exact List.length_pos_iff.mpr (numL_ne n)
  · rw [Array.all_eq_true_iff_forall_mem]
    intro c hc
    have hc' : c ∈ numL n := by rw [← tl_istr_nat]; exact Array.mem_toList_iff.mpr hc
    have h := numL_digits n c hc'
    have hh : ∀ k, k < 10 → Unicode.isDigit (48 + k) = true := by decide +kernel
    have := hh (c - 48) (by omega)
    rwa [show 48 + (c - 48) = c by omega] at this
def sp_number_in (K : PySem.W.Frag) (A : Ad) : Sp := fun vs H Q _ => ∃ (z : Int), vs = [.str (istr z)] ∧ zok60 z ∧ Q (.int z) H
theorem ok_number_in {P : Program} {w : World} {K : PySem.W.Frag} {mg : Str → Option Value} {base : Heap} {A : Ad} {f : Addr} {fd : FuncData} (F : Fun K "number_in" "number_in" s_number_in f fd) (T : Txt K mg A)  : FnOk P w K mg base CX0 1 f fd ["word"] (sp_number_in K A) := by
  refine F.ok sc_number_in (fun vs H Q E h => by obtain ⟨_, rfl, _⟩ := h; rfl) (fun cdv A' outer s H vs Q E hr h => ?_)
  obtain ⟨z, rfl, hz, k⟩ := h
  refine ⟨_, (pss_cons (ps_set (i := 1) sc_number_in.nd rfl (Or.inl rfl) (pv 0))
        (pss_cons (ps_if (pt_val (pe_bm PySem.F.plainAttrs_str PySem.F.slot_str_startswith PySem.F.type_str_startswith mt_startswith (pv 0) (pa_cons pe_str pa_nil))) (pss_one (ps_set (i := 1) sc_number_in.nd rfl (Or.inl rfl) (pe_slice sl_str (pv 0) (po_some pe_int) po_none))) pss_nil)
        (pss_cons (ps_if (PW.pt (pw_or (pt_not (pt_val (pe_bm0 PySem.F.plainAttrs_str PySem.F.slot_str_isdigit PySem.F.type_str_isdigit mt_isdigit (pv 1)))) (pw_or1 (pt_cmpR SH.oGt (pe_callB SH.cLen (by rfl) T.z_len (by decide +kernel) (pa_cons (pv 1) pa_nil)) (SH.pe_k T.k_MOST_FIGURES) (nomark _))))) (pss_one (ps_ret pe_non)) pss_nil)
        (pss_cons (ps_if (PW.pt (pw_and (pt_val (pe_bm PySem.F.plainAttrs_str PySem.F.slot_str_startswith PySem.F.type_str_startswith mt_startswith (pv 1) (pa_cons pe_str pa_nil))) (pw_and1 (pt_cmpR (SH.oNe hr.units) (pv 0) pe_str (nomark _))))) (pss_one (ps_ret pe_non)) pss_nil)
        (pss_one (ps_ret (pe_callTy call_int_str (by rfl) T.z_int (by decide +kernel) (pa_cons (pv 0) pa_nil)))))))), ?_⟩
  walk_at "begin"
  walk_at "rd"
  have em : Str.ofString "-" = ⟨#[45]⟩ := by decide +kernel
  have ez : Str.ofString "0" = ⟨#[48]⟩ := by decide +kernel
  refine ⟨ty_str, ?_⟩
  walk_at "rd"
  refine ⟨_, _, rfl, rfl, ?_⟩
  cases z with
  | ofNat n =>
    obtain ⟨c, r, e⟩ : ∃ c r, numL n = c :: r := List.exists_cons_of_ne_nil (numL_ne n)
    have hc := numL_digits n c (by rw [e]; exact List.mem_cons_self ..)
    have ht : tl (istr (Int.ofNat n)) = c :: r := by rw [show Int.ofNat n = (n : Int) from rfl, tl_istr_nat, e]
    rw [em, startswith1 ht, decide_eq_false (by omega)]
    walk_at "rd"
    have hn : n < 10 ^ 60 := by have h := hz.2; change ((n : Nat) : Int) < 10 ^ 60 at h; omega
    refine ⟨ty_str, _, rfl, rfl, True.intro, ?_⟩
    rw [show Txt.isdigit (istr (Int.ofNat n)) = true from isdigit_num n]
    have hlen : (istr (Int.ofNat n)).length ≤ 60 := by rw [len_tl, show Int.ofNat n = (n : Int) from rfl, tl_istr_nat]; exact numL_len (by decide) hn
    walk_at "rd"
    refine ⟨Nat.le_trans (m := 1000) (Nat.le_trans hlen (by decide)) (by decide), ?_⟩
    walk_at "rd"
    refine r_wF (by omega) ?_
    walk_at "rd"
    have ek : intText? (istr (Int.ofNat n)) = some (Int.ofNat n) := int_num (n := n) (Nat.le_trans (numL_len (k := 60) (by decide) hn) (by decide))
    refine ⟨ty_str, ?_⟩
    walk_at "rd"
    refine ⟨_, _, rfl, rfl, ?_⟩
    rcases Nat.eq_zero_or_pos n with h0 | h0
    · subst h0
      have e48 : tl (istr (Int.ofNat 0)) = [48] := by decide +kernel
      have e0 : istr (Int.ofNat 0) = ⟨#[48]⟩ := ext_tl e48
      rw [ez, startswith1 e48, decide_eq_true rfl]
      walk_at "rd"
      refine v_neS ?_
      rw [show (!decide (istr (Int.ofNat 0) = (⟨#[48]⟩ : Str))) = false by rw [decide_eq_true e0]; rfl]
      walk_at "rd"
      exact ⟨_, _, rfl, ek, Nat.le_trans hlen (by decide), k⟩
    · obtain ⟨c', r', e', hc'⟩ := numL_head h0
      have ec : c = c' := by rw [e] at e'; cases e'; rfl
      rw [ez, startswith1 ht, decide_eq_false (by omega)]
      walk_at "rd"
      exact ⟨_, _, rfl, ek, Nat.le_trans hlen (by decide), k⟩
  | negSucc n =>
    have ht := tl_istr_neg n
    rw [em, startswith1 ht, decide_eq_true rfl]
    walk_at "rd"
    have hn : n + 1 < 10 ^ 60 := by have h := hz.1; have := Int.negSucc_eq n; omega
    have hl1 : (istr (Int.negSucc n)).length ≤ 61 := by rw [len_tl, ht]; have := numL_len (n := n + 1) (k := 60) (by decide) hn; simp; omega
    refine ⟨_, rfl, Nat.le_trans (m := 1000) (by omega) (by decide), ?_⟩
    have ef : cutS (istr (Int.negSucc n)) (some 1) none = istr ((n + 1 : Nat) : Int) := ext_tl (by
      rw [tl_istr_nat]
      unfold cutS
      change (List.take _ (List.drop _ (tl (istr (Int.negSucc n))))) = _
      rw [len_tl, ht]
      simp [HT.sIx])
    rw [ef]
    walk_at "rd"
    refine ⟨ty_str, _, rfl, rfl, True.intro, ?_⟩
    rw [isdigit_num]
    have hlen : (istr ((n + 1 : Nat) : Int)).length ≤ 60 := by rw [len_tl, tl_istr_nat]; exact numL_len (by decide) hn
    walk_at "rd"
    refine ⟨Nat.le_trans (m := 1000) (Nat.le_trans hlen (by decide)) (by decide), ?_⟩
    walk_at "rd"
    refine r_wF (by omega) ?_
    walk_at "rd"
    obtain ⟨c', r', e', hc'⟩ := numL_head (n := n + 1) (by omega)
    have ek : intText? (istr (Int.negSucc n)) = some (Int.negSucc n) := by
      rw [intText_neg ht (numL_digits _) (numL_ne _) (Nat.le_trans hl1 (by decide)), numL_val]
      rfl
    refine ⟨ty_str, ?_⟩
    walk_at "rd"
    refine ⟨_, _, rfl, rfl, ?_⟩
    rw [ez, startswith1 (by rw [tl_istr_nat, e'] : tl (istr ((n + 1 : Nat) : Int)) = c' :: r'), decide_eq_false hc']
    walk_at "rd"
    exact ⟨_, _, rfl, ek, Nat.le_trans hl1 (by decide), k⟩
theorem free32 (z : Int) : 32 ∉ tl (istr z) := by
  cases z with
  | ofNat n => rw [show Int.ofNat n = (n : Int) from rfl, tl_istr_nat]; exact numL_free (by omega)
  | negSucc n =>
    rw [tl_istr_neg]
    intro h
    rcases List.mem_cons.mp h with h | h
    · omega
    · exact numL_free (n := n + 1) (s := 32) (by omega) h
theorem sum_le {α : Type} {f : α → Nat} {c : Nat} : ∀ {xs : List α}, (∀ x ∈ xs, f x ≤ c) → (xs.map f).sum ≤ xs.length * c
  | [], _ => by simp
  | x :: xs, h => by
    have := sum_le (xs := xs) fun y hy => h y (List.mem_cons_of_mem _ hy)
    have := h x (List.mem_cons_self ..)
    simp only [List.map_cons, List.sum_cons, List.length_cons, Nat.add_mul, Nat.one_mul]
    omega
theorem joinL_mem {S : List Nat} {c : Nat} : ∀ {ps : List (List Nat)}, c ∈ joinL S ps → c ∈ S ∨ ∃ p ∈ ps, c ∈ p
  | [], h => by cases h
  | [p], h => .inr ⟨p, List.mem_singleton.mpr rfl, h⟩
  | p :: q :: r, h => by
    rcases List.mem_append.mp (show c ∈ p ++ (S ++ joinL S (q :: r)) from h) with h | h
    · exact .inr ⟨p, List.mem_cons_self .., h⟩
    · rcases List.mem_append.mp h with h | h
      · exact .inl h
      · rcases joinL_mem h with h | ⟨p', hp', h⟩
        · exact .inl h
        · exact .inr ⟨p', List.mem_cons_of_mem _ hp', h⟩
theorem joinL_ne {S p : List Nat} {ps : List (List Nat)} (h : joinL S (p :: ps) = []) : p = [] := by
  cases ps with
  | nil => exact h
  | cons q r => exact (List.append_eq_nil_iff.mp (show p ++ (S ++ joinL S (q :: r)) = [] from h)).1
/-! ### texts of rules -/
theorem len_app (x y : Str) : (x ++ y).length = x.length + y.length := by rw [len_tl, tl_append, List.length_append, ← len_tl, ← len_tl]
theorem app_assoc (x y z : Str) : x ++ y ++ z = x ++ (y ++ z) := ext_tl (by simp only [tl_append, List.append_assoc])
theorem sw_pre {x y : Str} (hy : tl y ≠ []) : Txt.startswith x y = pre (tl y) (tl x) := by
  have h := at_iff (x := x) hy 0
  rw [List.drop_zero] at h
  cases hp : pre (tl y) (tl x) with
  | true =>
    have := h.mpr hp
    unfold Txt.startswith
    rw [Bool.and_eq_true]
    exact ⟨decide_eq_true this.1, this.2⟩
  | false =>
    cases hs : Txt.startswith x y with
    | false => rfl
    | true =>
      unfold Txt.startswith at hs
      rw [Bool.and_eq_true] at hs
      rw [h.mp ⟨of_decide_eq_true hs.1, hs.2⟩] at hp
      cases hp
abbrev sBl : Str := Str.ofString " "
abbrev sBar : Str := Str.ofString " | "
abbrev sCom : Str := Str.ofString ", "
abbrev sVot : Str := Str.ofString "votes "
theorem tl_bl : tl sBl = [32] := by decide +kernel
theorem tl_bar : tl sBar = [32, 124, 32] := by decide +kernel
theorem tl_com : tl sCom = [44, 32] := by decide +kernel
theorem tl_vot : tl sVot = [118, 111, 116, 101, 115, 32] := by decide +kernel
def wordS (w : Nat) : Str := if w = 0 then "up" else if w = 1 then "down" else if w = 2 then "near" else "ring"
theorem word_free : ∀ w, w < 4 → ∀ c ∈ tl (wordS w), 97 ≤ c ∧ c ≤ 119 := by decide +kernel
theorem word_ne : ∀ w, w < 4 → ∃ c r, tl (wordS w) = c :: r ∧ c ≠ 118 := by
  intro w hw
  have : w = 0 ∨ w = 1 ∨ w = 2 ∨ w = 3 := by omega
  rcases this with rfl | rfl | rfl | rfl
  · exact ⟨117, [112], by decide +kernel, by decide⟩
  · exact ⟨100, [111, 119, 110], by decide +kernel, by decide⟩
  · exact ⟨110, [101, 97, 114], by decide +kernel, by decide⟩
  · exact ⟨114, [105, 110, 103], by decide +kernel, by decide⟩
theorem word_len : ∀ w, w < 4 → (wordS w).length ≤ 4 := by decide +kernel
structure Rec where
  w : Nat
  k : Nat
  n : Int
structure Rec.ok (r : Rec) : Prop where
  w : r.w < 4
  k : r.k < 8
  n : 2 ≤ r.w → 0 ≤ r.n ∧ r.n < 10 ^ 60
  m : r.w = 3 → 1 ≤ r.n
def Rec.rest (r : Rec) : Str := if r.w < 2 then istr r.k else istr r.k ++ sBl ++ istr r.n
def Rec.str (r : Rec) : Str := wordS r.w ++ sBl ++ r.rest
def Rec.r (r : Rec) : R0 := if r.w = 0 then .key [(r.k, true)] else if r.w = 1 then .key [(r.k, false)] else if r.w = 2 then .near r.k r.n else .ring r.k r.n
theorem istr_codes (z : Int) : ∀ c ∈ tl (istr z), c = 45 ∨ (48 ≤ c ∧ c ≤ 57) := by
  intro c hc
  cases z with
  | ofNat n =>
    rw [show Int.ofNat n = (n : Int) from rfl, tl_istr_nat] at hc
    have := numL_digits n c hc
    exact .inr this
  | negSucc n =>
    rw [tl_istr_neg] at hc
    rcases List.mem_cons.mp hc with h | h
    · exact .inl h
    · exact .inr (numL_digits _ c h)
theorem rec_codes {r : Rec} (h : r.ok) : ∀ c ∈ tl r.str, c = 32 ∨ c = 45 ∨ (48 ≤ c ∧ c ≤ 57) ∨ (97 ≤ c ∧ c ≤ 119) := by
  intro c hc
  unfold Rec.str Rec.rest at hc
  rw [tl_append, tl_append, tl_bl] at hc
  rcases List.mem_append.mp hc with hc | hc
  · rcases List.mem_append.mp hc with hc | hc
    · exact .inr (.inr (.inr (word_free _ h.w c hc)))
    · exact .inl (List.mem_singleton.mp hc)
  · split at hc
    · rcases istr_codes _ c hc with e | e
      · exact .inr (.inl e)
      · exact .inr (.inr (.inl e))
    · rw [tl_append, tl_append, tl_bl] at hc
      rcases List.mem_append.mp hc with hc | hc
      · rcases List.mem_append.mp hc with hc | hc
        · rcases istr_codes _ c hc with e | e
          · exact .inr (.inl e)
          · exact .inr (.inr (.inl e))
        · exact .inl (List.mem_singleton.mp hc)
      · rcases istr_codes _ c hc with e | e
        · exact .inr (.inl e)
        · exact .inr (.inr (.inl e))
theorem zok_of {r : Rec} (h : r.ok) (hw : 2 ≤ r.w) : zok60 r.n := ⟨by have := (h.n hw).1; have : (0 : Int) < 10 ^ 60 := by decide +kernel
                                                                      omega, (h.n hw).2⟩
theorem ik_len {k : Nat} (h : k < 8) : (istr (k : Int)).length = 1 := by rw [len_tl, tl_istr_nat, numL_lt (by omega)]; rfl
theorem rest_len {r : Rec} (h : r.ok) : r.rest.length ≤ 70 := by
  unfold Rec.rest
  split
  · rw [ik_len h.k]; omega
  · rename_i hw
    have := istr_len (k := 60) (by decide) (zok_of h (by omega)).1 (zok_of h (by omega)).2
    have e : sBl.length = 1 := by rw [len_tl, tl_bl]; rfl
    rw [len_app, len_app, ik_len h.k, e]
    omega
theorem rec_len {r : Rec} (h : r.ok) : r.str.length ≤ 80 := by
  have := rest_len h
  have := word_len _ h.w
  have e : sBl.length = 1 := by rw [len_tl, tl_bl]; rfl
  unfold Rec.str
  rw [len_app, len_app, e]
  omega
theorem rec_part {r : Rec} (h : r.ok) : Txt.partition r.str sBl = (wordS r.w, sBl, r.rest) := partition_app (s := 32) (S := []) tl_bl fun hc => by
  have := word_free _ h.w _ hc
  omega
theorem rest_part {r : Rec} (hw : 2 ≤ r.w) : Txt.partition r.rest sBl = (istr r.k, sBl, istr r.n) := by
  unfold Rec.rest
  rw [if_neg (by omega)]
  exact partition_app (s := 32) (S := []) tl_bl (free32 _)
/-- bars between parts that have none -/
theorem spl_bars : ∀ {parts : List (List Nat)}, parts ≠ [] → (∀ p ∈ parts, 124 ∉ p) → spl [32, 124, 32] 0 [] (joinL [32, 124, 32] parts) = parts
  | [], h, _ => absurd rfl h
  | [p], _, hp => by
    show spl [32, 124, 32] 0 [] p = [p]
    have := spl_last (S := [32, 124, 32]) (p := p) (acc := []) fun i hi => by
      cases hb : pre [32, 124, 32] (p.drop i) with
      | false => rfl
      | true =>
        have e : (p.drop i).take 3 = [32, 124, 32] := by unfold pre at hb; exact eq_of_beq hb
        exact (hp p (List.mem_singleton.mpr rfl) (List.mem_of_mem_drop (List.mem_of_mem_take (by rw [e]; simp : (124 : Nat) ∈ (p.drop i).take 3)))).elim
    rw [this, List.nil_append]
  | p :: q :: r, _, hp => by
    show spl [32, 124, 32] 0 [] (p ++ ([32, 124, 32] ++ joinL [32, 124, 32] (q :: r))) = p :: q :: r
    have := spl_part (S := [32, 124, 32]) (p := p) (rest := joinL [32, 124, 32] (q :: r)) (acc := []) (by simp) fun i hi => by
      cases hb : pre [32, 124, 32] ((p ++ ([32, 124, 32] ++ joinL [32, 124, 32] (q :: r))).drop i) with
      | false => rfl
      | true =>
        have e : ((p ++ ([32, 124, 32] ++ joinL [32, 124, 32] (q :: r))).drop i).take 3 = [32, 124, 32] := by unfold pre at hb; exact eq_of_beq hb
        have e1 : (p ++ ([32, 124, 32] ++ joinL [32, 124, 32] (q :: r)))[i + 1]? = some 124 := by
          have := congrArg (fun l => l[1]?) e
          simp only [List.getElem?_take, List.getElem?_drop] at this
          simpa using this
        by_cases h1 : i + 1 < p.length
        · rw [List.getElem?_append_left h1] at e1
          exact (hp p (List.mem_cons_self ..) (List.mem_of_getElem? e1)).elim
        · rw [List.getElem?_append_right (by omega), show i + 1 - p.length = 0 by omega] at e1
          simp at e1
    rw [this, List.nil_append, spl_bars (by simp) fun z hz => hp z (List.mem_cons_of_mem _ hz)]
theorem split_bars {parts : List Str} (hne : parts ≠ []) (hp : ∀ p ∈ parts, 124 ∉ tl p) : Txt.split (Txt.join sBar parts) sBar = parts := by
  refine map_tl_inj ?_
  rw [split_spl _ sBar (by rw [tl_bar]; simp) (kind_ok (by decide +kernel)), join_eq, tl_join, tl_bar]
  refine spl_bars (fun e => hne (List.map_eq_nil_iff.mp e)) fun p h => ?_
  obtain ⟨z, hz, rfl⟩ := List.mem_map.mp h
  exact hp z hz
/-- a part of a rule's text -/
inductive Pt where
  | one (r : Rec)
  | votes (rs : List Rec)
def Pt.str : Pt → Str
  | .one r => r.str
  | .votes rs => sVot ++ Txt.join sBar (rs.map Rec.str)
def Pt.ok : Pt → Prop
  | .one r => r.ok
  | .votes rs => rs ≠ [] ∧ rs.length ≤ 3 ∧ ∀ r ∈ rs, r.ok
def Pt.r : Pt → R1
  | .one r => .one r.r
  | .votes rs => .votes (rs.map Rec.r)
theorem rec_novote {r : Rec} (h : r.ok) : Txt.startswith r.str sVot = false := by
  obtain ⟨c, t, e, hc⟩ := word_ne _ h.w
  rw [sw_pre (by rw [tl_vot]; simp), tl_vot]
  unfold Rec.str pre
  rw [tl_append, tl_append, e]
  rw [beq_eq_false_iff_ne]
  intro z
  simp at z
  exact hc z.1
theorem vote_sw (x : Str) : Txt.startswith (sVot ++ x) sVot = true := by
  rw [sw_pre (by rw [tl_vot]; simp), tl_append]
  exact pre_self _ _
theorem vote_cut (x : Str) : cutS (sVot ++ x) (some 6) none = x := ext_tl (by
  unfold cutS
  change List.take _ (List.drop _ (tl (sVot ++ x))) = _
  rw [len_tl, tl_append, tl_vot]
  simp [HT.sIx]
  exact List.take_of_length_le (by simp [tl]))
theorem votes_len {rs : List Rec} (h : rs.length ≤ 3) (k : ∀ r ∈ rs, r.ok) : (Txt.join sBar (rs.map Rec.str)).length ≤ 300 := by
  rw [join_eq]
  have h0 := StrLaws.join_length_le sBar (rs.map Rec.str)
  have h1 : ((rs.map Rec.str).map (·.length)).sum ≤ (rs.map Rec.str).length * 80 := sum_le fun x hx => by
    obtain ⟨z, hm, rfl⟩ := List.mem_map.mp hx
    exact rec_len (k z hm)
  have h2 : sBar.length = 3 := by rw [len_tl, tl_bar]; rfl
  rw [h2] at h0
  rw [List.length_map] at h0 h1
  omega
theorem pt_len {p : Pt} (h : p.ok) : p.str.length ≤ 310 := by
  cases p with
  | one r => exact Nat.le_trans (rec_len h) (by decide)
  | votes rs =>
    have := votes_len h.2.1 h.2.2
    have h2 : sVot.length = 6 := by rw [len_tl, tl_vot]; rfl
    show (sVot ++ Txt.join sBar (rs.map Rec.str)).length ≤ 310
    rw [len_app, h2]
    omega
theorem pt_codes {p : Pt} (h : p.ok) : 44 ∉ tl p.str := by
  cases p with
  | one r => intro hc; have := rec_codes h _ hc; omega
  | votes rs =>
    intro hc
    have hc : 44 ∈ tl (sVot ++ Txt.join sBar (rs.map Rec.str)) := hc
    rw [tl_append, tl_vot, join_eq, tl_join, tl_bar] at hc
    rcases List.mem_append.mp hc with hc | hc
    · simp at hc
    · rcases joinL_mem hc with hc | ⟨q, hq, hc⟩
      · simp at hc
      · obtain ⟨x, hx, rfl⟩ := List.mem_map.mp hq
        obtain ⟨r, hr, rfl⟩ := List.mem_map.mp hx
        have := rec_codes (h.2.2 r hr) _ hc
        omega
theorem pt_ne {p : Pt} (h : p.ok) : tl p.str ≠ [] := by
  cases p with
  | one r =>
    obtain ⟨c, t, e, hc⟩ := word_ne _ h.w
    show tl (wordS r.w ++ sBl ++ r.rest) ≠ []
    rw [tl_append, tl_append, e]
    simp
  | votes rs =>
    show tl (sVot ++ Txt.join sBar (rs.map Rec.str)) ≠ []
    rw [tl_append, tl_vot]
    simp
def ruleS (ps : List Pt) : Str := Txt.join sCom (ps.map Pt.str)
theorem split_rule {ps : List Pt} (hne : ps ≠ []) (h : ∀ p ∈ ps, p.ok) : Txt.split (ruleS ps) sCom = ps.map Pt.str :=
  split_join (s := 44) (S := [32]) tl_com (by decide +kernel) (by simpa using hne) fun q hq => by
    obtain ⟨p, hp, rfl⟩ := List.mem_map.mp hq
    exact pt_codes (h p hp)
theorem rule_len {ps : List Pt} (hl : ps.length ≤ 60) (h : ∀ p ∈ ps, p.ok) : (ruleS ps).length ≤ 19000 := by
  unfold ruleS
  rw [join_eq]
  have h0 := StrLaws.join_length_le sCom (ps.map Pt.str)
  have h1 : ((ps.map Pt.str).map (·.length)).sum ≤ (ps.map Pt.str).length * 310 := sum_le fun x hx => by
    obtain ⟨z, hm, rfl⟩ := List.mem_map.mp hx
    exact pt_len (h z hm)
  have h2 : sCom.length = 2 := by rw [len_tl, tl_com]; rfl
  rw [h2] at h0
  rw [List.length_map] at h0 h1
  omega
theorem rule_ne {ps : List Pt} (hne : ps ≠ []) (h : ∀ p ∈ ps, p.ok) : ruleS ps ≠ Str.ofString "" := by
  intro e
  have e2 : tl (ruleS ps) = [] := by rw [e]; decide +kernel
  unfold ruleS at e2
  rw [join_eq, tl_join] at e2
  cases ps with
  | nil => exact hne rfl
  | cons p r => exact pt_ne (h p (List.mem_cons_self ..)) (joinL_ne e2)
/-! ### a heap without some addresses -/
def hid (L : List Addr) (H : Hp) : Hp := fun b => if b ∈ L then none else H b
theorem hid_at {L : List Addr} {b : Addr} {H : Hp} {o : HO} (n : b ∉ L) (h : H b = some o) : hid L H b = some o := by unfold hid; rw [if_neg n]; exact h
theorem hid_nil {H : Hp} : hid [] H = H := by funext b; unfold hid; rw [if_neg (by simp)]
theorem hid_upd {L : List Addr} {D : Addr} {H : Hp} {o : HO} (h : D ∈ L) : hid L (upd H D o) = hid L H := by
  funext b
  unfold hid
  by_cases hb : b ∈ L
  · rw [if_pos hb, if_pos hb]
  · rw [if_neg hb, if_neg hb, upd_ne (fun z => hb (by rw [z]; exact h))]
theorem hid_mono {L : List Addr} {H H' : Hp} (S : Stp [] H H') : Stp [] (hid L H) (hid L H') := ⟨fun b o e _ => by
  unfold hid at e ⊢
  by_cases hb : b ∈ L
  · rw [if_pos hb] at e; cases e
  · rw [if_neg hb] at e ⊢; exact S.keep0 e, fun b e => by
  unfold hid at e ⊢
  by_cases hb : b ∈ L
  · rw [if_pos hb]
  · rw [if_neg hb] at e ⊢; exact S.dom b e⟩
theorem hid_drop {L L' : List Addr} {H : Hp} (h : ∀ b ∈ L, b ∈ L') : Stp [] (hid L' H) (hid L H) := ⟨fun b o e _ => by
  unfold hid at e ⊢
  by_cases hb : b ∈ L'
  · rw [if_pos hb] at e; cases e
  · rw [if_neg hb] at e; rw [if_neg fun z => hb (h b z)]; exact e, fun b e => by
  unfold hid at e ⊢
  by_cases hb : b ∈ L'
  · rw [if_pos hb]
  · rw [if_neg hb]; rw [if_neg fun z => hb (h b z)] at e; exact e⟩
/-- the addresses of a list are all taken -/
def Took (H : Hp) (L : List Addr) : Prop := ∀ D ∈ L, H D ≠ none
theorem Took.stp {H H' : Hp} {L : List Addr} (h : Took H L) (S : Stp [] H H') : Took H' L := fun D hD z => h D hD (S.dom D z)
theorem Took.cons {H : Hp} {L : List Addr} {D : Addr} {o : HO} (h : Took H L) (k : H D = some o) : Took H (D :: L) := fun E hE => by
  rcases List.mem_cons.mp hE with rfl | z
  · rw [k]; simp
  · exact h E z
theorem Took.nil {H : Hp} : Took H [] := fun D hD => by cases hD
theorem Took.not {H : Hp} {L : List Addr} {b : Addr} (h : Took H L) (k : H b = none) : b ∉ L := fun z => h b z k
def sp_key_in (K : PySem.W.Frag) (A : Ad) : Sp := fun vs H Q _ => ∃ (k : Nat), vs = [.str (istr k)] ∧ k < 8 ∧ Q (.int k) H
theorem key_facts : ∀ k, k < 8 → (istr ((k : Nat) : Int)).length = 1 ∧ (Builtin.Str.occurrences (Str.ofString "01234567") (istr ((k : Nat) : Int)) 0 (Str.ofString "01234567").length 1).isEmpty = false ∧ intText? (istr ((k : Nat) : Int)) = some ((k : Nat) : Int) := by decide +kernel
theorem ok_key_in {P : Program} {w : World} {K : PySem.W.Frag} {mg : Str → Option Value} {base : Heap} {A : Ad} {f : Addr} {fd : FuncData} (F : Fun K "key_in" "key_in" s_key_in f fd) (T : Txt K mg A)  : FnOk P w K mg base CX0 1 f fd ["word"] (sp_key_in K A) := by
  refine F.ok sc_key_in (fun vs H Q E h => by obtain ⟨_, rfl, _⟩ := h; rfl) (fun cdv A' outer s H vs Q E hr h => ?_)
  obtain ⟨j, rfl, hj, k⟩ := h
  refine ⟨_, (pss_cons (ps_if (PW.pt (pw_or (pt_cmpR (SH.oNe hr.units) (pe_callB SH.cLen (by rfl) T.z_len (by decide +kernel) (pa_cons (pv 0) pa_nil)) pe_int (nomark _)) (pw_or1 (pt_cmpR op_notin_str (pv 0) pe_str (by rfl))))) (pss_one ps_never) pss_nil)
        (pss_one (ps_ret (pe_callTy call_int_str (by rfl) T.z_int (by decide +kernel) (pa_cons (pv 0) pa_nil))))), ?_⟩
  walk_at "begin"
  obtain ⟨f1, f2, f3⟩ := key_facts j hj
  walk_at "rd"
  refine ⟨by rw [f1]; decide, ?_⟩
  walk_at "rd"
  refine r_nwF (by rw [f1]; rfl) ?_
  walk_at "rd"
  refine ⟨_, _, rfl, rfl, ?_⟩
  rw [f2, show (!(!false)) = false from rfl]
  walk_at "rd"
  exact ⟨_, _, rfl, f3, by rw [f1]; decide, k⟩
def sp_plain_rule (K : PySem.W.Frag) (A : Ad) : Sp := fun vs H Q _ => ∃ (r : Rec), vs = [.str r.str] ∧ r.ok ∧ ∀ u H', H u = none → Stp [] H H' → (∀ L, Took H L → R0.At K A (hid L H') u r.r) → Q (.ref u) H'
theorem key1 {K : PySem.W.Frag} {H : Hp} {t : Addr} {c : Nat × Bool} (h : H t = some (.tup [.int c.1, .str (wayS c.2)])) : Cols K H [.ref t] [c] := ⟨rfl, fun j v e => by
  match j, e with
  | 0, e => cases e; exact ⟨t, c, rfl, rfl, h⟩⟩
theorem wordS_is : (decide (wordS 0 = "up") = true ∧ decide (wordS 1 = "up") = false ∧ decide (wordS 1 = "down") = true ∧ decide (wordS 2 = "up") = false ∧ decide (wordS 2 = "down") = false ∧ decide (wordS 2 = "near") = true ∧ decide (wordS 3 = "up") = false ∧ decide (wordS 3 = "down") = false ∧ decide (wordS 3 = "near") = false ∧ decide (wordS 3 = "ring") = true) := by decide +kernel
theorem wordS_way : wordS 0 = wayS true ∧ wordS 1 = wayS false := by decide +kernel
theorem ok_plain_rule {P : Program} {w : World} {K : PySem.W.Frag} {mg : Str → Option Value} {base : Heap} {A : Ad} {f : Addr} {fd : FuncData} (F : Fun K "plain_rule" "plain_rule" s_plain_rule f fd) (T : Txt K mg A) (C_key_in : SH.Cal P w K mg base CX0 1 "key_in" [] (sp_key_in K A)) (N_KeyRule : SH.CalC P w K mg base CX0 2 "KeyRule" A.KeyRule [] (sp_KeyRule___init__ K A)) (N_NearRule : SH.CalC P w K mg base CX0 2 "NearRule" A.NearRule [] (sp_NearRule___init__ K A)) (N_RingRule : SH.CalC P w K mg base CX0 2 "RingRule" A.RingRule [] (sp_RingRule___init__ K A)) (C_number_in : SH.Cal P w K mg base CX0 1 "number_in" [] (sp_number_in K A)) : FnOk P w K mg base CX0 4 f fd ["text"] (sp_plain_rule K A) := by
  refine F.ok sc_plain_rule (fun vs H Q E h => by obtain ⟨_, rfl, _⟩ := h; rfl) (fun cdv A' outer s H vs Q E hr h => ?_)
  obtain ⟨r, rfl, hok, k⟩ := h
  refine ⟨_, (pss_cons (ps_asg (pe_bm PySem.F.plainAttrs_str PySem.F.slot_str_partition PySem.F.type_str_partition mt_partition (pv 0) (pa_cons pe_str pa_nil)) (pg_tup (by rfl) (pgs_cons (pg_name (i := 1) sc_plain_rule.nd rfl (Or.inl rfl)) (pgs_cons (pg_name (i := 2) sc_plain_rule.nd rfl (Or.inl rfl)) (pgs_cons (pg_name (i := 3) sc_plain_rule.nd rfl (Or.inl rfl)) pgs_nil)))))
        (pss_cons (ps_if (PW.pt (pw_or (pt_cmpR (SH.oEq hr.units) (pv 1) pe_str (nomark _)) (pw_or1 (pt_cmpR (SH.oEq hr.units) (pv 1) pe_str (nomark _))))) (pss_one (ps_ret (SH.pe_makeF N_KeyRule hr (by rfl) pass0 (pa_cons (pe_lst (pa_cons (pe_tup (pa_cons (SH.pe_callF C_key_in hr (by rfl) pass0 (pa_cons (pv 3) pa_nil)) (pa_cons (pv 1) pa_nil))) pa_nil)) pa_nil)))) pss_nil)
        (pss_cons (ps_asg (pe_bm PySem.F.plainAttrs_str PySem.F.slot_str_partition PySem.F.type_str_partition mt_partition (pv 3) (pa_cons pe_str pa_nil)) (pg_tup (by rfl) (pgs_cons (pg_name (i := 4) sc_plain_rule.nd rfl (Or.inl rfl)) (pgs_cons (pg_name (i := 2) sc_plain_rule.nd rfl (Or.inl rfl)) (pgs_cons (pg_name (i := 5) sc_plain_rule.nd rfl (Or.inl rfl)) pgs_nil)))))
        (pss_cons (ps_set (i := 6) sc_plain_rule.nd rfl (Or.inl rfl) (SH.pe_callF C_number_in hr (by rfl) pass0 (pa_cons (pv 5) pa_nil)))
        (pss_cons (ps_if (pt_cmpR SH.oIsN (pv 6) pe_non (nomark _)) (pss_one ps_never) pss_nil)
        (pss_cons (ps_if (pt_cmpR (SH.oEq hr.units) (pv 1) pe_str (nomark _)) (pss_one (ps_ret (SH.pe_makeF N_NearRule hr (by rfl) pass0 (pa_cons (SH.pe_callF C_key_in hr (by rfl) pass0 (pa_cons (pv 4) pa_nil)) (pa_cons (pv 6) pa_nil))))) pss_nil)
        (pss_cons (ps_if (pt_cmpR (SH.oEq hr.units) (pv 1) pe_str (nomark _)) (pss_one (ps_ret (SH.pe_makeF N_RingRule hr (by rfl) pass0 (pa_cons (SH.pe_callF C_key_in hr (by rfl) pass0 (pa_cons (pv 4) pa_nil)) (pa_cons (pv 6) pa_nil))))) pss_nil)
        (pss_one ps_never)))))))), ?_⟩
  walk_at "begin"
  obtain ⟨w0, w1, w2, w3, w4, w5, w6, w7, w8, w9⟩ := wordS_is
  have hk8 := hok.k
  walk_at "rd"
  refine ⟨ty_str, ?_⟩
  walk_at "rd"
  refine ⟨_, _, rfl, rfl, by decide +kernel, Nat.le_trans (m := 1000) (by have := rec_len hok; omega) (by decide), fun p hp => ?_⟩
  rw [rec_part hok]
  have S0 := (Stp.refl [] H).new (o := .tup [.str (wordS r.w), .str sBl, .str r.rest]) hp
  have hp0 := upd_same (H := H) (a := p) (o := .tup [.str (wordS r.w), .str sBl, .str r.rest])
  generalize upd H p (.tup [.str (wordS r.w), .str sBl, .str r.rest]) = H0 at S0 hp0 ⊢
  walk_at "rd"
  have : r.w = 0 ∨ r.w = 1 ∨ r.w = 2 ∨ r.w = 3 := by have := hok.w; omega
  obtain ⟨w', kk, n⟩ := r
  have hk8 : kk < 8 := hk8
  have keyend : ∀ (b : Bool) (H1 : Hp) (t : Addr) (R : VK), Stp [] H0 H1 → H0 t = none → H1 t = some (.tup [.int kk, .str (wayS b)]) → (∀ u H', H u = none → Stp [] H H' → (∀ L, Took H L → R0.At K A (hid L H') u (.key [(kk, b)])) → R (.ref u) H') →
      ∀ q, H1 q = none → ∀ u du, upd H1 q (.lst [.ref t]) u = none → upd H1 q (.lst [.ref t]) du = none → du ≠ u → sp_KeyRule___init__ K A ([.ref u, .ref q]) (upd (upd (upd H1 q (.lst [.ref t])) du (.own u)) u (.ins A.KeyRule du [])) (fun v H2 => v = .non ∧ R (.ref u) H2) E0 := by
    intro b H1 t R S1 ht0 ht1 hR q hq u du hu hdu hne
    have S2 := (Stp.refl [] H1).new (o := .lst [.ref t]) hq
    have hq2 := upd_same (H := H1) (a := q) (o := .lst [.ref t])
    have ht2 := S2.keep0 ht1
    generalize upd H1 q (.lst [.ref t]) = H2 at S2 hq2 ht2 hu hdu ⊢
    have S5 : Stp [] H2 (upd (upd H2 du (.own u)) u (.ins A.KeyRule du [])) := ((Stp.refl [] H2).new hdu).new (by rw [upd_ne hne.symm]; exact hu)
    refine ⟨u, q, [.ref t], [(kk, b)], rfl, ⟨du, upd_same⟩, ⟨S5.sql0 (SqL.of hq2), key1 (S5.keep0 ht2), by simp, fun c' hc' => by rw [List.mem_singleton] at hc'; subst hc'; exact hk8⟩, fun dx l H7 hl hul2 hu7 hl7 S7 => ⟨rfl, ?_⟩⟩
    have S27 : Stp [] H2 H7 := S5.then S7 (by simp; exact hu)
    have S := (S0.trans S1).trans (S2.trans S27)
    exact hR u H7 (S0.dom _ (S1.dom _ (S2.dom _ hu))) S (fun L hL => .key (hid_at (hL.not (S0.dom _ (S1.dom _ (S2.dom _ hu)))) hu7) (hid_at (hL.not (S0.dom _ (S1.dom _ (S2.dom _ (S5.dom _ hl))))) hl7) (key1 (hid_at (hL.not (S0.dom _ ht0)) (S27.keep0 ht2))))
  rcases this with h | h | h | h
  · have h : w' = 0 := h
    subst h
    refine v_eqS ?_
    rw [show decide (wordS (Rec.mk 0 kk n).w = "up") = true from w0]
    walk_at "rd"
    refine ⟨kk, rfl, hk8, ?_⟩
    walk_at "rd"
    intro t ht
    have S1 := (Stp.refl [] H0).new (o := .tup [.int kk, .str (wordS 0)]) ht
    have ht1 : upd H0 t (.tup [.int kk, .str (wordS 0)]) t = some (.tup [.int kk, .str (wayS true)]) := by rw [upd_same, wordS_way.1]
    change _ at S1
    generalize hH1 : upd H0 t (.tup [.int kk, .str (wordS 0)]) = H1 at S1 ht1
    walk_at "rd"
    intro q hq
    walk_at "rd"
    intro u du hu hdu hne
    exact keyend true H1 t _ S1 ht ht1 k q hq u du hu hdu hne
  · have h : w' = 1 := h
    subst h
    refine v_eqS ?_
    rw [show decide (wordS (Rec.mk 1 kk n).w = "up") = false from w1]
    walk_at "rd"
    refine v_eqS ?_
    rw [show decide (wordS (Rec.mk 1 kk n).w = "down") = true from w2]
    walk_at "rd"
    refine ⟨kk, rfl, hk8, ?_⟩
    walk_at "rd"
    intro t ht
    have S1 := (Stp.refl [] H0).new (o := .tup [.int kk, .str (wordS 1)]) ht
    have ht1 : upd H0 t (.tup [.int kk, .str (wordS 1)]) t = some (.tup [.int kk, .str (wayS false)]) := by rw [upd_same, wordS_way.2]
    change _ at S1
    generalize hH1 : upd H0 t (.tup [.int kk, .str (wordS 1)]) = H1 at S1 ht1
    walk_at "rd"
    intro q hq
    walk_at "rd"
    intro u du hu hdu hne
    exact keyend false H1 t _ S1 ht ht1 k q hq u du hu hdu hne
  · have h : w' = 2 := h
    subst h
    have hz := zok_of hok (Nat.le_refl 2)
    refine v_eqS ?_
    rw [show decide (wordS (Rec.mk 2 kk n).w = "up") = false from w3]
    walk_at "rd"
    refine v_eqS ?_
    rw [show decide (wordS (Rec.mk 2 kk n).w = "down") = false from w4]
    walk_at "rd"
    refine ⟨ty_str, ?_⟩
    walk_at "rd"
    refine ⟨_, _, rfl, rfl, by decide +kernel, Nat.le_trans (m := 1000) (by have := rest_len hok; omega) (by decide), fun p2 hp2 => ?_⟩
    rw [rest_part (Nat.le_refl 2)]
    have S1 := (Stp.refl [] H0).new (o := .tup [.str (istr kk), .str sBl, .str (istr n)]) hp2
    have hp21 := upd_same (H := H0) (a := p2) (o := .tup [.str (istr kk), .str sBl, .str (istr n)])
    change Stp [] H0 (upd H0 p2 (.tup [.str (istr kk), .str sBl, .str (istr n)])) at S1
    generalize upd H0 p2 (.tup [.str (istr kk), .str sBl, .str (istr n)]) = H1 at S1 hp21 ⊢
    walk_at "rd"
    refine ⟨n, rfl, hz, ?_⟩
    walk_at "rd"
    rw [if_neg (by simp)]
    walk_at "rd"
    refine v_eqS ?_
    rw [show decide (wordS (Rec.mk 2 kk n).w = "near") = true from w5]
    walk_at "rd"
    refine ⟨kk, rfl, hk8, ?_⟩
    walk_at "rd"
    intro u du hu hdu hne
    refine ⟨u, kk, n, rfl, ⟨du, upd_same⟩, ⟨by omega, by omega, (hok.n (Nat.le_refl 2)).1⟩, fun dx => ⟨rfl, ?_⟩⟩
    rw [upd_upd]
    have S5 : Stp [] H1 (upd (upd H1 du (.own u)) u (.ins A.NearRule dx [("at", .int kk), ("gap", .int n)])) := ((Stp.refl [] H1).new hdu).new (by rw [upd_ne hne.symm]; exact hu)
    exact k u _ (S0.dom _ (S1.dom _ hu)) ((S0.trans S1).trans S5) (fun L hL => .near (hid_at (hL.not (S0.dom _ (S1.dom _ hu))) upd_same))
  · have h : w' = 3 := h
    subst h
    have hz := zok_of hok (show 2 ≤ 3 by decide)
    refine v_eqS ?_
    rw [show decide (wordS (Rec.mk 3 kk n).w = "up") = false from w6]
    walk_at "rd"
    refine v_eqS ?_
    rw [show decide (wordS (Rec.mk 3 kk n).w = "down") = false from w7]
    walk_at "rd"
    refine ⟨ty_str, ?_⟩
    walk_at "rd"
    refine ⟨_, _, rfl, rfl, by decide +kernel, Nat.le_trans (m := 1000) (by have := rest_len hok; omega) (by decide), fun p2 hp2 => ?_⟩
    rw [rest_part (show 2 ≤ 3 by decide)]
    have S1 := (Stp.refl [] H0).new (o := .tup [.str (istr kk), .str sBl, .str (istr n)]) hp2
    have hp21 := upd_same (H := H0) (a := p2) (o := .tup [.str (istr kk), .str sBl, .str (istr n)])
    change Stp [] H0 (upd H0 p2 (.tup [.str (istr kk), .str sBl, .str (istr n)])) at S1
    generalize upd H0 p2 (.tup [.str (istr kk), .str sBl, .str (istr n)]) = H1 at S1 hp21 ⊢
    walk_at "rd"
    refine ⟨n, rfl, hz, ?_⟩
    walk_at "rd"
    rw [if_neg (by simp)]
    walk_at "rd"
    refine v_eqS ?_
    rw [show decide (wordS (Rec.mk 3 kk n).w = "near") = false from w8]
    walk_at "rd"
    refine v_eqS ?_
    rw [show decide (wordS (Rec.mk 3 kk n).w = "ring") = true from w9]
    walk_at "rd"
    refine ⟨kk, rfl, hk8, ?_⟩
    walk_at "rd"
    intro u du hu hdu hne
    have hm := hok.m rfl
    refine ⟨u, kk, n, rfl, ⟨du, upd_same⟩, ⟨by omega, by omega, hm⟩, fun dx => ⟨rfl, ?_⟩⟩
    rw [upd_upd]
    have S5 : Stp [] H1 (upd (upd H1 du (.own u)) u (.ins A.RingRule dx [("at", .int kk), ("size", .int n)])) := ((Stp.refl [] H1).new hdu).new (by rw [upd_ne hne.symm]; exact hu)
    exact k u _ (S0.dom _ (S1.dom _ hu)) ((S0.trans S1).trans S5) (fun L hL => .ring (hid_at (hL.not (S0.dom _ (S1.dom _ hu))) upd_same) hm)
def sp_part_rule (K : PySem.W.Frag) (A : Ad) : Sp := fun vs H Q _ => ∃ (p : Pt), vs = [.str p.str] ∧ p.ok ∧ ∀ u H', H u = none → Stp [] H H' → (∀ L, Took H L → R1.At K A (hid L H') u p.r) → Q (.ref u) H'
theorem ok_part_rule {P : Program} {w : World} {K : PySem.W.Frag} {mg : Str → Option Value} {base : Heap} {A : Ad} {f : Addr} {fd : FuncData} (F : Fun K "part_rule" "part_rule" s_part_rule f fd) (T : Txt K mg A) (N_VoteRule : SH.CalC P w K mg base CX0 1 "VoteRule" A.VoteRule [] (sp_VoteRule___init__ K A)) (C_plain_rule : SH.Cal P w K mg base CX0 4 "plain_rule" [] (sp_plain_rule K A)) : FnOk P w K mg base CX0 5 f fd ["text"] (sp_part_rule K A) := by
  refine F.ok sc_part_rule (fun vs H Q E h => by obtain ⟨_, rfl, _⟩ := h; rfl) (fun cdv A' outer s H vs Q E hr h => ?_)
  obtain ⟨p, rfl, hok, k⟩ := h
  refine ⟨_, (pss_cons (ps_if (pt_val (pe_bm PySem.F.plainAttrs_str PySem.F.slot_str_startswith PySem.F.type_str_startswith mt_startswith (pv 0) (pa_cons pe_str pa_nil))) (pss_one (ps_ret (SH.pe_makeF N_VoteRule hr (by rfl) pass0 (pa_cons (pe_lc (own := [("part", 1)]) (g := (gName 1)) (tt := tYes) (by rfl) sc_part_rule.nd (pi_list (pe_bm PySem.F.plainAttrs_str PySem.F.slot_str_split PySem.F.type_str_split mt_split (pe_slice sl_str (pv 0) (po_some pe_int) po_none) (pa_cons pe_str pa_nil))) (blkOk_by (own := [("part", 1)]) (N := ["text", "part"]) (sc := defScope s_part_rule) (by decide +kernel)) (fun _ _ _ _ _ => (pg_name (i := 1) sc_part_rule.nd rfl (Or.inl rfl))) (fun _ _ _ _ _ => pts_nil) (fun _ _ _ _ _ => (SH.pe_callF C_plain_rule hr (by rfl) pass0 (pa_cons (pv 1) pa_nil)))) pa_nil)))) pss_nil)
        (pss_one (ps_ret (SH.pe_callF C_plain_rule hr (by rfl) pass0 (pa_cons (pv 0) pa_nil))))), ?_⟩
  walk_at "begin"
  walk_at "rd"
  refine ⟨ty_str, ?_⟩
  walk_at "rd"
  refine ⟨_, _, rfl, rfl, ?_⟩
  cases p with
  | one r =>
    rw [show Txt.startswith (Pt.one r).str (Str.ofString "votes ") = false from rec_novote hok]
    walk_at "rd"
    exact ⟨r, rfl, hok, fun u H' hu S hA => k u H' hu S fun L hL => .one (hA L hL)⟩
  | votes rs =>
    obtain ⟨hne, hl3, hall⟩ := hok
    rw [show Txt.startswith (Pt.votes rs).str (Str.ofString "votes ") = true from vote_sw _]
    walk_at "rd"
    refine ⟨_, rfl, Nat.le_trans (m := 1000) (by have := pt_len (p := .votes rs) ⟨hne, hl3, hall⟩; omega) (by decide), ?_⟩
    rw [show cutS (Pt.votes rs).str (some 6) none = Txt.join sBar (rs.map Rec.str) from vote_cut _]
    refine ⟨ty_str, ?_⟩
    walk_at "rd"
    refine ⟨_, _, rfl, rfl, by decide +kernel, Nat.le_trans (m := 1000) (by have := votes_len hl3 hall; omega) (by decide), ?_⟩
    rw [show Txt.split (Txt.join sBar (rs.map Rec.str)) (Str.ofString " | ") = rs.map Rec.str from split_bars (by simpa using hne) fun x hx => by
      obtain ⟨r, hr, rfl⟩ := List.mem_map.mp hx
      intro hc
      have := rec_codes (hall r hr) _ hc
      omega]
    intro w' hw'
    have S0 := (Stp.refl [] H).new (o := .lst ((rs.map Rec.str).map V.str)) hw'
    have hw0 := upd_same (H := H) (a := w') (o := .lst ((rs.map Rec.str).map V.str))
    generalize upd H w' (.lst ((rs.map Rec.str).map V.str)) = H0 at S0 hw0 ⊢
    walk_at "rd"
    intro D hD
    refine lc_it (walk_list (xs := (rs.map Rec.str).map V.str)) (fun j H' => Stp [] H0 H' ∧ ∃ uvs, H' D = some (.lst uvs) ∧ ∀ L, Took H L → RsAt K A (hid (D :: L) H') uvs ((rs.take j).map Rec.r)) ⟨(Stp.refl _ _).new hD, [], upd_same, fun L _ => RsAt.nil⟩ (fun j H' _ z => z.1.sql0 (SqL.of hw0)) ?_ ?_
    · rintro j x H3 H4 hj ⟨S, uvs, hL, hR⟩ ⟨rfl, hx⟩
      obtain ⟨y, hy, rfl⟩ := map_at hx
      obtain ⟨r, hr', rfl⟩ : ∃ r, rs[j]? = some r ∧ r.str = y := by rw [List.getElem?_map] at hy; exact Option.map_eq_some_iff.mp hy
      have hul := (hR [] Took.nil).len
      walk_at "rd"
      refine ⟨r, rfl, hall r (List.mem_of_getElem? hr'), fun u H5 hu S5 hA => ?_⟩
      refine ⟨uvs, S5.keep0 hL, Nat.lt_of_le_of_lt (m := 1000) (by rw [hul, List.length_map, List.length_take]; omega) (by decide), (S.trans S5).putN hD, uvs ++ [.ref u], upd_same, fun L hT => ?_⟩
      rw [hid_upd (List.mem_cons_self ..), take_snoc hr', List.map_append]
      exact RsAt.snoc ((hR L hT).stp (hid_mono S5) (by simp)) (hA (D :: L) ((hT.stp (S0.trans S)).cons hL))
    rintro H2 ⟨S, uvs, hL, hR⟩
    rw [List.length_map, List.length_map, List.take_length] at hR
    walk_at "rd"
    intro u du hu hdu hne2
    have S5 : Stp [] H2 (upd (upd H2 du (.own u)) u (.ins A.VoteRule du [])) := ((Stp.refl [] H2).new hdu).new (by rw [upd_ne hne2.symm]; exact hu)
    refine ⟨u, D, uvs, rfl, ⟨du, upd_same⟩, S5.sql0 (SqL.of hL), fun dx l H7 hl hul2 hu7 hl7 S7 => ⟨rfl, ?_⟩⟩
    have S27 : Stp [] H2 H7 := S5.then S7 (by simp; exact hu)
    have S02 := S0.trans S
    refine k u _ (S02.dom _ hu) (S02.trans S27) fun L hT => .votes (hid_at (hT.not (S02.dom _ hu)) hu7) (hid_at (hT.not (S02.dom _ (S5.dom _ hl))) hl7) ?_
    exact ((hR L hT).stp (hid_drop fun b hb => List.mem_cons_of_mem _ hb) (by simp)).stp (hid_mono S27) (by simp)
/-! ### a rule that was read -/
inductive RT.At (K : PySem.W.Frag) (A : Ad) (H : Hp) (u : Addr) : List R1 → Prop
  | plain {d : Addr} (h : H u = some (.ins A.Rule d [])) : RT.At K A H u []
  | part {r : R1} (h : R1.At K A H u r) : RT.At K A H u [r]
  | chain {d l : Addr} {uvs : List V} {rs : List R1} (h : H u = some (.ins A.ChainRule d [("rules", .ref l)])) (hl : H l = some (.lst uvs)) (hR : PsAt K A H uvs rs) : RT.At K A H u rs
theorem RT.At.stp {K : PySem.W.Frag} {A : Ad} {M : List Addr} {H H' : Hp} {u : Addr} {r : List R1} (h : RT.At K A H u r) (S : Stp M H H') (hM : ∀ m ∈ M, H m = none) : RT.At K A H' u r := by
  have keep : ∀ {a : Addr} {o : HO}, H a = some o → H' a = some o := fun {a o} e => S.keep e fun z => by rw [hM _ z] at e; cases e
  cases h with
  | plain h => exact .plain (keep h)
  | part h => exact .part (h.stp S hM)
  | chain h hl hR => exact .chain (keep h) (keep hl) (hR.stp S hM)
def sp_Rule_before (K : PySem.W.Frag) (A : Ad) : Sp := fun vs H Q _ => ∃ (u x y : Addr), vs = [.ref u, .ref x, .ref y] ∧ Q (.bl false) H
theorem ok_Rule_before {P : Program} {w : World} {K : PySem.W.Frag} {mg : Str → Option Value} {base : Heap} {A : Ad} {f : Addr} {fd : FuncData} (F : Fun K "before" "Rule.before" s_Rule_before f fd) (T : Txt K mg A)  : FnOk P w K mg base CX0 1 f fd ["self", "x", "y"] (sp_Rule_before K A) := by
  refine F.ok sc_Rule_before (fun vs H Q E h => by obtain ⟨_, _, _, rfl, _⟩ := h; rfl) (fun cdv A' outer s H vs Q E hr h => ?_)
  obtain ⟨u, x, y, rfl, k⟩ := h
  refine ⟨_, (pss_one (ps_ret pe_bl)), ?_⟩
  walk_at "begin"
  walk_at "rd"
  exact k
def sp_Rule_widest (K : PySem.W.Frag) (A : Ad) : Sp := fun vs H Q _ => ∃ (u : Addr), vs = [.ref u] ∧ Q (.int (-1)) H
theorem ok_Rule_widest {P : Program} {w : World} {K : PySem.W.Frag} {mg : Str → Option Value} {base : Heap} {A : Ad} {f : Addr} {fd : FuncData} (F : Fun K "widest" "Rule.widest" s_Rule_widest f fd) (T : Txt K mg A)  : FnOk P w K mg base CX0 1 f fd ["self"] (sp_Rule_widest K A) := by
  refine F.ok sc_Rule_widest (fun vs H Q E h => by obtain ⟨_, rfl, _⟩ := h; rfl) (fun cdv A' outer s H vs Q E hr h => ?_)
  obtain ⟨u, rfl, k⟩ := h
  refine ⟨_, (pss_one (ps_ret (pe_un un_neg pe_int))), ?_⟩
  walk_at "begin"
  walk_at "rd"
  exact k
theorem RT.go {K : PySem.W.Frag} {A : Ad} {σ : L2.St} {H : Hp} {Q : VK} {E : XK} {i j k : Nat} {u x y : Addr} {rs : List R1} {xs ys : List Int} (hi : σ[i]? = some (some (.ref u))) (hj : σ[j]? = some (some (.ref x))) (hk : σ[k]? = some (some (.ref y)))
    (hU : RT.At K A H u rs) (hx : SqT K H x (xs.map V.int)) (hy : SqT K H y (ys.map V.int)) (f : ∀ r ∈ rs, r.fit xs ∧ r.fit ys) (q : Q (.bl (chainB rs xs ys)) H) :
    tOrE (tMeth A.Rule "before" (sp_Rule_before K A) [] E (tVar i) (tCons (tVar j) (tCons (tVar k) tNil))) (tOrE (tMeth A.ChainRule "before" (sp_ChainRule_before K A) [] E (tVar i) (tCons (tVar j) (tCons (tVar k) tNil))) (tOrE (tMeth A.VoteRule "before" (sp_VoteRule_before K A) [] E (tVar i) (tCons (tVar j) (tCons (tVar k) tNil))) (tOrE (tMeth A.KeyRule "before" (sp_KeyRule_before K A) [] E (tVar i) (tCons (tVar j) (tCons (tVar k) tNil))) (tOrE (tMeth A.NearRule "before" (sp_NearRule_before K A) [] E (tVar i) (tCons (tVar j) (tCons (tVar k) tNil))) (tMeth A.RingRule "before" (sp_RingRule_before K A) [] E (tVar i) (tCons (tVar j) (tCons (tVar k) tNil))))))) σ H Q := by
  cases hU with
  | @plain d h =>
    refine r_orL ?_
    walk_at "rd"
    refine SH.r_var hi ?_
    walk_at "rd"
    refine SH.r_var hj ?_
    walk_at "rd"
    refine SH.r_var hk ?_
    walk_at "rd"
    exact ⟨u, x, y, rfl, q⟩
  | @part r h =>
    have f := f r (List.mem_singleton.mpr rfl)
    refine r_orR (r_orR (R1.go hi hj hk h hx hy f.1 f.2 ?_))
    rw [show r.b xs ys = chainB [r] xs ys from by simp [chainB]]
    exact q
  | @chain d l uvs rs h hl hR =>
    refine r_orR (r_orL ?_)
    walk_at "rd"
    refine SH.r_var hi ?_
    walk_at "rd"
    refine SH.r_var hj ?_
    walk_at "rd"
    refine SH.r_var hk ?_
    walk_at "rd"
    exact ⟨u, x, y, d, l, uvs, rs, xs, ys, rfl, h, ⟨SqL.of hl, hR, hx, hy, f⟩, q⟩
theorem RT.goW {K : PySem.W.Frag} {A : Ad} {σ : L2.St} {H : Hp} {Q : VK} {E : XK} {i : Nat} {u : Addr} {rs : List R1} (hi : σ[i]? = some (some (.ref u)))
    (hU : RT.At K A H u rs) (f : ∀ r ∈ rs, r.few) (hn : rs.length ≤ 1000) (q : ∀ H', Stp [] H H' → Q (.int (maxD (rs.map R1.wid))) H') :
    tOrE (tMeth A.Rule "widest" (sp_Rule_widest K A) [] E (tVar i) tNil) (tOrE (tMeth A.ChainRule "widest" (sp_ChainRule_widest K A) [] E (tVar i) tNil) (tOrE (tMeth A.VoteRule "widest" (sp_VoteRule_widest K A) [] E (tVar i) tNil) (tOrE (tMeth A.KeyRule "widest" (sp_KeyRule_widest K A) [] E (tVar i) tNil) (tOrE (tMeth A.NearRule "widest" (sp_NearRule_widest K A) [] E (tVar i) tNil) (tMeth A.RingRule "widest" (sp_RingRule_widest K A) [] E (tVar i) tNil))))) σ H Q := by
  cases hU with
  | @plain d h =>
    refine r_orL ?_
    walk_at "rd"
    refine SH.r_var hi ?_
    walk_at "rd"
    exact ⟨u, rfl, q H (Stp.refl _ _)⟩
  | @part r h =>
    refine r_orR (r_orR (R1.goW hi h (f r (List.mem_singleton.mpr rfl)) ?_))
    rw [show maxD ([r].map R1.wid) = r.wid from by
      show max (-1) r.wid = r.wid
      have := r.wid_low
      omega] at q
    exact q
  | @chain d l uvs rs h hl hR =>
    refine r_orR (r_orL ?_)
    walk_at "rd"
    refine SH.r_var hi ?_
    walk_at "rd"
    exact ⟨u, d, l, uvs, rs, rfl, h, ⟨SqL.of hl, hR, f, hn⟩, q⟩
def sp_read_rule (K : PySem.W.Frag) (A : Ad) : Sp := fun vs H Q _ => ∃ (ps : List Pt), vs = [.str (ruleS ps)] ∧ (ps.length ≤ 60 ∧ ∀ p ∈ ps, p.ok) ∧ ∀ u H', Stp [] H H' → RT.At K A H' u (ps.map Pt.r) → Q (.ref u) H'
theorem ok_read_rule {P : Program} {w : World} {K : PySem.W.Frag} {mg : Str → Option Value} {base : Heap} {A : Ad} {f : Addr} {fd : FuncData} (F : Fun K "read_rule" "read_rule" s_read_rule f fd) (T : Txt K mg A) (N_ChainRule : SH.CalC P w K mg base CX0 1 "ChainRule" A.ChainRule [] (sp_ChainRule___init__ K A)) (C_part_rule : SH.Cal P w K mg base CX0 5 "part_rule" [] (sp_part_rule K A)) : FnOk P w K mg base CX0 6 f fd ["text"] (sp_read_rule K A) := by
  refine F.ok sc_read_rule (fun vs H Q E h => by obtain ⟨_, rfl, _⟩ := h; rfl) (fun cdv A' outer s H vs Q E hr h => ?_)
  obtain ⟨ps, rfl, ⟨hl, hall⟩, k⟩ := h
  refine ⟨_, (pss_cons (ps_if (pt_not (pt_val (pe_callB call_isi (by rfl) T.z_isinstance (by decide +kernel) (pa_cons (pv 0) (pa_cons (pe_bltn (v := .ty "str") (by rfl) T.z_str (by decide +kernel) rfl) pa_nil))))) (pss_one ps_never) pss_nil)
        (pss_cons (ps_if (pt_cmpR (SH.oEq hr.units) (pv 0) pe_str (nomark _)) (pss_one (ps_ret (SH.pe_makeP T.mkp_Rule (by rfl) T.g_Rule))) pss_nil)
        (pss_cons (ps_setLc (i := 1) (own := [("part", 2)]) (g := (gName 2)) (tt := tYes) (by rfl) sc_read_rule.nd rfl rfl (sw_true rfl rfl rfl (by decide +kernel)) (pi_list (pe_bm PySem.F.plainAttrs_str PySem.F.slot_str_split PySem.F.type_str_split mt_split (pv 0) (pa_cons pe_str pa_nil))) (blkOk_by (own := [("part", 2)]) (N := ["text", "rules", "part"]) (sc := defScope s_read_rule) (by decide +kernel)) (fun _ _ _ _ _ => (pg_name (i := 2) sc_read_rule.nd rfl (Or.inl rfl))) (fun _ _ _ _ _ => pts_nil) (fun _ _ _ _ _ => (SH.pe_callF C_part_rule hr (by rfl) pass0 (pa_cons (pv 2) pa_nil))))
        (pss_cons (ps_if (pt_cmpR (SH.oEq hr.units) (pe_callB SH.cLen (by rfl) T.z_len (by decide +kernel) (pa_cons (pv 1) pa_nil)) pe_int (nomark _)) (pss_one (ps_ret (pe_ix SH.ixA (pv 1) pe_int (fun _ _ => rfl)))) pss_nil)
        (pss_one (ps_ret (SH.pe_makeF N_ChainRule hr (by rfl) pass0 (pa_cons (pv 1) pa_nil)))))))), ?_⟩
  walk_at "begin"
  walk_at "rd"
  refine v_isiSS ?_
  walk_at "rd"
  refine v_eqS ?_
  by_cases hne : ps = []
  · subst hne
    rw [show decide (ruleS [] = Str.ofString "") = true from by decide +kernel]
    walk_at "rd"
    intro u du hu hdu hne
    have S5 : Stp [] H (upd (upd H du (.own u)) u (.ins A.Rule du [])) := ((Stp.refl [] H).new hdu).new (by rw [upd_ne hne.symm]; exact hu)
    exact k u _ S5 (.plain upd_same)
  rw [decide_eq_false (rule_ne hne hall)]
  walk_at "rd"
  refine ⟨ty_str, ?_⟩
  walk_at "rd"
  refine ⟨_, _, rfl, rfl, by decide +kernel, Nat.le_trans (m := 100000) (by have := rule_len hl hall; omega) (by decide), ?_⟩
  rw [show Txt.split (ruleS ps) (Str.ofString ", ") = ps.map Pt.str from split_rule hne hall]
  intro w' hw'
  have S0 := (Stp.refl [] H).new (o := .lst ((ps.map Pt.str).map V.str)) hw'
  have hw0 := upd_same (H := H) (a := w') (o := .lst ((ps.map Pt.str).map V.str))
  generalize upd H w' (.lst ((ps.map Pt.str).map V.str)) = H0 at S0 hw0 ⊢
  walk_at "rd"
  intro D hD
  refine lc_it (walk_list (xs := (ps.map Pt.str).map V.str)) (fun j H' => Stp [] H0 H' ∧ ∃ uvs, H' D = some (.lst uvs) ∧ PsAt K A (hid [D] H') uvs ((ps.take j).map Pt.r)) ⟨(Stp.refl _ _).new hD, [], upd_same, PsAt.nil⟩ (fun j H' _ z => z.1.sql0 (SqL.of hw0)) ?_ ?_
  · rintro j x H3 H4 hj ⟨S, uvs, hL, hR⟩ ⟨rfl, hx⟩
    obtain ⟨y, hy, rfl⟩ := map_at hx
    obtain ⟨p, hp', rfl⟩ : ∃ p, ps[j]? = some p ∧ p.str = y := by rw [List.getElem?_map] at hy; exact Option.map_eq_some_iff.mp hy
    have hul := hR.len
    walk_at "rd"
    refine ⟨p, rfl, hall p (List.mem_of_getElem? hp'), fun u H5 hu S5 hA => ?_⟩
    refine ⟨uvs, S5.keep0 hL, Nat.lt_of_le_of_lt (m := 1000) (by rw [hul, List.length_map, List.length_take]; omega) (by decide), (S.trans S5).putN hD, uvs ++ [.ref u], upd_same, ?_⟩
    rw [hid_upd (List.mem_cons_self ..), take_snoc hp', List.map_append]
    exact PsAt.snoc (hR.stp (hid_mono S5) (by simp)) (hA [D] (Took.nil.cons hL))
  rintro H2 ⟨S, uvs, hL, hR⟩
  rw [List.length_map, List.length_map, List.take_length] at hR
  have hR2 : PsAt K A H2 uvs (ps.map Pt.r) := by
    have := hR.stp (hid_drop (L := []) (by simp)) (by simp)
    rw [hid_nil] at this
    exact this
  have hul := hR2.len
  rw [List.length_map] at hul
  have S02 := S0.trans S
  walk_at "rd"
  refine r_w (fun hc => ?_) fun hc => ?_
  · walk_at "rd"
    have h1 : ps.length = 1 := by omega
    obtain ⟨p, rfl⟩ := List.length_eq_one_iff.mp h1
    obtain ⟨v, hv⟩ := List.length_eq_one_iff.mp hul
    subst hv
    obtain ⟨u, r, e1, e2, e3⟩ := hR2.at_ 0 v rfl
    cases e2
    subst e1
    refine v_ixLn (n := 0) (SqL.of hL) rfl rfl ?_
    exact k u H2 S02 (.part e3)
  · walk_at "rd"
    intro u du hu hdu hne2
    have S5 : Stp [] H2 (upd (upd H2 du (.own u)) u (.ins A.ChainRule du [])) := ((Stp.refl [] H2).new hdu).new (by rw [upd_ne hne2.symm]; exact hu)
    refine ⟨u, D, uvs, rfl, ⟨du, upd_same⟩, S5.sql0 (SqL.of hL), fun dx l H7 hl hul2 hu7 hl7 S7 => ⟨rfl, ?_⟩⟩
    have S27 : Stp [] H2 H7 := S5.then S7 (by simp; exact hu)
    exact k u _ (S02.trans S27) (.chain hu7 hl7 (hR2.stp S27 (by simp)))
theorem r_J {t : TS} {D : Ends} {σ : L2.St} {H : Hp} (P : L2.St → Hp → Prop) (hk : ∀ σ' H', P σ' H' → D.nx σ' H') (h : ∀ N : L2.St → Hp → Prop, (∀ σ' H', P σ' H' → N σ' H') → t { D with nx := N } σ H) : t D σ H := h D.nx hk
/-! ### the law's own look at a rule's text -/
def RecAt (H : Hp) (v : V) (r : Rec) : Prop := ∃ t : Addr, v = .ref t ∧ H t = some (.tup [.str (wordS r.w), .int r.k, .int r.n])
theorem RecAt.stp {M : List Addr} {H H' : Hp} {v : V} {r : Rec} (h : RecAt H v r) (S : Stp M H H') : RecAt H' v r := by
  obtain ⟨t, rfl, h⟩ := h
  exact ⟨t, rfl, S.tup h⟩
structure RecsAt (H : Hp) (vs : List V) (rs : List Rec) : Prop where
  len : vs.length = rs.length
  at_ : ∀ (j : Nat) (v : V), vs[j]? = some v → ∃ r, rs[j]? = some r ∧ RecAt H v r
theorem RecsAt.stp {M : List Addr} {H H' : Hp} {vs : List V} {rs : List Rec} (h : RecsAt H vs rs) (S : Stp M H H') : RecsAt H' vs rs :=
  ⟨h.len, fun j v e => by obtain ⟨r, h1, h2⟩ := h.at_ j v e; exact ⟨r, h1, h2.stp S⟩⟩
theorem RecsAt.nil {H : Hp} : RecsAt H [] [] := ⟨rfl, fun j v e => by cases e⟩
theorem RecsAt.snoc {H : Hp} {vs : List V} {rs : List Rec} {v : V} {r : Rec} (h : RecsAt H vs rs) (k : RecAt H v r) : RecsAt H (vs ++ [v]) (rs ++ [r]) := by
  have hl := h.len
  refine ⟨by simp [hl], fun j w e => ?_⟩
  by_cases hj : j < vs.length
  · rw [List.getElem?_append_left hj] at e
    obtain ⟨r', h1, h2⟩ := h.at_ j w e
    exact ⟨r', by rw [List.getElem?_append_left (by omega)]; exact h1, h2⟩
  · rw [List.getElem?_append_right (by omega)] at e
    have : j - vs.length = 0 := by
      cases h : j - vs.length with
      | zero => rfl
      | succ m => rw [h] at e; cases e
    rw [this] at e
    cases e
    exact ⟨r, by rw [List.getElem?_append_right (by omega), show j - rs.length = 0 by omega]; rfl, k⟩
theorem RecsAt.last {H : Hp} {vs : List V} {rs : List Rec} (h : RecsAt H vs rs) (hne : rs ≠ []) : ∃ (ys : List V) (t : Addr), vs = ys ++ [.ref t] := by
  have hl := h.len
  have hv : vs ≠ [] := fun z => by subst z; cases rs with | nil => exact hne rfl | cons => simp at hl
  obtain ⟨ds, y, e⟩ : ∃ ds y, vs = ds ++ [y] := ⟨_, _, (List.dropLast_concat_getLast hv).symm⟩
  obtain ⟨r, _, t, e2, _⟩ := h.at_ ds.length y (by rw [e]; simp)
  exact ⟨ds, t, by rw [← e2]; exact e⟩
/-- a part in the heap: its records, and None behind where it is no votes -/
def PtAt (H : Hp) (p : Addr) : Pt → Prop
  | .one r => ∃ v, H p = some (.lst [v, .non]) ∧ RecAt H v r
  | .votes rs => ∃ vs, H p = some (.lst vs) ∧ RecsAt H vs rs
structure PartsAt (H : Hp) (pvs : List V) (ps : List Pt) : Prop where
  len : pvs.length = ps.length
  at_ : ∀ (j : Nat) (v : V), pvs[j]? = some v → ∃ (q : Addr) (p : Pt), v = .ref q ∧ ps[j]? = some p ∧ PtAt H q p
theorem PtAt.stp {M : List Addr} {H H' : Hp} {q : Addr} {p : Pt} (h : PtAt H q p) (S : Stp M H H') (n : q ∉ M) : PtAt H' q p := by
  cases p with
  | one r => obtain ⟨v, h1, h2⟩ := h; exact ⟨v, S.keep h1 n, h2.stp S⟩
  | votes rs => obtain ⟨vs, h1, h2⟩ := h; exact ⟨vs, S.keep h1 n, h2.stp S⟩
theorem PartsAt.stp0 {H H' : Hp} {pvs : List V} {ps : List Pt} (h : PartsAt H pvs ps) (S : Stp [] H H') : PartsAt H' pvs ps :=
  ⟨h.len, fun j v e => by obtain ⟨q, p, h1, h2, h3⟩ := h.at_ j v e; exact ⟨q, p, h1, h2, h3.stp S (by simp)⟩⟩
def sp__law_plain (K : PySem.W.Frag) (A : Ad) : Sp := fun vs H Q _ => ∃ (c : Int), vs = [.int c] ∧ ∀ (t : Addr) (r : Rec) (H' : Hp), H t = none → Stp [] H H' → r.ok → H' t = some (.tup [.str (wordS r.w), .int r.k, .int r.n]) → Q (.ref t) H'
theorem ok__law_plain {P : Program} {w : World} {K : PySem.W.Frag} {mg : Str → Option Value} {base : Heap} {A : Ad} {f : Addr} {fd : FuncData} (F : Fun K "_law_plain" "_law_plain" s__law_plain f fd) (T : Txt K mg A)  : FnOk P w K mg base CX0 1 f fd ["_law_cell"] (sp__law_plain K A) := by
  refine F.ok sc__law_plain (fun vs H Q E h => by obtain ⟨_, rfl, _⟩ := h; rfl) (fun cdv A' outer s H vs Q E hr h => ?_)
  obtain ⟨c, rfl, k⟩ := h
  refine ⟨_, (pss_cons (ps_set (i := 1) sc__law_plain.nd rfl (Or.inl rfl) (pe_op SH.oMod (pe_op SH.oDiv (pv 0) pe_int) pe_int))
        (pss_cons (ps_if (pt_cmpR (SH.oEq hr.units) (pe_op SH.oMod (pe_op SH.oDiv (pv 0) pe_int) pe_int) pe_int (nomark _)) (pss_one (ps_set (i := 1) sc__law_plain.nd rfl (Or.inl rfl) (pe_op SH.oMod (pe_op SH.oDiv (pv 0) pe_int) (pe_op SH.oSub (pe_op SH.oPow pe_int pe_int) pe_int)))) pss_nil)
        (pss_one (ps_ret (pe_tup (pa_cons (pe_ix SH.ixA (pe_lst (pa_cons pe_str (pa_cons pe_str (pa_cons pe_str (pa_cons pe_str pa_nil))))) (pe_op SH.oMod (pv 0) pe_int) (fun _ _ => rfl)) (pa_cons (pe_op SH.oMod (pe_op SH.oDiv (pv 0) pe_int) pe_int) (pa_cons (pe_op SH.oAdd (pv 1) (pe_callTy SH.cInt1 (by rfl) T.z_int (by decide +kernel) (pa_cons (pe_cmpR (SH.oEq hr.units) (pe_op SH.oMod (pv 0) pe_int) pe_int (nomark _)) pa_nil))) pa_nil)))))))), ?_⟩
  walk_at "begin"
  have b60 : big60 = 10 ^ 60 := rfl
  have b61 : (1 : Int) < big60 := by decide +kernel
  walk_at "ri"
  have n0 := Int.emod_nonneg (c / 64) (show (4 : Int) ≠ 0 by decide)
  have n1 := Int.emod_lt_of_pos (c / 64) (show (0 : Int) < 4 by decide)
  generalize c / 64 % 4 = m at n0 n1 ⊢
  refine r_J (fun σ H' => H' = H ∧ ∃ n : Int, (0 ≤ n ∧ n < big60 - 1) ∧ σ = [some (.int c), some (.int n)]) ?_ fun N hN => ?_
  rotate_left
  · walk_at "rd"
    refine r_w (fun hc => ?_) fun hc => ?_
    · walk_at "rd"
      have := Int.emod_nonneg (c / 64) (show (big60 - 1 : Int) ≠ 0 by omega)
      have := Int.emod_lt_of_pos (c / 64) (show (0 : Int) < big60 - 1 by omega)
      exact hN _ _ ⟨rfl, _, ⟨by omega, by omega⟩, rfl⟩
    · walk_at "rd"
      have : (4 : Int) < big60 - 1 := by decide +kernel
      exact hN _ _ ⟨rfl, _, ⟨n0, by omega⟩, rfl⟩
  rintro σ H1 ⟨rfl, n, ⟨hn0, hn1⟩, rfl⟩
  dsimp only
  walk_at "rd"
  intro l hl
  have w0 := Int.emod_nonneg c (show (4 : Int) ≠ 0 by decide)
  have w1 := Int.emod_lt_of_pos c (show (0 : Int) < 4 by decide)
  have k0 := Int.emod_nonneg (c / 4) (show (8 : Int) ≠ 0 by decide)
  have k1 := Int.emod_lt_of_pos (c / 4) (show (0 : Int) < 8 by decide)
  obtain ⟨w', hw⟩ := Int.eq_ofNat_of_zero_le w0
  obtain ⟨kk, hkk⟩ := Int.eq_ofNat_of_zero_le k0
  walk_at "rd"
  rw [hw]
  have hw4 : w' < 4 := by omega
  have S0 := (Stp.refl [] H1).new (o := .lst [.str "up", .str "down", .str "near", .str "ring"]) hl
  have hl0 := upd_same (H := H1) (a := l) (o := .lst [.str "up", .str "down", .str "near", .str "ring"])
  generalize upd H1 l (.lst [.str "up", .str "down", .str "near", .str "ring"]) = H2 at S0 hl0 ⊢
  have hat : ([.str "up", .str "down", .str "near", .str "ring"] : List V)[w']? = some (.str (wordS w')) := by
    have : w' = 0 ∨ w' = 1 ∨ w' = 2 ∨ w' = 3 := by omega
    rcases this with rfl | rfl | rfl | rfl <;> rfl
  refine v_ixLn (n := w') (SqL.of hl0) rfl hat ?_
  walk_at "rd"
  rw [hkk]
  try rw [hw]
  intro t ht
  refine k t ⟨w', kk, n + (decide ((w' : Int) = 3)).toNat⟩ _ (S0.dom _ ht) (S0.new ht) ⟨hw4, by show kk < 8; omega, fun _ => ⟨?_, ?_⟩, fun h3 => ?_⟩ upd_same
  · show 0 ≤ n + ((decide ((w' : Int) = 3)).toNat : Int); omega
  · show n + ((decide ((w' : Int) = 3)).toNat : Int) < 10 ^ 60
    rw [← b60]
    have := Bool.toNat_le (decide ((w' : Int) = 3))
    omega
  · have h3 : w' = 3 := h3
    subst h3
    show 1 ≤ n + ((decide (((3 : Nat) : Int) = 3)).toNat : Int)
    rw [decide_eq_true (by decide)]
    show 1 ≤ n + 1
    omega
def sp__law_parts (K : PySem.W.Frag) (A : Ad) : Sp := fun vs H Q _ => ∃ (a : Addr) (ns : List Int) (m : Nat), vs = [.ref a, .int m] ∧ (SqL K H a (ns.map V.int) ∧ m ≤ 5) ∧ ∀ (q : Addr) (pvs : List V) (ps : List Pt) (H' : Hp), H q = none → Stp [] H H' → H' q = some (.lst pvs) → PartsAt H' pvs ps → ps.length ≤ 5 → (∀ p ∈ ps, p.ok) → Q (.ref q) H'
theorem ok__law_parts {P : Program} {w : World} {K : PySem.W.Frag} {mg : Str → Option Value} {base : Heap} {A : Ad} {f : Addr} {fd : FuncData} (F : Fun K "_law_parts" "_law_parts" s__law_parts f fd) (T : Txt K mg A) (C__law_cell_at : SH.Cal P w K mg base CX0 1 "_law_cell_at" [] (sp__law_cell_at K A)) (C__law_plain : SH.Cal P w K mg base CX0 1 "_law_plain" [] (sp__law_plain K A)) : FnOk P w K mg base CX0 2 f fd ["_law_script", "_law_many"] (sp__law_parts K A) := by
  refine F.ok sc__law_parts (fun vs H Q E h => by obtain ⟨_, _, _, rfl, _⟩ := h; rfl) (fun cdv A' outer s H vs Q E hr h => ?_)
  obtain ⟨a, ns, m, rfl, ⟨hS, hm⟩, k⟩ := h
  refine ⟨_, (pss_cons (ps_set (i := 2) sc__law_parts.nd rfl (Or.inl rfl) (pe_lst pa_nil))
        (pss_cons (ps_for PassesOwn.never rfl (pi_range1 (by rfl) T.z_range (pa_cons (pv 1) pa_nil)) (pg_name (i := 3) sc__law_parts.nd rfl (Or.inl rfl)) (pss_cons (ps_set (i := 4) sc__law_parts.nd rfl (Or.inr rfl) (SH.pe_callF C__law_cell_at hr (by rfl) pass0 (pa_cons (pv 0) (pa_cons (pe_op SH.oAdd pe_int (pv 3)) pa_nil))))
        (pss_one (ps_if (pt_cmpR (SH.oEq hr.units) (pe_op SH.oMod (pv 4) pe_int) pe_int (nomark _)) (pss_cons (ps_set (i := 4) sc__law_parts.nd rfl (Or.inr rfl) (pe_op SH.oDiv (pv 4) pe_int))
        (pss_one (ps_expr (pe_bm PySem.F.plainAttrs_list PySem.F.slot_list_append PySem.F.type_list_append mt_append (pv 2) (pa_cons (pe_lc (own := [("_law_j", 5)]) (g := (gName 5)) (tt := tYes) (by rfl) sc__law_parts.nd (pi_range1 (by rfl) T.z_range (pa_cons (pe_op SH.oAdd pe_int (pe_op SH.oMod (pv 4) pe_int)) pa_nil)) (blkOk_by (own := [("_law_j", 5)]) (N := ["_law_script", "_law_many", "_law_parts_here", "_law_k", "_law_cell", "_law_j"]) (sc := defScope s__law_parts) (by decide +kernel)) (fun _ _ _ _ _ => (pg_name (i := 5) sc__law_parts.nd rfl (Or.inl rfl))) (fun _ _ _ _ _ => pts_nil) (fun _ _ _ _ _ => (SH.pe_callF C__law_plain hr (by rfl) pass0 (pa_cons (pe_op (SH.opK SH.aAdd K SH.oAdd) (pe_op SH.oDiv (pe_op SH.oDiv (pv 4) pe_int) (pe_op (SH.opK SH.aAdd K SH.oAdd) (pv 5) pe_int)) (pe_op SH.oMul pe_int (pv 5))) pa_nil)))) pa_nil))))) (pss_cons (ps_expr (pe_bm PySem.F.plainAttrs_list PySem.F.slot_list_append PySem.F.type_list_append mt_append (pv 2) (pa_cons (pe_lst (pa_cons (SH.pe_callF C__law_plain hr (by rfl) pass0 (pa_cons (pe_op SH.oDiv (pv 4) pe_int) pa_nil)) pa_nil)) pa_nil)))
        (pss_one (ps_expr (pe_bm PySem.F.plainAttrs_list PySem.F.slot_list_append PySem.F.type_list_append mt_append (pe_ix SH.ixA (pv 2) (pe_un un_neg pe_int) (fun _ _ => rfl)) (pa_cons pe_non pa_nil)))))))))
        (pss_one (ps_ret (pv 2))))), ?_⟩
  walk_at "begin"
  walk_at "rd"
  intro D hD
  have S1 := (Stp.refl [] H).new (o := .lst []) hD
  have hD1 := upd_same (H := H) (a := D) (o := .lst [])
  walk_at "rd"
  generalize hH1 : upd H D (.lst []) = H1 at S1 hD1 ⊢
  refine for_it walk_range (fun j σ H' => ∃ (pvs : List V) (ps : List Pt) (v3 v4 : Option V), (Stp [D] H1 H' ∧ H' D = some (.lst pvs) ∧ PartsAt H' pvs ps ∧ ps.length = j ∧ (∀ p ∈ ps, p.ok) ∧ ∀ q, V.ref q ∈ pvs → q ≠ D) ∧ σ = [some (.ref a), some (.int m), some (.ref D), v3, v4, none])
    ⟨[], [], _, _, ⟨.refl _ _, hD1, ⟨rfl, fun i v e => by cases e⟩, rfl, by simp, by simp⟩, rfl⟩ (fun _ _ _ _ _ => True.intro) ?_ ?_
  · rintro j x σ H2 H3 hj ⟨pvs, ps, v3, v4, ⟨S, hL, hP, hl, hok, hq⟩, rfl⟩ ⟨rfl, rfl⟩
    simp only [Int.zero_add]
    have hpl := hP.len
    have S03 : Stp [] H H3 := S1.then S (by simp; exact hD)
    walk_at "rd"
    refine ⟨a, ns, 1 + j, rfl, S03.sql0 hS, fun c => ?_⟩
    walk_at "rd"
    have push : ∀ (E : Addr) (p : Pt) (H5 : Hp), Stp [] H3 H5 → H3 E = none → PtAt H5 E p → p.ok → Stp [D] H1 (upd H5 D (.lst (pvs ++ [.ref E]))) ∧ PartsAt (upd H5 D (.lst (pvs ++ [.ref E]))) (pvs ++ [.ref E]) (ps ++ [p]) ∧ (∀ p' ∈ ps ++ [p], p'.ok) ∧ ∀ q, V.ref q ∈ pvs ++ [.ref E] → q ≠ D := by
      intro E p H5 S5 hE hPE hpk
      have nED : E ≠ D := (ne_of_none hL hE).symm
      have Sx : Stp [D] H3 (upd H5 D (.lst (pvs ++ [.ref E]))) := (S5.mono (by simp)).putL (by simp) (S5.keep0 hL)
      have Sy : Stp [D] H5 (upd H5 D (.lst (pvs ++ [.ref E]))) := (Stp.refl _ _).putL (by simp) (S5.keep0 hL)
      refine ⟨S.trans Sx, ⟨by simp [hpl], fun i v e => ?_⟩, fun p' hp' => ?_, fun q' hq' => ?_⟩
      · by_cases hi : i < pvs.length
        · rw [List.getElem?_append_left hi] at e
          obtain ⟨q', p', h1, h2, h3⟩ := hP.at_ i v e
          refine ⟨q', p', h1, by rw [List.getElem?_append_left (by omega)]; exact h2, h3.stp Sx ?_⟩
          subst h1
          simp
          exact hq q' (List.mem_of_getElem? e)
        · rw [List.getElem?_append_right (by omega)] at e
          have : i - pvs.length = 0 := by
            cases h : i - pvs.length with
            | zero => rfl
            | succ m => rw [h] at e; cases e
          rw [this] at e
          cases e
          exact ⟨E, p, rfl, by rw [List.getElem?_append_right (by omega), show i - ps.length = 0 by omega]; rfl, hPE.stp Sy (by simp; exact nED)⟩
      · rcases List.mem_append.mp hp' with z | z
        · exact hok p' z
        · rw [List.mem_singleton] at z; subst z; exact hpk
      · rcases List.mem_append.mp hq' with z | z
        · exact hq q' z
        · rw [List.mem_singleton] at z; cases z; exact nED
    refine r_w (fun hc => ?_) fun hc => ?_
    · walk_at "rd"
      generalize c / 5 = c5
      have m0 := Int.emod_nonneg c5 (show (3 : Int) ≠ 0 by decide)
      have m1 := Int.emod_lt_of_pos c5 (show (0 : Int) < 3 by decide)
      walk_at "rd"
      intro E hE
      refine lc_it walk_range (fun j H' => Stp [] H3 H' ∧ ∃ (rvs : List V) (rs : List Rec), H' E = some (.lst rvs) ∧ RecsAt H' rvs rs ∧ rs.length = j ∧ ∀ r ∈ rs, r.ok) ⟨(Stp.refl _ _).new hE, [], [], upd_same, RecsAt.nil, rfl, by simp⟩ (fun _ _ _ _ => True.intro) ?_ ?_
      · rintro i x H4 H5 hi ⟨S5, rvs, rs, hE5, hR, hrl, hrk⟩ ⟨rfl, rfl⟩
        simp only [Int.zero_add]
        have hi3 : (i : Int) < 3 := by omega
        have hrv := hR.len
        walk_at "rd"
        refine ⟨_, rfl, fun t r H6 ht S6 hrok htr => ?_⟩
        have Sz : Stp [E] H6 (upd H6 E (.lst (rvs ++ [.ref t]))) := (Stp.refl _ _).putL (by simp) (S6.keep0 hE5)
        refine ⟨rvs, S6.keep0 hE5, Nat.lt_of_le_of_lt (m := 1000) (by omega) (by decide), (S5.trans S6).putN hE, rvs ++ [.ref t], rs ++ [r], upd_same, (((hR.stp S6).snoc ⟨t, rfl, htr⟩).stp Sz), by simp [hrl], fun r' hr' => ?_⟩
        rcases List.mem_append.mp hr' with z | z
        · exact hrk r' z
        · rw [List.mem_singleton] at z; subst z; exact hrok
      rintro H5 ⟨S5, rvs, rs, hE5, hR, hrl, hrk⟩
      walk_at "rd"
      obtain ⟨P1, P2, P3, P4⟩ := push E (.votes rs) H5 S5 hE ⟨rvs, hE5, hR⟩ ⟨fun z => by subst z; simp at hrl; omega, by omega, hrk⟩
      refine v_app (S5.keep0 hL) (by omega) ?_
      exact ⟨_, _, _, _, ⟨P1, upd_same, P2, by simp [hl], P3, P4⟩, rfl⟩
    · walk_at "rd"
      refine ⟨_, rfl, fun t r H4 ht S4 hrok htr => ?_⟩
      walk_at "rd"
      intro E hE
      have hL4 := S4.keep0 hL
      have nED : E ≠ D := (ne_of_none hL4 hE).symm
      walk_at "rd"
      refine v_app (upd_old hL4 hE) (by omega) ?_
      have hDx : upd (upd H4 E (.lst [.ref t])) D (.lst (pvs ++ [.ref E])) D = some (.lst (pvs ++ [.ref E])) := upd_same
      have hEx : upd (upd H4 E (.lst [.ref t])) D (.lst (pvs ++ [.ref E])) E = some (.lst [.ref t]) := by rw [upd_ne nED, upd_same]
      walk_at "rd"
      refine v_ixLast (SqL.of hDx) ?_
      refine ⟨ty_list hEx, ?_⟩
      walk_at "rd"
      refine v_app hEx (by simp) ?_
      have hsw : upd (upd (upd H4 E (.lst [.ref t])) D (.lst (pvs ++ [.ref E]))) E (.lst ([.ref t] ++ [.non])) = upd (upd H4 E (.lst [.ref t, .non])) D (.lst (pvs ++ [.ref E])) := by
        funext b
        by_cases h1 : b = E
        · subst h1; rw [upd_same, upd_ne nED, upd_same]; rfl
        · rw [upd_ne h1]
          by_cases h2 : b = D
          · subst h2; rw [upd_same, upd_same]
          · rw [upd_ne h2, upd_ne h2, upd_ne h1, upd_ne h1]
      rw [hsw]
      have S5 : Stp [] H3 (upd H4 E (.lst [.ref t, .non])) := S4.new hE
      obtain ⟨P1, P2, P3, P4⟩ := push E (.one r) _ S5 (S4.dom _ hE) ⟨.ref t, upd_same, t, rfl, upd_old htr hE⟩ hrok
      exact ⟨_, _, _, _, ⟨P1, upd_same, P2, by simp [hl], P3, P4⟩, rfl⟩
  · rintro σ H2 ⟨pvs, ps, v3, v4, ⟨S, hL, hP, hl, hok, hq⟩, rfl⟩
    walk_at "rd"
    exact k D pvs ps H2 hD (S1.then S (by simp; exact hD)) hL hP (by omega) hok

def sp__law_shown (K : PySem.W.Frag) (A : Ad) : Sp := fun vs H Q _ => ∃ (t : Addr) (r : Rec), vs = [.ref t] ∧ (H t = some (.tup [.str (wordS r.w), .int r.k, .int r.n]) ∧ r.ok) ∧ Q (.str r.str) H
theorem ok__law_shown {P : Program} {w : World} {K : PySem.W.Frag} {mg : Str → Option Value} {base : Heap} {A : Ad} {f : Addr} {fd : FuncData} (F : Fun K "_law_shown" "_law_shown" s__law_shown f fd) (T : Txt K mg A)  : FnOk P w K mg base CX0 1 f fd ["_law_plain_here"] (sp__law_shown K A) := by
  refine F.ok sc__law_shown (fun vs H Q E h => by obtain ⟨_, _, rfl, _⟩ := h; rfl) (fun cdv A' outer s H vs Q E hr h => ?_)
  obtain ⟨t, r, rfl, ⟨ht, hok⟩, k⟩ := h
  refine ⟨_, (pss_cons (ps_asg (pv 0) (pg_tup (by rfl) (pgs_cons (pg_name (i := 1) sc__law_shown.nd rfl (Or.inl rfl)) (pgs_cons (pg_name (i := 2) sc__law_shown.nd rfl (Or.inl rfl)) (pgs_cons (pg_name (i := 3) sc__law_shown.nd rfl (Or.inl rfl)) pgs_nil)))))
        (pss_cons (ps_if (PW.pt (pw_or (pt_cmpR (SH.oEq hr.units) (pv 1) pe_str (nomark _)) (pw_or1 (pt_cmpR (SH.oEq hr.units) (pv 1) pe_str (nomark _))))) (pss_one (ps_ret (pe_op SH.oAdd (pe_op SH.oAdd (pv 1) pe_str) (pe_callTy call_str_int (by rfl) T.z_str (by decide +kernel) (pa_cons (pv 2) pa_nil))))) pss_nil)
        (pss_one (ps_ret (pe_op SH.oAdd (pe_op SH.oAdd (pe_op SH.oAdd (pe_op SH.oAdd (pv 1) pe_str) (pe_callTy call_str_int (by rfl) T.z_str (by decide +kernel) (pa_cons (pv 2) pa_nil))) pe_str) (pe_callTy call_str_int (by rfl) T.z_str (by decide +kernel) (pa_cons (pv 3) pa_nil))))))), ?_⟩
  walk_at "begin"
  obtain ⟨w0, w1, w2, w3, w4, w5, w6, w7, w8, w9⟩ := wordS_is
  have : r.w = 0 ∨ r.w = 1 ∨ r.w = 2 ∨ r.w = 3 := by have := hok.w; omega
  unfold Rec.str Rec.rest at k
  obtain ⟨w', kk, n⟩ := r
  walk_at "rd"
  have l1 : sBl.length = 1 := by rw [len_tl, tl_bl]; rfl
  have l1' : (Str.ofString " ").length = 1 := l1
  have hlk : (istr (kk : Int)).length = 1 := ik_len hok.k
  have hlw : (wordS w').length ≤ 4 := word_len _ hok.w
  have b1000 : 1000 ≤ sizeLine := by decide
  have lgk : ((kk : Int)).natAbs.log2 < 1920 := by
    have : kk < 8 := hok.k
    have e : kk = 0 ∨ kk = 1 ∨ kk = 2 ∨ kk = 3 ∨ kk = 4 ∨ kk = 5 ∨ kk = 6 ∨ kk = 7 := by omega
    rcases e with rfl | rfl | rfl | rfl | rfl | rfl | rfl | rfl <;> decide +kernel
  rcases this with h | h | h | h
  · have h : w' = 0 := h
    subst h
    refine v_eqS ?_
    rw [show decide (wordS (Rec.mk 0 kk n).w = "up") = true from w0]
    walk_at "rd"
    refine ⟨by rw [l1']; exact Nat.le_trans (show (wordS 0).length + 1 ≤ 1000 by omega) b1000, ?_⟩
    walk_at "rd"
    refine ⟨_, rfl, lgk, ?_⟩
    refine ⟨by rw [len_app, l1']; exact Nat.le_trans (show (wordS 0).length + 1 + (istr (kk : Int)).length ≤ 1000 by omega) b1000, ?_⟩
    rw [if_pos (by decide : (0 : Nat) < 2)] at k
    exact k
  · have h : w' = 1 := h
    subst h
    refine v_eqS ?_
    rw [show decide (wordS (Rec.mk 1 kk n).w = "up") = false from w1]
    walk_at "rd"
    refine v_eqS ?_
    rw [show decide (wordS (Rec.mk 1 kk n).w = "down") = true from w2]
    walk_at "rd"
    refine ⟨by rw [l1']; exact Nat.le_trans (show (wordS 1).length + 1 ≤ 1000 by omega) b1000, ?_⟩
    walk_at "rd"
    refine ⟨_, rfl, lgk, ?_⟩
    refine ⟨by rw [len_app, l1']; exact Nat.le_trans (show (wordS 1).length + 1 + (istr (kk : Int)).length ≤ 1000 by omega) b1000, ?_⟩
    rw [if_pos (by decide : (1 : Nat) < 2)] at k
    exact k
  · have h : w' = 2 := h
    subst h
    have hz : zok60 n := zok_of hok (show 2 ≤ 2 by decide)
    have hln := istr_len (k := 60) (by decide) hz.1 hz.2
    refine v_eqS ?_
    rw [show decide (wordS (Rec.mk 2 kk n).w = "up") = false from w3]
    walk_at "rd"
    refine v_eqS ?_
    rw [show decide (wordS (Rec.mk 2 kk n).w = "down") = false from w4]
    walk_at "rd"
    refine ⟨by rw [l1']; exact Nat.le_trans (show (wordS 2).length + 1 ≤ 1000 by omega) b1000, ?_⟩
    walk_at "rd"
    refine ⟨_, rfl, lgk, ?_⟩
    refine ⟨by rw [len_app, l1']; exact Nat.le_trans (show (wordS 2).length + 1 + (istr (kk : Int)).length ≤ 1000 by omega) b1000, ?_⟩
    walk_at "rd"
    refine ⟨by rw [len_app, len_app, l1']; exact Nat.le_trans (show (wordS 2).length + 1 + (istr (kk : Int)).length + 1 ≤ 1000 by omega) b1000, ?_⟩
    walk_at "rd"
    refine ⟨_, rfl, log60 hz, ?_⟩
    refine ⟨by rw [len_app, len_app, len_app, l1']; exact Nat.le_trans (show (wordS 2).length + 1 + (istr (kk : Int)).length + 1 + (istr n).length ≤ 1000 by omega) b1000, ?_⟩
    rw [if_neg (by decide : ¬ (2 : Nat) < 2)] at k
    rw [show wordS 2 ++ sBl ++ (istr (kk : Int) ++ sBl ++ istr n) = wordS 2 ++ sBl ++ istr (kk : Int) ++ sBl ++ istr n from by simp only [app_assoc]] at k
    exact k
  · have h : w' = 3 := h
    subst h
    have hz : zok60 n := zok_of hok (show 2 ≤ 3 by decide)
    have hln := istr_len (k := 60) (by decide) hz.1 hz.2
    refine v_eqS ?_
    rw [show decide (wordS (Rec.mk 3 kk n).w = "up") = false from w6]
    walk_at "rd"
    refine v_eqS ?_
    rw [show decide (wordS (Rec.mk 3 kk n).w = "down") = false from w7]
    walk_at "rd"
    refine ⟨by rw [l1']; exact Nat.le_trans (show (wordS 3).length + 1 ≤ 1000 by omega) b1000, ?_⟩
    walk_at "rd"
    refine ⟨_, rfl, lgk, ?_⟩
    refine ⟨by rw [len_app, l1']; exact Nat.le_trans (show (wordS 3).length + 1 + (istr (kk : Int)).length ≤ 1000 by omega) b1000, ?_⟩
    walk_at "rd"
    refine ⟨by rw [len_app, len_app, l1']; exact Nat.le_trans (show (wordS 3).length + 1 + (istr (kk : Int)).length + 1 ≤ 1000 by omega) b1000, ?_⟩
    walk_at "rd"
    refine ⟨_, rfl, log60 hz, ?_⟩
    refine ⟨by rw [len_app, len_app, len_app, l1']; exact Nat.le_trans (show (wordS 3).length + 1 + (istr (kk : Int)).length + 1 + (istr n).length ≤ 1000 by omega) b1000, ?_⟩
    rw [if_neg (by decide : ¬ (3 : Nat) < 2)] at k
    rw [show wordS 3 ++ sBl ++ (istr (kk : Int) ++ sBl ++ istr n) = wordS 3 ++ sBl ++ istr (kk : Int) ++ sBl ++ istr n from by simp only [app_assoc]] at k
    exact k
def sp__law_text (K : PySem.W.Frag) (A : Ad) : Sp := fun vs H Q _ => ∃ (q : Addr) (pvs : List V) (ps : List Pt), vs = [.ref q] ∧ (H q = some (.lst pvs) ∧ PartsAt H pvs ps ∧ ps.length ≤ 5 ∧ ∀ p ∈ ps, p.ok) ∧ ∀ H', Stp [] H H' → Q (.str (ruleS ps)) H'
theorem ok__law_text {P : Program} {w : World} {K : PySem.W.Frag} {mg : Str → Option Value} {base : Heap} {A : Ad} {f : Addr} {fd : FuncData} (F : Fun K "_law_text" "_law_text" s__law_text f fd) (T : Txt K mg A) (C__law_shown : SH.Cal P w K mg base CX0 1 "_law_shown" [] (sp__law_shown K A)) : FnOk P w K mg base CX0 2 f fd ["_law_parts_here"] (sp__law_text K A) := by
  refine F.ok sc__law_text (fun vs H Q E h => by obtain ⟨_, _, _, rfl, _⟩ := h; rfl) (fun cdv A' outer s H vs Q E hr h => ?_)
  obtain ⟨q, pvs, ps, rfl, ⟨hq, hP, hl, hok⟩, k⟩ := h
  refine ⟨_, (pss_cons (ps_set (i := 1) sc__law_text.nd rfl (Or.inl rfl) (pe_lst pa_nil))
        (pss_cons (ps_for PassesOwn.never rfl (pi_list (pv 0)) (pg_name (i := 2) sc__law_text.nd rfl (Or.inl rfl)) (pss_one (ps_if (pt_cmpR SH.oIsN (pe_ix SH.ixA (pv 2) (pe_un un_neg pe_int) (fun _ _ => rfl)) pe_non (nomark _)) (pss_one (ps_expr (pe_bm PySem.F.plainAttrs_list PySem.F.slot_list_append PySem.F.type_list_append mt_append (pv 1) (pa_cons (SH.pe_callF C__law_shown hr (by rfl) pass0 (pa_cons (pe_ix SH.ixA (pv 2) pe_int (fun _ _ => rfl)) pa_nil)) pa_nil)))) (pss_one (ps_expr (pe_bm PySem.F.plainAttrs_list PySem.F.slot_list_append PySem.F.type_list_append mt_append (pv 1) (pa_cons (pe_op SH.oAdd pe_str (pe_bm PySem.F.plainAttrs_str PySem.F.slot_str_join PySem.F.type_str_join mt_join pe_str (pa_cons (pe_lc (own := [("_law_plain_here", 3)]) (g := (gName 3)) (tt := tYes) (by rfl) sc__law_text.nd (pi_list (pv 2)) (blkOk_by (own := [("_law_plain_here", 3)]) (N := ["_law_parts_here", "_law_texts", "_law_part", "_law_plain_here"]) (sc := defScope s__law_text) (by decide +kernel)) (fun _ _ _ _ _ => (pg_name (i := 3) sc__law_text.nd rfl (Or.inl rfl))) (fun _ _ _ _ _ => pts_nil) (fun _ _ _ _ _ => (SH.pe_callF C__law_shown hr (by rfl) pass0 (pa_cons (pv 3) pa_nil)))) pa_nil))) pa_nil)))))))
        (pss_one (ps_ret (pe_bm PySem.F.plainAttrs_str PySem.F.slot_str_join PySem.F.type_str_join mt_join pe_str (pa_cons (pv 1) pa_nil)))))), ?_⟩
  walk_at "begin"
  have hpl := hP.len
  walk_at "rd"
  intro D hD
  have S1 := (Stp.refl [] H).new (o := .lst []) hD
  have hD1 := upd_same (H := H) (a := D) (o := .lst [])
  walk_at "rd"
  generalize hH1 : upd H D (.lst []) = H1 at S1 hD1 ⊢
  refine for_it (walk_list (xs := pvs)) (fun j σ H' => (Stp [D] H1 H' ∧ H' D = some (.lst (((ps.take j).map Pt.str).map V.str))) ∧ ∃ v2, σ = [some (.ref q), some (.ref D), v2, none]) ⟨⟨.refl _ _, hD1⟩, _, rfl⟩ (fun _ _ _ _ z => (S1.then z.1.1 (by simp; exact hD)).sql0 (SqL.of hq)) ?_ ?_
  · rintro j v σ H2 H3 hj ⟨⟨S, hL⟩, v2, rfl⟩ ⟨rfl, hv⟩
    have S03 : Stp [] H H3 := S1.then S (by simp; exact hD)
    obtain ⟨p, pt, rfl, hp', hA⟩ := (hP.stp0 S03).at_ j v hv
    have hpk := hok pt (List.mem_of_getElem? hp')
    have hnext : ∀ H4, Stp [] H3 H4 → H4 D = some (.lst (((ps.take j).map Pt.str).map V.str)) → Stp [D] H1 (upd H4 D (.lst (((ps.take j).map Pt.str).map V.str ++ [.str pt.str]))) ∧ upd H4 D (.lst (((ps.take j).map Pt.str).map V.str ++ [.str pt.str])) D = some (.lst (((ps.take (j + 1)).map Pt.str).map V.str)) := fun H4 S4 hL4 =>
      ⟨(S.trans (S4.mono (by simp))).putL (by simp) hL4, by rw [upd_same, take_snoc hp', List.map_append, List.map_append]; rfl⟩
    walk_at "rd"
    cases pt with
    | one r =>
      obtain ⟨v, hp2, t, rfl, ht⟩ := hA
      refine v_ixLast (ys := [.ref t]) (SqL.of hp2) ?_
      walk_at "rd"
      refine r_wT rfl ?_
      walk_at "rd"
      refine v_ixLn (n := 0) (SqL.of hp2) rfl rfl ?_
      walk_at "rd"
      refine ⟨t, r, rfl, ⟨ht, hpk⟩, ?_⟩
      walk_at "rd"
      refine v_app hL (by simp; omega) ?_
      exact ⟨hnext H3 (Stp.refl _ _) hL, _, rfl⟩
    | votes rs =>
      obtain ⟨rvs, hp2, hR⟩ := hA
      obtain ⟨hne, hl3, hall⟩ := hpk
      have hrl := hR.len
      obtain ⟨ys, ty', hys⟩ := hR.last hne
      refine v_ixLast (ys := ys) (SqL.of (by rw [← hys]; exact hp2)) ?_
      walk_at "rd"
      refine r_wF (by simp) ?_
      walk_at "rd"
      refine ⟨ty_str, ?_⟩
      walk_at "rd"
      intro E hE
      refine lc_it (walk_list (xs := rvs)) (fun j H' => Stp [] H3 H' ∧ H' E = some (.lst (((rs.take j).map Rec.str).map V.str))) ⟨(Stp.refl _ _).new hE, upd_same⟩ (fun j H' _ z => z.1.sql0 (SqL.of hp2)) ?_ ?_
      · rintro i v H4 H5 hi ⟨S5, hE5⟩ ⟨rfl, hv⟩
        obtain ⟨r, hr', t, rfl, ht⟩ := (hR.stp S5).at_ i v hv
        walk_at "rd"
        refine ⟨t, r, rfl, ⟨ht, hall r (List.mem_of_getElem? hr')⟩, ?_⟩
        refine ⟨_, hE5, Nat.lt_of_le_of_lt (m := 1000) (by rw [List.length_map, List.length_map, List.length_take]; omega) (by decide), S5.putN hE, ?_⟩
        rw [upd_same, take_snoc hr', List.map_append, List.map_append]
        rfl
      rintro H4 ⟨S4, hE4⟩
      rw [hrl, List.take_length] at hE4
      walk_at "rd"
      refine ⟨_, E, rs.map Rec.str, rfl, rfl, .inl (SqL.of hE4), ?_, ?_⟩
      · have h1 : ((rs.map Rec.str).map (·.length)).sum ≤ (rs.map Rec.str).length * 80 := sum_le fun x hx => by
          obtain ⟨z, hm, rfl⟩ := List.mem_map.mp hx
          exact rec_len (hall z hm)
        have h2 : (Str.ofString " | ").length = 3 := by decide +kernel
        rw [List.length_map] at h1 ⊢
        rw [h2]
        omega
      have h6 : (Str.ofString "votes ").length = 6 := by decide +kernel
      refine ⟨Nat.le_trans (m := 1000) (by rw [h6]; have : (Txt.join (Str.ofString " | ") (rs.map Rec.str)).length ≤ 300 := votes_len hl3 hall; omega) (by decide), ?_⟩
      walk_at "rd"
      refine v_app (S4.keep0 hL) (by simp; omega) ?_
      exact ⟨hnext H4 S4 (S4.keep0 hL), _, rfl⟩
  · rintro σ H2 ⟨⟨S, hL⟩, v2, rfl⟩
    rw [hpl, List.take_length] at hL
    walk_at "rd"
    refine ⟨ty_str, ?_⟩
    walk_at "rd"
    refine ⟨_, D, ps.map Pt.str, rfl, rfl, .inl (SqL.of hL), ?_, ?_⟩
    · have h1 : ((ps.map Pt.str).map (·.length)).sum ≤ (ps.map Pt.str).length * 310 := sum_le fun x hx => by
        obtain ⟨z, hm, rfl⟩ := List.mem_map.mp hx
        exact pt_len (hok z hm)
      have h2 : (Str.ofString ", ").length = 2 := by decide +kernel
      rw [List.length_map] at h1 ⊢
      rw [h2]
      omega
    · exact k _ (S1.then S (by simp; exact hD))

/-! ### what a text's rule puts before what, by the law's own look -/
def sp__law_goes (K : PySem.W.Frag) (A : Ad) : Sp := fun vs H Q _ => ∃ (t x y : Addr) (r : Rec) (xs ys : List Int), vs = [.ref t, .ref x, .ref y] ∧ (H t = some (.tup [.str (wordS r.w), .int r.k, .int r.n]) ∧ r.ok ∧ SqT K H x (xs.map V.int) ∧ SqT K H y (ys.map V.int) ∧ r.k < xs.length ∧ r.k < ys.length) ∧ Q (.bl (r.r.b xs ys)) H
theorem colB_up {i : Nat} {xs ys : List Int} : keyB [(i, true)] xs ys = decide (getE xs i < getE ys i) := by
  simp only [keyB]
  split
  · rw [beq_true]
  · exact (decide_eq_false (by omega : ¬ (getE xs i < getE ys i))).symm
theorem colB_down {i : Nat} {xs ys : List Int} : keyB [(i, false)] xs ys = decide (getE ys i < getE xs i) := by
  simp only [keyB]
  split
  · have hb : ∀ u : Bool, (u == false) = !u := by decide
    rw [hb, ← decide_not]; exact decide_eq_decide.mpr (by omega)
  · exact (decide_eq_false (by omega : ¬ (getE ys i < getE xs i))).symm
theorem ok__law_goes {P : Program} {w : World} {K : PySem.W.Frag} {mg : Str → Option Value} {base : Heap} {A : Ad} {f : Addr} {fd : FuncData} (F : Fun K "_law_goes" "_law_goes" s__law_goes f fd) (T : Txt K mg A)  : FnOk P w K mg base CX0 1 f fd ["_law_plain_here", "_law_x", "_law_y"] (sp__law_goes K A) := by
  refine F.ok sc__law_goes (fun vs H Q E h => by obtain ⟨_, _, _, _, _, _, rfl, _⟩ := h; rfl) (fun cdv A' outer s H vs Q E hr h => ?_)
  obtain ⟨t, x, y, r, xs, ys, rfl, ⟨ht, hok, hx, hy, lx, ly⟩, k⟩ := h
  refine ⟨_, (pss_cons (ps_asg (pv 0) (pg_tup (by rfl) (pgs_cons (pg_name (i := 3) sc__law_goes.nd rfl (Or.inl rfl)) (pgs_cons (pg_name (i := 4) sc__law_goes.nd rfl (Or.inl rfl)) (pgs_cons (pg_name (i := 5) sc__law_goes.nd rfl (Or.inl rfl)) pgs_nil)))))
        (pss_cons (ps_if (pt_cmpR (SH.oEq hr.units) (pv 3) pe_str (nomark _)) (pss_one (ps_ret (pe_cmpR (SH.oLt hr.units0) (pe_ix SH.ixA (pv 1) (pv 4) (fun _ _ => rfl)) (pe_ix SH.ixA (pv 2) (pv 4) (fun _ _ => rfl)) (nomark _)))) pss_nil)
        (pss_cons (ps_if (pt_cmpR (SH.oEq hr.units) (pv 3) pe_str (nomark _)) (pss_one (ps_ret (pe_cmpR (SH.oLt hr.units0) (pe_ix SH.ixA (pv 2) (pv 4) (fun _ _ => rfl)) (pe_ix SH.ixA (pv 1) (pv 4) (fun _ _ => rfl)) (nomark _)))) pss_nil)
        (pss_cons (ps_if (pt_cmpR (SH.oEq hr.units) (pv 3) pe_str (nomark _)) (pss_one (ps_ret (pe_cmpR (SH.oLt hr.units0) (pe_op SH.oAdd (pe_ix SH.ixA (pv 1) (pv 4) (fun _ _ => rfl)) (pv 5)) (pe_ix SH.ixA (pv 2) (pv 4) (fun _ _ => rfl)) (nomark _)))) pss_nil)
        (pss_cons (ps_set (i := 6) sc__law_goes.nd rfl (Or.inl rfl) (pe_op SH.oMod (pe_op SH.oSub (pe_ix SH.ixA (pv 2) (pv 4) (fun _ _ => rfl)) (pe_ix SH.ixA (pv 1) (pv 4) (fun _ _ => rfl))) (pv 5)))
        (pss_one (ps_ret (pe_and (pe_cmpR (SH.oLt hr.units0) pe_int (pv 6) (nomark _)) (pe_one (pe_cmpR (SH.oLt hr.units0) (pe_op SH.oAdd (pv 6) (pv 6)) (pv 5) (nomark _))))))))))), ?_⟩
  walk_at "begin"
  obtain ⟨w0, w1, w2, w3, w4, w5, w6, w7, w8, w9⟩ := wordS_is
  have : r.w = 0 ∨ r.w = 1 ∨ r.w = 2 ∨ r.w = 3 := by have := hok.w; omega
  unfold Rec.r at k
  obtain ⟨w', kk, n⟩ := r
  have lx : kk < xs.length := lx
  have ly : kk < ys.length := ly
  walk_at "rd"
  rcases this with h | h | h | h
  · have h : w' = 0 := h
    subst h
    rw [if_pos rfl] at k
    simp only [R0.b, colB_up] at k
    refine v_eqS ?_
    rw [show decide (wordS (Rec.mk 0 kk n).w = "up") = true from w0]
    walk_at "rd"
    refine v_ixTE (n := kk) hx rfl lx ?_
    walk_at "rd"
    refine v_ixTE (n := kk) hy rfl ly ?_
    walk_at "rd"
    exact k
  · have h : w' = 1 := h
    subst h
    rw [if_neg (by simp), if_pos rfl] at k
    simp only [R0.b, colB_down] at k
    refine v_eqS ?_
    rw [show decide (wordS (Rec.mk 1 kk n).w = "up") = false from w1]
    walk_at "rd"
    refine v_eqS ?_
    rw [show decide (wordS (Rec.mk 1 kk n).w = "down") = true from w2]
    walk_at "rd"
    refine v_ixTE (n := kk) hy rfl ly ?_
    walk_at "rd"
    refine v_ixTE (n := kk) hx rfl lx ?_
    walk_at "rd"
    exact k
  · have h : w' = 2 := h
    subst h
    rw [if_neg (by simp), if_neg (by simp), if_pos rfl] at k
    simp only [R0.b] at k
    refine v_eqS ?_
    rw [show decide (wordS (Rec.mk 2 kk n).w = "up") = false from w3]
    walk_at "rd"
    refine v_eqS ?_
    rw [show decide (wordS (Rec.mk 2 kk n).w = "down") = false from w4]
    walk_at "rd"
    refine v_eqS ?_
    rw [show decide (wordS (Rec.mk 2 kk n).w = "near") = true from w5]
    walk_at "rd"
    refine v_ixTE (n := kk) hx rfl lx ?_
    walk_at "rd"
    refine v_ixTE (n := kk) hy rfl ly ?_
    walk_at "rd"
    rw [show decide (n < getE ys kk - getE xs kk) = decide (getE xs kk + n < getE ys kk) from decide_eq_decide.mpr (by omega)] at k
    exact k
  · have h : w' = 3 := h
    subst h
    have hm : 1 ≤ n := hok.m rfl
    have hm' : 1 ≤ (Rec.mk 3 kk n).n := hm
    rw [if_neg (by simp), if_neg (by simp), if_neg (by simp)] at k
    simp only [R0.b] at k
    refine v_eqS ?_
    rw [show decide (wordS (Rec.mk 3 kk n).w = "up") = false from w6]
    walk_at "rd"
    refine v_eqS ?_
    rw [show decide (wordS (Rec.mk 3 kk n).w = "down") = false from w7]
    walk_at "rd"
    refine v_eqS ?_
    rw [show decide (wordS (Rec.mk 3 kk n).w = "near") = false from w8]
    walk_at "rd"
    refine v_ixTE (n := kk) hy rfl ly ?_
    walk_at "rd"
    refine v_ixTE (n := kk) hx rfl lx ?_
    walk_at "rd"
    unfold ringB at k
    refine r_w (c := 0 < (getE ys kk - getE xs kk) % n) (fun hc => ?_) fun hc => ?_
    · walk_at "rd"
      rw [show decide ((getE ys kk - getE xs kk) % n + (getE ys kk - getE xs kk) % n < n) = decide (0 < (getE ys kk - getE xs kk) % n ∧ 2 * ((getE ys kk - getE xs kk) % n) < n) from decide_eq_decide.mpr (by omega)]
      exact k
    · rw [decide_eq_false (by omega)] at k
      exact k
theorem rec_fit {r : Rec} {xs : List Int} (h : r.k < xs.length) : r.r.fit xs := by
  unfold Rec.r
  split
  · intro c hc; rw [List.mem_singleton] at hc; subst hc; exact h
  · split
    · intro c hc; rw [List.mem_singleton] at hc; subst hc; exact h
    · split <;> exact h
theorem pt_fit {p : Pt} {xs : List Int} (hp : p.ok) (h : xs.length = 8) : p.r.fit xs := by
  cases p with
  | one r => exact rec_fit (by rw [h]; exact hp.k)
  | votes rs =>
    intro r hr
    obtain ⟨c, hc, rfl⟩ := List.mem_map.mp hr
    exact rec_fit (by rw [h]; exact (hp.2.2 c hc).k)
def sp__law_puts (K : PySem.W.Frag) (A : Ad) : Sp := fun vs H Q _ => ∃ (q x y : Addr) (p : Pt) (xs ys : List Int), vs = [.ref q, .ref x, .ref y] ∧ (PtAt H q p ∧ p.ok ∧ SqT K H x (xs.map V.int) ∧ SqT K H y (ys.map V.int) ∧ xs.length = 8 ∧ ys.length = 8) ∧ Q (.bl (p.r.b xs ys)) H
theorem ok__law_puts {P : Program} {w : World} {K : PySem.W.Frag} {mg : Str → Option Value} {base : Heap} {A : Ad} {f : Addr} {fd : FuncData} (F : Fun K "_law_puts" "_law_puts" s__law_puts f fd) (T : Txt K mg A) (C__law_goes : SH.Cal P w K mg base CX0 1 "_law_goes" [] (sp__law_goes K A)) : FnOk P w K mg base CX0 2 f fd ["_law_part", "_law_x", "_law_y"] (sp__law_puts K A) := by
  refine F.ok sc__law_puts (fun vs H Q E h => by obtain ⟨_, _, _, _, _, _, rfl, _⟩ := h; rfl) (fun cdv A' outer s H vs Q E hr h => ?_)
  obtain ⟨q, x, y, p, xs, ys, rfl, ⟨hA, hok, hx, hy, lx, ly⟩, k⟩ := h
  refine ⟨_, (pss_cons (ps_if (pt_cmpR SH.oIsN (pe_ix SH.ixA (pv 0) (pe_un un_neg pe_int) (fun _ _ => rfl)) pe_non (nomark _)) (pss_one (ps_ret (SH.pe_callF C__law_goes hr (by rfl) pass0 (pa_cons (pe_ix SH.ixA (pv 0) pe_int (fun _ _ => rfl)) (pa_cons (pv 1) (pa_cons (pv 2) pa_nil)))))) pss_nil)
        (pss_cons (ps_set (i := 3) sc__law_puts.nd rfl (Or.inl rfl) pe_int)
        (pss_cons (ps_for PassesOwn.never rfl (pi_list (pv 0)) (pg_name (i := 4) sc__law_puts.nd rfl (Or.inl rfl)) (pss_one (ps_set (i := 3) sc__law_puts.nd rfl (Or.inl rfl) (pe_op SH.oSub (pe_op SH.oAdd (pv 3) (pe_callTy SH.cInt1 (by rfl) T.z_int (by decide +kernel) (pa_cons (SH.pe_callF C__law_goes hr (by rfl) pass0 (pa_cons (pv 4) (pa_cons (pv 1) (pa_cons (pv 2) pa_nil)))) pa_nil))) (pe_callTy SH.cInt1 (by rfl) T.z_int (by decide +kernel) (pa_cons (SH.pe_callF C__law_goes hr (by rfl) pass0 (pa_cons (pv 4) (pa_cons (pv 2) (pa_cons (pv 1) pa_nil)))) pa_nil))))))
        (pss_one (ps_ret (pe_cmpR SH.oGt (pv 3) pe_int (nomark _))))))), ?_⟩
  walk_at "begin"
  walk_at "rd"
  cases p with
  | one r =>
    obtain ⟨v, hp2, t, rfl, ht⟩ := hA
    have hk8 : r.k < 8 := hok.k
    refine v_ixLast (ys := [.ref t]) (SqL.of hp2) ?_
    walk_at "rd"
    refine r_wT rfl ?_
    walk_at "rd"
    refine v_ixLn (n := 0) (SqL.of hp2) rfl rfl ?_
    walk_at "rd"
    exact ⟨t, x, y, r, xs, ys, rfl, ⟨ht, hok, hx, hy, by omega, by omega⟩, k⟩
  | votes rs =>
    obtain ⟨rvs, hp2, hR⟩ := hA
    obtain ⟨hne, hl3, hall⟩ := hok
    obtain ⟨zs, tz, hzs⟩ := hR.last hne
    refine v_ixLast (ys := zs) (SqL.of (by rw [← hzs]; exact hp2)) ?_
    walk_at "rd"
    refine r_wF (by simp) ?_
    walk_at "rd"
    refine for_it (walk_list (xs := rvs)) (fun j σ H' => H' = H ∧ ∃ v4, σ = [some (.ref q), some (.ref x), some (.ref y), some (.int (voteN ((rs.take j).map Rec.r) xs ys)), v4]) ⟨rfl, _, rfl⟩ (fun _ _ _ _ z => by rw [z.1]; exact SqL.of hp2) ?_ ?_
    · rintro j v σ H1 H2 hj ⟨rfl, v4, rfl⟩ ⟨rfl, hv⟩
      obtain ⟨r, hr', t, rfl, ht⟩ := hR.at_ j v hv
      have hrk := hall r (List.mem_of_getElem? hr')
      have hk8 : r.k < 8 := hrk.k
      walk_at "rd"
      refine ⟨t, x, y, r, xs, ys, rfl, ⟨ht, hrk, hx, hy, by omega, by omega⟩, ?_⟩
      walk_at "rd"
      refine ⟨t, y, x, r, ys, xs, rfl, ⟨ht, hrk, hy, hx, by omega, by omega⟩, ?_⟩
      walk_at "rd"
      rw [take_snoc hr', List.map_append, show List.map Rec.r [r] = [r.r] from rfl, voteN_snoc]
      exact ⟨rfl, _, rfl⟩
    · rintro σ H1 ⟨rfl, v4, rfl⟩
      walk_at "rd"
      rw [List.take_of_length_le (by have := hR.len; omega)]
      exact k
def sp__law_before (K : PySem.W.Frag) (A : Ad) : Sp := fun vs H Q _ => ∃ (q x y : Addr) (pvs : List V) (ps : List Pt) (xs ys : List Int), vs = [.ref q, .ref x, .ref y] ∧ (H q = some (.lst pvs) ∧ PartsAt H pvs ps ∧ (∀ p ∈ ps, p.ok) ∧ SqT K H x (xs.map V.int) ∧ SqT K H y (ys.map V.int) ∧ xs.length = 8 ∧ ys.length = 8) ∧ Q (.bl (chainB (ps.map Pt.r) xs ys)) H
theorem ok__law_before {P : Program} {w : World} {K : PySem.W.Frag} {mg : Str → Option Value} {base : Heap} {A : Ad} {f : Addr} {fd : FuncData} (F : Fun K "_law_before" "_law_before" s__law_before f fd) (T : Txt K mg A) (C__law_puts : SH.Cal P w K mg base CX0 2 "_law_puts" [] (sp__law_puts K A)) : FnOk P w K mg base CX0 3 f fd ["_law_parts_here", "_law_x", "_law_y"] (sp__law_before K A) := by
  refine F.ok sc__law_before (fun vs H Q E h => by obtain ⟨_, _, _, _, _, _, _, rfl, _⟩ := h; rfl) (fun cdv A' outer s H vs Q E hr h => ?_)
  obtain ⟨q, x, y, pvs, ps, xs, ys, rfl, ⟨hq, hP, hok, hx, hy, lx, ly⟩, k⟩ := h
  refine ⟨_, (pss_cons (ps_for PassesOwn.never rfl (pi_list (pv 0)) (pg_name (i := 3) sc__law_before.nd rfl (Or.inl rfl)) (pss_cons (ps_if (pt_val (SH.pe_callF C__law_puts hr (by rfl) pass0 (pa_cons (pv 3) (pa_cons (pv 1) (pa_cons (pv 2) pa_nil))))) (pss_one (ps_ret pe_bl)) pss_nil)
        (pss_one (ps_if (pt_val (SH.pe_callF C__law_puts hr (by rfl) pass0 (pa_cons (pv 3) (pa_cons (pv 2) (pa_cons (pv 1) pa_nil))))) (pss_one (ps_ret pe_bl)) pss_nil))))
        (pss_one (ps_ret pe_bl))), ?_⟩
  walk_at "begin"
  walk_at "rd"
  refine for_it (walk_list (xs := pvs)) (fun j σ H' => H' = H ∧ chainB (ps.map Pt.r) xs ys = chainB ((ps.drop j).map Pt.r) xs ys ∧ ∃ v3, σ = [some (.ref q), some (.ref x), some (.ref y), v3]) ⟨rfl, rfl, _, rfl⟩ (fun _ _ _ _ z => by rw [z.1]; exact SqL.of hq) ?_ ?_
  · rintro j v σ H1 H2 hj ⟨rfl, hk, v3, rfl⟩ ⟨rfl, hv⟩
    obtain ⟨pq, p, rfl, hp', hA⟩ := hP.at_ j v hv
    have hpk := hok p (List.mem_of_getElem? hp')
    obtain ⟨hj', hc'⟩ := List.getElem?_eq_some_iff.mp hp'
    rw [List.drop_eq_getElem_cons hj', hc', List.map_cons] at hk
    simp only [chainB] at hk
    walk_at "rd"
    refine ⟨pq, x, y, p, xs, ys, rfl, ⟨hA, hpk, hx, hy, lx, ly⟩, ?_⟩
    walk_at "rd"
    cases h1 : p.r.b xs ys with
    | true =>
      rw [h1] at hk
      simp at hk
      rw [hk] at k
      walk_at "rd"
      exact k
    | false =>
      walk_at "rd"
      refine ⟨pq, y, x, p, ys, xs, rfl, ⟨hA, hpk, hy, hx, ly, lx⟩, ?_⟩
      walk_at "rd"
      cases h2 : p.r.b ys xs with
      | true =>
        rw [h1, h2] at hk
        simp at hk
        rw [hk] at k
        walk_at "rd"
        exact k
      | false =>
        rw [h1, h2] at hk
        simp at hk
        rw [← List.map_drop] at hk
        walk_at "rd"
        exact ⟨rfl, hk, _, rfl⟩
  · rintro σ H1 ⟨rfl, hk, v3, rfl⟩
    walk_at "rd"
    rw [List.drop_of_length_le (by have := hP.len; omega)] at hk
    rw [hk] at k
    exact k

/-! ### the things, and the law -/
/-- things of eight numbers -/
def RowE (H : Hp) (rvs : List V) (X : List (List Int)) : Prop := rvs.length = X.length ∧ (∀ (i : Nat) (v : V), rvs[i]? = some v → ∃ (x : Addr) (xs : List Int), v = .ref x ∧ X[i]? = some xs ∧ H x = some (.tup (xs.map V.int))) ∧ ∀ xs ∈ X, xs.length = 8
theorem RowE.stp {M : List Addr} {H H' : Hp} {rvs : List V} {X : List (List Int)} (h : RowE H rvs X) (S : Stp M H H') : RowE H' rvs X :=
  ⟨h.1, fun i v e => by obtain ⟨x, xs, h1, h2, h3⟩ := h.2.1 i v e; exact ⟨x, xs, h1, h2, S.tup h3⟩, h.2.2⟩
theorem RowE.nil {H : Hp} : RowE H [] [] := ⟨rfl, fun i v e => by (cases e), by simp⟩
theorem RowE.snoc {H : Hp} {rvs : List V} {X : List (List Int)} {x : Addr} {xs : List Int} (h : RowE H rvs X) (k : H x = some (.tup (xs.map V.int))) (hl8 : xs.length = 8) : RowE H (rvs ++ [.ref x]) (X ++ [xs]) := by
  have hl := h.1
  refine ⟨by simp [hl], fun j v e => ?_, fun ys hys => ?_⟩
  · by_cases hj : j < rvs.length
    · rw [List.getElem?_append_left hj] at e
      obtain ⟨u', r', h1, h2, h3⟩ := h.2.1 j v e
      exact ⟨u', r', h1, by rw [List.getElem?_append_left (by omega)]; exact h2, h3⟩
    · rw [List.getElem?_append_right (by omega)] at e
      have : j - rvs.length = 0 := by
        cases h : j - rvs.length with
        | zero => rfl
        | succ m => rw [h] at e; cases e
      rw [this] at e
      cases e
      exact ⟨x, xs, rfl, by rw [List.getElem?_append_right (by omega), show j - X.length = 0 by omega]; rfl, k⟩
  · rcases List.mem_append.mp hys with z | z
    · exact h.2.2 ys z
    · rw [List.mem_singleton] at z; subst z; exact hl8
theorem RowE.take {H : Hp} {rvs : List V} {X : List (List Int)} (h : RowE H rvs X) (n : Nat) : RowE H (rvs.take n) (X.take n) := by
  refine ⟨by simp [h.1], fun i v e => ?_, fun xs hxs => h.2.2 xs (List.mem_of_mem_take hxs)⟩
  rw [List.getElem?_take] at e ⊢
  split at e
  · rename_i hi
    rw [if_pos hi]
    exact h.2.1 i v e
  · cases e
def sp__law_does (K : PySem.W.Frag) (A : Ad) : Sp := fun vs H Q _ => ∃ (u q tq : Addr) (pvs tvs : List V) (ps : List Pt) (X : List (List Int)), vs = [.ref u, .ref q, .ref tq] ∧ (RT.At K A H u (ps.map Pt.r) ∧ H q = some (.lst pvs) ∧ PartsAt H pvs ps ∧ (∀ p ∈ ps, p.ok) ∧ H tq = some (.lst tvs) ∧ RowE H tvs X) ∧ Q (.bl true) H
theorem ok__law_does {P : Program} {w : World} {K : PySem.W.Frag} {mg : Str → Option Value} {base : Heap} {A : Ad} {f : Addr} {fd : FuncData} (F : Fun K "_law_does" "_law_does" s__law_does f fd) (T : Txt K mg A) (M_ChainRule_before : SH.CalM P w K mg base CX0 3 A.ChainRule "before" [] (sp_ChainRule_before K A)) (M_KeyRule_before : SH.CalM P w K mg base CX0 1 A.KeyRule "before" [] (sp_KeyRule_before K A)) (M_NearRule_before : SH.CalM P w K mg base CX0 1 A.NearRule "before" [] (sp_NearRule_before K A)) (M_RingRule_before : SH.CalM P w K mg base CX0 1 A.RingRule "before" [] (sp_RingRule_before K A)) (M_Rule_before : SH.CalM P w K mg base CX0 1 A.Rule "before" [] (sp_Rule_before K A)) (M_VoteRule_before : SH.CalM P w K mg base CX0 2 A.VoteRule "before" [] (sp_VoteRule_before K A)) (C__law_before : SH.Cal P w K mg base CX0 3 "_law_before" [] (sp__law_before K A)) : FnOk P w K mg base CX0 4 f fd ["_law_rule", "_law_parts_here", "_law_things_here"] (sp__law_does K A) := by
  refine F.ok sc__law_does (fun vs H Q E h => by obtain ⟨_, _, _, _, _, _, _, rfl, _⟩ := h; rfl) (fun cdv A' outer s H vs Q E hr h => ?_)
  obtain ⟨u, q, tq, pvs, tvs, ps, X, rfl, ⟨hU, hq, hP, hok, htq, hX⟩, k⟩ := h
  refine ⟨_, (pss_cons (ps_for PassesOwn.never rfl (pi_list (pv 2)) (pg_name (i := 3) sc__law_does.nd rfl (Or.inl rfl)) (pss_one (ps_for PassesOwn.never rfl (pi_list (pv 2)) (pg_name (i := 4) sc__law_does.nd rfl (Or.inl rfl)) (pss_cons (ps_set (i := 5) sc__law_does.nd rfl (Or.inl rfl) (SH.peOrE (SH.pe_methF (pv 0) M_Rule_before hr pass0 (pa_cons (pv 3) (pa_cons (pv 4) pa_nil))) (SH.peOrE (SH.pe_methF (pv 0) M_ChainRule_before hr pass0 (pa_cons (pv 3) (pa_cons (pv 4) pa_nil))) (SH.peOrE (SH.pe_methF (pv 0) M_VoteRule_before hr pass0 (pa_cons (pv 3) (pa_cons (pv 4) pa_nil))) (SH.peOrE (SH.pe_methF (pv 0) M_KeyRule_before hr pass0 (pa_cons (pv 3) (pa_cons (pv 4) pa_nil))) (SH.peOrE (SH.pe_methF (pv 0) M_NearRule_before hr pass0 (pa_cons (pv 3) (pa_cons (pv 4) pa_nil))) (SH.pe_methF (pv 0) M_RingRule_before hr pass0 (pa_cons (pv 3) (pa_cons (pv 4) pa_nil)))))))))
        (pss_one (ps_if (PW.pt (pw_or (pt_not (pt_val (pe_callB call_isi (by rfl) T.z_isinstance (by decide +kernel) (pa_cons (pv 5) (pa_cons (pe_bltn (v := .ty "bool") (by rfl) T.z_bool (by decide +kernel) rfl) pa_nil))))) (pw_or1 (pt_cmpR (SH.oNe hr.units) (pv 5) (SH.pe_callF C__law_before hr (by rfl) pass0 (pa_cons (pv 1) (pa_cons (pv 3) (pa_cons (pv 4) pa_nil)))) (nomark _))))) (pss_one (ps_ret pe_bl)) pss_nil))))))
        (pss_one (ps_ret pe_bl))), ?_⟩
  walk_at "begin"
  walk_at "rd"
  refine for_it (walk_list (xs := tvs)) (fun j σ H' => H' = H ∧ ∃ v3 v4 v5, σ = [some (.ref u), some (.ref q), some (.ref tq), v3, v4, v5]) ⟨rfl, _, _, _, rfl⟩ (fun _ _ _ _ z => by rw [z.1]; exact SqL.of htq) ?_ ?_
  · rintro i v σ H1 H2 hj ⟨rfl, v3, v4, v5, rfl⟩ ⟨rfl, hv⟩
    obtain ⟨x, xs, rfl, hxe, hx⟩ := hX.2.1 i v hv
    have lx := hX.2.2 xs (List.mem_of_getElem? hxe)
    walk_at "rd"
    refine for_it (walk_list (xs := tvs)) (fun j σ H' => H' = H2 ∧ ∃ v4 v5, σ = [some (.ref u), some (.ref q), some (.ref tq), some (.ref x), v4, v5]) ⟨rfl, _, _, rfl⟩ (fun _ _ _ _ z => by rw [z.1]; exact SqL.of htq) ?_ ?_
    · rintro j v σ H3 H4 hj2 ⟨rfl, v4, v5, rfl⟩ ⟨rfl, hv2⟩
      obtain ⟨y, ys, rfl, hye, hy⟩ := hX.2.1 j v hv2
      have ly := hX.2.2 ys (List.mem_of_getElem? hye)
      walk_at "rd"
      refine RT.go rfl rfl rfl hU (SqT.of hx) (SqT.of hy) (fun r hr' => ?_) ?_
      · obtain ⟨p, hp, rfl⟩ := List.mem_map.mp hr'
        exact ⟨pt_fit (hok p hp) lx, pt_fit (hok p hp) ly⟩
      walk_at "rd"
      refine ⟨q, x, y, pvs, ps, xs, ys, rfl, ⟨hq, hP, hok, SqT.of hx, SqT.of hy, lx, ly⟩, ?_⟩
      walk_at "rd"
      refine r_nwF rfl ?_
      walk_at "rd"
      exact ⟨rfl, _, _, rfl⟩
    · rintro σ H3 ⟨rfl, v4, v5, rfl⟩
      walk_at "rd"
      exact ⟨rfl, _, _, _, rfl⟩
  · rintro σ H1 ⟨rfl, v3, v4, v5, rfl⟩
    walk_at "rd"
    exact k
def sp__law_things (K : PySem.W.Frag) (A : Ad) : Sp := fun vs H Q _ => ∃ (a : Addr) (ns : List Int) (kd : Int), vs = [.ref a, .int kd] ∧ SqL K H a (ns.map V.int) ∧ ∀ (q : Addr) (rvs : List V) (X : List (List Int)) (H' : Hp), H q = none → Stp [] H H' → H' q = some (.lst rvs) → RowE H' rvs X → Q (.ref q) H'
theorem ok__law_things {P : Program} {w : World} {K : PySem.W.Frag} {mg : Str → Option Value} {base : Heap} {A : Ad} {f : Addr} {fd : FuncData} (F : Fun K "_law_things" "_law_things" s__law_things f fd) (T : Txt K mg A) (C__law_cell_at : SH.Cal P w K mg base CX0 1 "_law_cell_at" [] (sp__law_cell_at K A)) : FnOk P w K mg base CX0 2 f fd ["_law_script", "_law_kind"] (sp__law_things K A) := by
  refine F.ok sc__law_things (fun vs H Q E h => by obtain ⟨_, _, _, rfl, _⟩ := h; rfl) (fun cdv A' outer s H vs Q E hr h => ?_)
  obtain ⟨a, ns, kd, rfl, hS, k⟩ := h
  refine ⟨_, (pss_cons (ps_set (i := 2) sc__law_things.nd rfl (Or.inl rfl) (pe_lst pa_nil))
        (pss_cons (ps_for PassesOwn.never rfl (pi_range1 (by rfl) T.z_range (pa_cons pe_int pa_nil)) (pg_name (i := 3) sc__law_things.nd rfl (Or.inr rfl)) (pss_cons (ps_setLc (i := 4) (own := [("_law_k", 5)]) (g := (gName 5)) (tt := tYes) (by rfl) sc__law_things.nd rfl rfl (sw_true rfl rfl rfl (by decide +kernel)) (pi_range1 (by rfl) T.z_range (pa_cons pe_int pa_nil)) (blkOk_by (own := [("_law_k", 5)]) (N := ["_law_script", "_law_kind", "_law_things_here", "_law_t", "_law_cells", "_law_k", "_law_cell"]) (sc := defScope s__law_things) (by decide +kernel)) (fun _ _ _ _ _ => (pg_name (i := 5) sc__law_things.nd rfl (Or.inl rfl))) (fun _ _ _ _ _ => pts_nil) (fun _ _ _ _ _ => (pe_op (SH.opK SH.aAdd K SH.oAdd) (pe_op (SH.opK SH.aAdd K SH.oAdd) (SH.pe_callF C__law_cell_at hr (by rfl) pass0 (pa_cons (pv 0) (pa_cons (pe_op (SH.opK SH.aAdd K SH.oAdd) (pe_op (SH.opK SH.aAdd K SH.oAdd) pe_int (pe_op SH.oMul pe_int (pv 3))) (pv 5)) pa_nil))) (pe_op SH.oMul (pe_op SH.oMul pe_int (pv 3)) (pv 5))) (pv 3))))
        (pss_one (ps_if (pt_cmpR (SH.oEq hr.units) (pv 1) pe_int (nomark _)) (pss_one (ps_expr (pe_bm PySem.F.plainAttrs_list PySem.F.slot_list_append PySem.F.type_list_append mt_append (pv 2) (pa_cons (pe_callTy SH.cTupOf (by rfl) T.z_tuple (by decide +kernel) (pa_cons (pe_lc (own := [("_law_cell", 6)]) (g := (gName 6)) (tt := tYes) (by rfl) sc__law_things.nd (pi_list (pv 4)) (blkOk_by (own := [("_law_cell", 6)]) (N := ["_law_script", "_law_kind", "_law_things_here", "_law_t", "_law_cells", "_law_k", "_law_cell"]) (sc := defScope s__law_things) (by decide +kernel)) (fun _ _ _ _ _ => (pg_name (i := 6) sc__law_things.nd rfl (Or.inl rfl))) (fun _ _ _ _ _ => pts_nil) (fun _ _ _ _ _ => (pe_op SH.oMod (pv 6) pe_int))) pa_nil)) pa_nil)))) (pss_one (ps_if (pt_cmpR (SH.oEq hr.units) (pv 1) pe_int (nomark _)) (pss_one (ps_expr (pe_bm PySem.F.plainAttrs_list PySem.F.slot_list_append PySem.F.type_list_append mt_append (pv 2) (pa_cons (pe_callTy SH.cTupOf (by rfl) T.z_tuple (by decide +kernel) (pa_cons (pe_lc (own := [("_law_cell", 6)]) (g := (gName 6)) (tt := tYes) (by rfl) sc__law_things.nd (pi_list (pv 4)) (blkOk_by (own := [("_law_cell", 6)]) (N := ["_law_script", "_law_kind", "_law_things_here", "_law_t", "_law_cells", "_law_k", "_law_cell"]) (sc := defScope s__law_things) (by decide +kernel)) (fun _ _ _ _ _ => (pg_name (i := 6) sc__law_things.nd rfl (Or.inl rfl))) (fun _ _ _ _ _ => pts_nil) (fun _ _ _ _ _ => (pe_ix (SH.ixK SH.aIx K SH.ixA) (pe_lst (pa_cons (pe_op SH.oSub (pe_op SH.oMod (pe_op SH.oDiv (pv 6) pe_int) (pe_op SH.oPow pe_int pe_int)) (pe_op SH.oPow pe_int pe_int)) (pa_cons (pe_op SH.oSub (pe_op SH.oMod (pe_op SH.oDiv (pv 6) pe_int) pe_int) pe_int) pa_nil))) (pe_op SH.oMod (pv 6) pe_int) (fun _ _ => rfl)))) pa_nil)) pa_nil)))) (pss_one (ps_expr (pe_bm PySem.F.plainAttrs_list PySem.F.slot_list_append PySem.F.type_list_append mt_append (pv 2) (pa_cons (pe_callTy SH.cTupOf (by rfl) T.z_tuple (by decide +kernel) (pa_cons (pe_lc (own := [("_law_cell", 6)]) (g := (gName 6)) (tt := tYes) (by rfl) sc__law_things.nd (pi_list (pv 4)) (blkOk_by (own := [("_law_cell", 6)]) (N := ["_law_script", "_law_kind", "_law_things_here", "_law_t", "_law_cells", "_law_k", "_law_cell"]) (sc := defScope s__law_things) (by decide +kernel)) (fun _ _ _ _ _ => (pg_name (i := 6) sc__law_things.nd rfl (Or.inl rfl))) (fun _ _ _ _ _ => pts_nil) (fun _ _ _ _ _ => (pe_op SH.oSub (pe_op SH.oMul (pe_op SH.oMod (pv 6) pe_int) (pe_op SH.oMul pe_int (pe_op SH.oPow pe_int pe_int))) (pe_op SH.oPow pe_int pe_int)))) pa_nil)) pa_nil))))))))))
        (pss_one (ps_ret (pv 2))))), ?_⟩
  walk_at "begin"
  walk_at "rd"
  intro D hD
  have S1 := (Stp.refl [] H).new (o := .lst []) hD
  have hD1 := upd_same (H := H) (a := D) (o := .lst [])
  walk_at "rd"
  generalize hH1 : upd H D (.lst []) = H1 at S1 hD1 ⊢
  refine for_it walk_range (fun j σ H' => ∃ (rvs : List V) (X : List (List Int)) (v3 v4 : Option V), (Stp [D] H1 H' ∧ H' D = some (.lst rvs) ∧ RowE H' rvs X ∧ X.length = j) ∧ σ = [some (.ref a), some (.int kd), some (.ref D), v3, v4, none, none])
    ⟨[], [], _, _, ⟨.refl _ _, hD1, RowE.nil, rfl⟩, rfl⟩ (fun _ _ _ _ _ => True.intro) ?_ ?_
  · rintro j x σ H2 H3 hj ⟨rvs, X, v3, v4, ⟨S, hL, hX, hl⟩, rfl⟩ ⟨rfl, rfl⟩
    simp only [Int.zero_add]
    have hj5 : j < 5 := by omega
    have hrl := hX.1
    have S03 : Stp [] H H3 := S1.then S (by simp; exact hD)
    walk_at "rd"
    intro E hE
    refine lc_it walk_range (fun j H' => ∃ ms : List Int, ms.length = j ∧ H' = upd H3 E (.lst (ms.map V.int))) ⟨[], rfl, rfl⟩ (fun _ _ _ _ => True.intro) ?_ ?_
    · rintro i x H4 H5 hi ⟨ms, hml, rfl⟩ ⟨rfl, rfl⟩
      simp only [Int.zero_add]
      have hi8 : i < 8 := by omega
      walk_at "rd"
      refine ⟨a, ns, 7 + 8 * j + i, rfl, (S03.new hE).sql0 hS, fun c => ?_⟩
      walk_at "rd"
      refine ⟨_, upd_same, Nat.lt_of_le_of_lt (m := 1000) (by simp; omega) (by decide), ms ++ [c + 3 * (j : Int) * (i : Int) + (j : Int)], by simp [hml], ?_⟩
      rw [upd_upd, List.map_append]
      rfl
    rintro H4 ⟨ms, hml, rfl⟩
    have hml : ms.length = 8 := hml
    have S34 : Stp [] H3 (upd H3 E (.lst (ms.map V.int))) := (Stp.refl _ _).new hE
    have hE4 := upd_same (H := H3) (a := E) (o := .lst (ms.map V.int))
    have hL4 := S34.keep0 hL
    generalize upd H3 E (.lst (ms.map V.int)) = H4 at S34 hE4 hL4 ⊢
    have fin : ∀ (H5 : Hp) (G : Addr) (zs : List Int), zs.length = 8 → Stp [] H4 H5 → H5 G = none →
        Stp [D] H1 (upd (upd H5 G (.tup (zs.map V.int))) D (.lst (rvs ++ [.ref G]))) ∧ upd (upd H5 G (.tup (zs.map V.int))) D (.lst (rvs ++ [.ref G])) D = some (.lst (rvs ++ [.ref G])) ∧ RowE (upd (upd H5 G (.tup (zs.map V.int))) D (.lst (rvs ++ [.ref G]))) (rvs ++ [.ref G]) (X ++ [zs]) := by
      intro H5 G zs hz S45 hG
      have hL5 := S45.keep0 hL4
      have nGD : G ≠ D := (ne_of_none hL5 hG).symm
      have S5 : Stp [D] H3 (upd (upd H5 G (.tup (zs.map V.int))) D (.lst (rvs ++ [.ref G]))) := (((S34.trans S45).mono (by simp)).new hG).putL (by simp) (upd_old hL5 hG)
      exact ⟨S.trans S5, upd_same, (hX.stp S5).snoc (by rw [upd_ne nGD, upd_same]) hz⟩
    walk_at "rd"
    refine r_w (fun hc => ?_) fun hc => ?_
    · skip
      walk_at "rd"
      intro F hF
      refine lc_it (walk_list (xs := ms.map V.int)) (fun j H' => Stp [] H4 H' ∧ ∃ zs : List Int, zs.length = j ∧ H' F = some (.lst (zs.map V.int))) ⟨(Stp.refl _ _).new hF, [], rfl, upd_same⟩ (fun j H' _ z => SqL.of (z.1.keep0 hE4)) ?_ ?_
      · rintro i x H5 H6 hi ⟨S6, zs, hzl, hF6⟩ ⟨rfl, hx⟩
        obtain ⟨c, hc', rfl⟩ := map_at hx
        rw [List.length_map] at hi
        walk_at "rd"
        refine ⟨_, hF6, Nat.lt_of_le_of_lt (m := 1000) (by simp; omega) (by decide), S6.putN hF, zs ++ [c % 4], by simp [hzl], ?_⟩
        rw [upd_same, List.map_append]
        rfl
      rintro H5 ⟨S5, zs, hzl, hF5⟩
      rw [List.length_map, hml] at hzl
      walk_at "rd"
      intro G hG
      walk_at "rd"
      refine v_app (upd_old (S5.keep0 hL4) hG) (by omega) ?_
      obtain ⟨P1, P2, P3⟩ := fin H5 G zs hzl S5 hG
      exact ⟨_, X ++ [zs], _, _, ⟨P1, P2, P3, by simp [hl]⟩, rfl⟩
    · walk_at "rd"
      refine r_w (fun hc => ?_) fun hc => ?_
      · skip
        walk_at "rd"
        intro F hF
        refine lc_it (walk_list (xs := ms.map V.int)) (fun j H' => Stp [] H4 H' ∧ ∃ zs : List Int, zs.length = j ∧ H' F = some (.lst (zs.map V.int))) ⟨(Stp.refl _ _).new hF, [], rfl, upd_same⟩ (fun j H' _ z => SqL.of (z.1.keep0 hE4)) ?_ ?_
        · rintro i x H5 H6 hi ⟨S6, zs, hzl, hF6⟩ ⟨rfl, hx⟩
          obtain ⟨c, hc', rfl⟩ := map_at hx
          rw [List.length_map] at hi
          walk_at "rd"
          refine SH.v_mod big60_pos ?_
          walk_at "rd"
          refine ⟨⟨by decide, by decide, by decide⟩, ?_⟩
          walk_at "rd"
          intro p hp
          walk_at "rd"
          generalize c / 2 % big60 - 10 ^ ((59 : Int)).toNat = z1 at *
          refine v_ixMod (m := 2) (SqL.of upd_same) rfl (by decide) fun v hv => ?_
          obtain ⟨z, rfl⟩ : ∃ z : Int, v = .int z := by
            simp at hv
            rcases hv with rfl | rfl
            · exact ⟨_, rfl⟩
            · exact ⟨_, rfl⟩
          refine ⟨_, upd_old hF6 hp, Nat.lt_of_le_of_lt (m := 1000) (by simp; omega) (by decide), (S6.new hp).putN hF, zs ++ [z], by simp [hzl], ?_⟩
          rw [upd_same, List.map_append]
          rfl
        rintro H5 ⟨S5, zs, hzl, hF5⟩
        rw [List.length_map, hml] at hzl
        walk_at "rd"
        intro G hG
        walk_at "rd"
        refine v_app (upd_old (S5.keep0 hL4) hG) (by omega) ?_
        obtain ⟨P1, P2, P3⟩ := fin H5 G zs hzl S5 hG
        exact ⟨_, X ++ [zs], _, _, ⟨P1, P2, P3, by simp [hl]⟩, rfl⟩
      · skip
        walk_at "rd"
        intro F hF
        refine lc_it (walk_list (xs := ms.map V.int)) (fun j H' => Stp [] H4 H' ∧ ∃ zs : List Int, zs.length = j ∧ H' F = some (.lst (zs.map V.int))) ⟨(Stp.refl _ _).new hF, [], rfl, upd_same⟩ (fun j H' _ z => SqL.of (z.1.keep0 hE4)) ?_ ?_
        · rintro i x H5 H6 hi ⟨S6, zs, hzl, hF6⟩ ⟨rfl, hx⟩
          obtain ⟨c, hc', rfl⟩ := map_at hx
          rw [List.length_map] at hi
          walk_at "rd"
          refine ⟨⟨by decide, by decide, by decide⟩, ?_⟩
          generalize ((10 : Int) ^ ((59 : Int)).toNat) = b59
          walk_at "rd"
          generalize c % 4 * (5 * b59) - big60 = z
          refine ⟨_, hF6, Nat.lt_of_le_of_lt (m := 1000) (by simp; omega) (by decide), S6.putN hF, zs ++ [z], by simp [hzl], ?_⟩
          rw [upd_same, List.map_append]
          rfl
        rintro H5 ⟨S5, zs, hzl, hF5⟩
        rw [List.length_map, hml] at hzl
        walk_at "rd"
        intro G hG
        walk_at "rd"
        refine v_app (upd_old (S5.keep0 hL4) hG) (by omega) ?_
        obtain ⟨P1, P2, P3⟩ := fin H5 G zs hzl S5 hG
        exact ⟨_, X ++ [zs], _, _, ⟨P1, P2, P3, by simp [hl]⟩, rfl⟩
  · rintro σ H2 ⟨rvs, X, v3, v4, ⟨S, hL, hX, hl⟩, rfl⟩
    walk_at "rd"
    exact k D rvs X H2 hD (S1.then S (by simp; exact hD)) hL hX

def Pt.wids : Pt → List Int
  | .one r => [(r.k : Int)]
  | .votes rs => rs.map fun r => (r.k : Int)
theorem foldl_max2 : ∀ (b : List Int) (m k : Int), b.foldl max (max m k) = max m (b.foldl max k)
  | [], m, k => rfl
  | x :: b, m, k => by
    rw [List.foldl_cons, List.foldl_cons, show max (max m k) x = max m (max k x) by omega]
    exact foldl_max2 b m (max k x)
theorem maxD_app (a b : List Int) : maxD (a ++ b) = max (maxD a) (maxD b) := by
  have h := foldl_max2 b (maxD a) (-1)
  have hl := maxD_low a
  rw [show max (maxD a) (-1) = maxD a by omega] at h
  unfold maxD at *
  rw [List.foldl_append]
  exact h
theorem rec_wid (r : Rec) : r.r.wid = (r.k : Int) := by
  unfold Rec.r
  split
  · show max (-1) (r.k : Int) = _; omega
  · split
    · show max (-1) (r.k : Int) = _; omega
    · split <;> rfl
theorem pt_wid (p : Pt) : p.r.wid = maxD p.wids := by
  cases p with
  | one r => show r.r.wid = max (-1) (r.k : Int); rw [rec_wid]; omega
  | votes rs =>
    show maxD ((rs.map Rec.r).map R0.wid) = maxD (rs.map fun r => (r.k : Int))
    rw [List.map_map]
    congr 1
    exact List.map_congr_left fun r _ => rec_wid r
theorem maxD_flat : ∀ ps : List Pt, maxD (ps.flatMap Pt.wids) = maxD ((ps.map Pt.r).map R1.wid)
  | [] => rfl
  | p :: ps => by
    rw [List.flatMap_cons, maxD_app, maxD_flat ps, List.map_cons, List.map_cons, show p.r.wid :: List.map R1.wid (List.map Pt.r ps) = [p.r.wid] ++ List.map R1.wid (List.map Pt.r ps) from rfl, maxD_app, pt_wid]
    have := maxD_low p.wids
    rw [show maxD [maxD p.wids] = maxD p.wids from by show max (-1) (maxD p.wids) = maxD p.wids; omega]
theorem pt_few {p : Pt} (h : p.ok) : p.r.few := by
  have rf : ∀ r : Rec, r.r.few := fun r => by
    unfold Rec.r
    split
    · show 1 ≤ 1000; omega
    · split
      · show 1 ≤ 1000; omega
      · split <;> exact True.intro
  cases p with
  | one r => exact rf r
  | votes rs =>
    refine ⟨fun r hr => ?_, by have := h.2.1; simp; omega⟩
    obtain ⟨c, hc, rfl⟩ := List.mem_map.mp hr
    exact rf c
def sp__law_whole (K : PySem.W.Frag) (A : Ad) : Sp := fun vs H Q _ => ∃ (c : Int), vs = [.int c] ∧ Q (.bl true) H
theorem ok__law_whole {P : Program} {w : World} {K : PySem.W.Frag} {mg : Str → Option Value} {base : Heap} {A : Ad} {f : Addr} {fd : FuncData} (F : Fun K "_law_whole" "_law_whole" s__law_whole f fd) (T : Txt K mg A)  : FnOk P w K mg base CX0 1 f fd ["_law_found"] (sp__law_whole K A) := by
  refine F.ok sc__law_whole (fun vs H Q E h => by obtain ⟨_, rfl, _⟩ := h; rfl) (fun cdv A' outer s H vs Q E hr h => ?_)
  obtain ⟨c, rfl, k⟩ := h
  refine ⟨_, (pss_one (ps_ret (pe_and (pe_callB call_isi (by rfl) T.z_isinstance (by decide +kernel) (pa_cons (pv 0) (pa_cons (pe_bltn (v := .ty "int") (by rfl) T.z_int (by decide +kernel) rfl) pa_nil))) (pe_one (pe_not (pe_callB call_isi (by rfl) T.z_isinstance (by decide +kernel) (pa_cons (pv 0) (pa_cons (pe_bltn (v := .ty "bool") (by rfl) T.z_bool (by decide +kernel) rfl) pa_nil)))))))), ?_⟩
  walk_at "begin"
  walk_at "rd"
  exact k
def sp_law (K : PySem.W.Frag) (A : Ad) : Sp := lawSp K
theorem ok_law {P : Program} {w : World} {K : PySem.W.Frag} {mg : Str → Option Value} {base : Heap} {A : Ad} {f : Addr} {fd : FuncData} (F : Fun K "law" "law" s_law f fd) (T : Txt K mg A) (M_ChainRule_widest : SH.CalM P w K mg base CX0 3 A.ChainRule "widest" [] (sp_ChainRule_widest K A)) (M_KeyRule_widest : SH.CalM P w K mg base CX0 1 A.KeyRule "widest" [] (sp_KeyRule_widest K A)) (M_NearRule_widest : SH.CalM P w K mg base CX0 1 A.NearRule "widest" [] (sp_NearRule_widest K A)) (M_RingRule_widest : SH.CalM P w K mg base CX0 1 A.RingRule "widest" [] (sp_RingRule_widest K A)) (M_Rule_widest : SH.CalM P w K mg base CX0 1 A.Rule "widest" [] (sp_Rule_widest K A)) (M_VoteRule_widest : SH.CalM P w K mg base CX0 2 A.VoteRule "widest" [] (sp_VoteRule_widest K A)) (C__law_cell_at : SH.Cal P w K mg base CX0 1 "_law_cell_at" [] (sp__law_cell_at K A)) (C__law_does : SH.Cal P w K mg base CX0 4 "_law_does" [] (sp__law_does K A)) (C__law_parts : SH.Cal P w K mg base CX0 2 "_law_parts" [] (sp__law_parts K A)) (C__law_text : SH.Cal P w K mg base CX0 2 "_law_text" [] (sp__law_text K A)) (C__law_things : SH.Cal P w K mg base CX0 2 "_law_things" [] (sp__law_things K A)) (C__law_whole : SH.Cal P w K mg base CX0 1 "_law_whole" [] (sp__law_whole K A)) (C_read_rule : SH.Cal P w K mg base CX0 6 "read_rule" [] (sp_read_rule K A)) : FnOk P w K mg base CX0 7 f fd ["_law_script"] (sp_law K A) := by
  refine F.ok sc_law (fun vs H Q E h => by obtain ⟨_, _, rfl, _⟩ := h; rfl) (fun cdv A' outer s H vs Q E hr h => ?_)
  obtain ⟨a, ns, rfl, hS, hlen, k⟩ := h
  refine ⟨_, (pss_cons (ps_set (i := 1) sc_law.nd rfl (Or.inl rfl) (SH.pe_callF C__law_parts hr (by rfl) pass0 (pa_cons (pv 0) (pa_cons (pe_op SH.oMod (SH.pe_callF C__law_cell_at hr (by rfl) pass0 (pa_cons (pv 0) (pa_cons pe_int pa_nil))) pe_int) pa_nil))))
        (pss_cons (ps_set (i := 2) sc_law.nd rfl (Or.inl rfl) (SH.pe_callF C__law_things hr (by rfl) pass0 (pa_cons (pv 0) (pa_cons (pe_op SH.oMod (pe_op SH.oDiv (SH.pe_callF C__law_cell_at hr (by rfl) pass0 (pa_cons (pv 0) (pa_cons pe_int pa_nil))) pe_int) pe_int) pa_nil))))
        (pss_cons (ps_set (i := 3) sc_law.nd rfl (Or.inl rfl) (pe_un un_neg pe_int))
        (pss_cons (ps_for PassesOwn.never rfl (pi_list (pv 1)) (pg_name (i := 4) sc_law.nd rfl (Or.inl rfl)) (pss_one (ps_for PassesOwn.never rfl (pi_list (pv 4)) (pg_name (i := 5) sc_law.nd rfl (Or.inl rfl)) (pss_one (ps_if (pt_cmpR SH.oNotN (pv 5) pe_non (nomark _)) (pss_one (ps_set (i := 3) sc_law.nd rfl (Or.inl rfl) (pe_callB (SH.cMax2 rfl) (by rfl) T.z_max (by decide +kernel) (pa_cons (pv 3) (pa_cons (pe_ix SH.ixA (pv 5) pe_int (fun _ _ => rfl)) pa_nil))))) pss_nil)))))
        (pss_cons (ps_set (i := 6) sc_law.nd rfl (Or.inl rfl) (SH.pe_callF C__law_text hr (by rfl) pass0 (pa_cons (pv 1) pa_nil)))
        (pss_cons (ps_set (i := 7) sc_law.nd rfl (Or.inl rfl) (SH.pe_callF C_read_rule hr (by rfl) pass0 (pa_cons (pv 6) pa_nil)))
        (pss_cons (ps_if (PW.pt (pw_or (pt_not (pt_val (SH.pe_callF C__law_whole hr (by rfl) pass0 (pa_cons (SH.peOrE (SH.pe_methF0 (pv 7) M_Rule_widest hr pass0) (SH.peOrE (SH.pe_methF0 (pv 7) M_ChainRule_widest hr pass0) (SH.peOrE (SH.pe_methF0 (pv 7) M_VoteRule_widest hr pass0) (SH.peOrE (SH.pe_methF0 (pv 7) M_KeyRule_widest hr pass0) (SH.peOrE (SH.pe_methF0 (pv 7) M_NearRule_widest hr pass0) (SH.pe_methF0 (pv 7) M_RingRule_widest hr pass0)))))) pa_nil)))) (pw_or (pt_cmpR (SH.oNe hr.units) (SH.peOrE (SH.pe_methF0 (pv 7) M_Rule_widest hr pass0) (SH.peOrE (SH.pe_methF0 (pv 7) M_ChainRule_widest hr pass0) (SH.peOrE (SH.pe_methF0 (pv 7) M_VoteRule_widest hr pass0) (SH.peOrE (SH.pe_methF0 (pv 7) M_KeyRule_widest hr pass0) (SH.peOrE (SH.pe_methF0 (pv 7) M_NearRule_widest hr pass0) (SH.pe_methF0 (pv 7) M_RingRule_widest hr pass0)))))) (pv 3) (nomark _)) (pw_or1 (pt_not (pt_val (SH.pe_callF C__law_does hr (by rfl) pass0 (pa_cons (pv 7) (pa_cons (pv 1) (pa_cons (pv 2) pa_nil)))))))))) (pss_one (ps_ret pe_bl)) pss_nil)
        (pss_cons (ps_set (i := 8) sc_law.nd rfl (Or.inl rfl) (SH.pe_callF C_read_rule hr (by rfl) pass0 (pa_cons pe_str pa_nil)))
        (pss_cons (ps_if (PW.pt (pw_or (pt_cmpR (SH.oNe hr.units) (SH.pe_methF0 (pv 8) M_ChainRule_widest hr pass0) pe_int (nomark _)) (pw_or1 (pt_not (pt_val (SH.pe_callF C__law_does hr (by rfl) pass0 (pa_cons (SH.pe_callF C_read_rule hr (by rfl) pass0 (pa_cons (pv 6) pa_nil)) (pa_cons (pv 1) (pa_cons (pe_slice sl_list (pv 2) po_none (po_some pe_int)) pa_nil))))))))) (pss_one (ps_ret pe_bl)) pss_nil)
        (pss_one (ps_ret (SH.pe_callF C__law_does hr (by rfl) pass0 (pa_cons (pv 7) (pa_cons (pv 1) (pa_cons (pe_slice sl_list (pv 2) po_none (po_some pe_int)) pa_nil))))))))))))))), ?_⟩
  walk_at "begin"
  walk_at "rd"
  refine ⟨a, ns, 0, rfl, hS, fun c0 => ?_⟩
  walk_at "rd"
  have m0 := Int.emod_nonneg c0 (show (6 : Int) ≠ 0 by decide)
  have m1 := Int.emod_lt_of_pos c0 (show (0 : Int) < 6 by decide)
  obtain ⟨m, hm⟩ := Int.eq_ofNat_of_zero_le m0
  rw [hm]
  refine ⟨a, ns, m, rfl, ⟨hS, by omega⟩, fun q pvs ps H1 hq S1 hq1 hP hpl hok => ?_⟩
  have hS1 := S1.sql0 hS
  walk_at "rd"
  refine ⟨a, ns, 0, rfl, hS1, fun c0' => ?_⟩
  walk_at "rd"
  refine ⟨a, ns, _, rfl, hS1, fun tq rvs X H2 htq S2 ht2 hX => ?_⟩
  have hq2 := S2.keep0 hq1
  have hP2 := hP.stp0 S2
  clear S1 S2 hq1 hP hS1 hq htq
  walk_at "rd"
  have hpv := hP2.len
  refine for_it (walk_list (xs := pvs)) (fun j σ H' => H' = H2 ∧ ∃ v4 v5, σ = [some (.ref a), some (.ref q), some (.ref tq), some (.int (maxD ((ps.take j).flatMap Pt.wids))), v4, v5, none, none, none]) ⟨rfl, _, _, rfl⟩ (fun _ _ _ _ z => by rw [z.1]; exact SqL.of hq2) ?_ ?_
  · rintro j v σ H3 H4 hj ⟨rfl, v4, v5, rfl⟩ ⟨rfl, hv⟩
    obtain ⟨pq, p, rfl, hp', hA⟩ := hP2.at_ j v hv
    rw [take_snoc hp', List.flatMap_append, List.flatMap_singleton, maxD_app]
    have hW0 := maxD_low ((ps.take j).flatMap Pt.wids)
    generalize maxD ((ps.take j).flatMap Pt.wids) = W0 at hW0 ⊢
    have eW0 : max W0 (maxD ([] : List Int)) = W0 := by show max W0 (-1) = W0; omega
    walk_at "rd"
    cases p with
    | one r =>
      obtain ⟨v, hp2, t, rfl, ht⟩ := hA
      refine v_iList (SqL.of hp2) ?_
      refine for_it (walk_list (xs := [.ref t, .non])) (fun j σ H' => H' = H4 ∧ ∃ v5, σ = [some (.ref a), some (.ref q), some (.ref tq), some (.int (max W0 (maxD (([(r.k : Int)] : List Int).take j)))), some (.ref pq), v5, none, none, none]) ⟨rfl, _, by rw [List.take_zero, eW0]⟩ (fun _ _ _ _ z => by rw [z.1]; exact SqL.of hp2) ?_ ?_
      · rintro j x σ H5 H6 hj ⟨rfl, v5, rfl⟩ ⟨rfl, hx⟩
        match j, hx with
        | 0, hx =>
          cases hx
          walk_at "rd"
          refine r_nwT (by simp) ?_
          walk_at "rd"
          refine v_ixTn (n := 1) (SqT.of ht) rfl rfl ?_
          walk_at "rd"
          refine ⟨rfl, some (.ref t), ?_⟩
          show [_, _, _, some (V.int (if (r.k : Int) > max W0 (maxD []) then (r.k : Int) else max W0 (maxD []))), _, _, _, _, _] = [_, _, _, some (V.int (max W0 (max (-1) (r.k : Int)))), _, _, _, _, _]
          rw [eW0, show (if (r.k : Int) > W0 then (r.k : Int) else W0) = max W0 (max (-1) (r.k : Int)) from by split <;> omega]
        | 1, hx =>
          cases hx
          walk_at "rd"
          refine r_nwF rfl ?_
          walk_at "rd"
          exact ⟨rfl, _, rfl⟩
      · rintro σ H5 ⟨rfl, v5, rfl⟩
        walk_at "rd"
        exact ⟨rfl, _, _, rfl⟩
    | votes rs =>
      obtain ⟨rvs', hp2, hR⟩ := hA
      have hrl := hR.len
      refine v_iList (SqL.of hp2) ?_
      refine for_it (walk_list (xs := rvs')) (fun j σ H' => H' = H4 ∧ ∃ v5, σ = [some (.ref a), some (.ref q), some (.ref tq), some (.int (max W0 (maxD ((rs.map fun r => (r.k : Int)).take j)))), some (.ref pq), v5, none, none, none]) ⟨rfl, _, by rw [List.take_zero, eW0]⟩ (fun _ _ _ _ z => by rw [z.1]; exact SqL.of hp2) ?_ ?_
      · rintro j x σ H5 H6 hj ⟨rfl, v5, rfl⟩ ⟨rfl, hx⟩
        obtain ⟨r, hr', t, rfl, ht⟩ := hR.at_ j x hx
        walk_at "rd"
        refine r_nwT (by simp) ?_
        walk_at "rd"
        refine v_ixTn (n := 1) (SqT.of ht) rfl rfl ?_
        walk_at "rd"
        refine ⟨rfl, some (.ref t), ?_⟩
        rw [take_snoc (x := (r.k : Int)) (by rw [List.getElem?_map, hr']; rfl), maxD_snoc]
        generalize maxD ((rs.map fun r => (r.k : Int)).take j) = W1
        rw [show (if (r.k : Int) > max W0 W1 then (r.k : Int) else max W0 W1) = max W0 (max W1 (r.k : Int)) from by split <;> omega]
      · rintro σ H5 ⟨rfl, v5, rfl⟩
        walk_at "rd"
        refine ⟨rfl, some (.ref pq), v5, ?_⟩
        rw [List.take_of_length_le (by rw [List.length_map]; omega)]
        rfl
  rintro σ H3 ⟨rfl, v4, v5, rfl⟩
  rw [hpv, List.take_length, maxD_flat]
  walk_at "rd"
  refine ⟨q, pvs, ps, rfl, ⟨hq2, hP2, hpl, hok⟩, fun H4 S4 => ?_⟩
  have hq4 := S4.keep0 hq2
  have hP4 := hP2.stp0 S4
  have ht4 := S4.keep0 ht2
  have hX4 := hX.stp S4
  clear S4
  walk_at "rd"
  have few : ∀ r ∈ ps.map Pt.r, r.few := fun r hr' => by
    obtain ⟨p, hp, rfl⟩ := List.mem_map.mp hr'
    exact pt_few (hok p hp)
  refine ⟨ps, rfl, ⟨by omega, hok⟩, fun u H5 S5 hU => ?_⟩
  have hq5 := S5.keep0 hq4
  have hP5 := hP4.stp0 S5
  have ht5 := S5.keep0 ht4
  have hX5 := hX4.stp S5
  clear S5
  walk_at "rd"
  refine RT.goW rfl hU few (by simp; omega) fun H6 S6 => ?_
  have hq6 := S6.keep0 hq5
  have hP6 := hP5.stp0 S6
  have ht6 := S6.keep0 ht5
  have hX6 := hX5.stp S6
  have hU6 := hU.stp S6 (by simp)
  clear S6
  walk_at "rd"
  refine ⟨_, rfl, ?_⟩
  walk_at "rd"
  refine RT.goW rfl hU6 few (by simp; omega) fun H7 S7 => ?_
  have hq7 := S7.keep0 hq6
  have hP7 := hP6.stp0 S7
  have ht7 := S7.keep0 ht6
  have hX7 := hX6.stp S7
  have hU7 := hU6.stp S7 (by simp)
  clear S7
  walk_at "rd"
  refine r_nwF rfl ?_
  walk_at "rd"
  refine ⟨u, q, tq, pvs, rvs, ps, X, rfl, ⟨hU7, hq7, hP7, hok, ht7, hX7⟩, ?_⟩
  walk_at "rd"
  have e2 : Str.ofString "down 7, up 0" = ruleS [.one ⟨1, 7, 0⟩, .one ⟨0, 0, 0⟩] := by decide +kernel
  refine ⟨[.one ⟨1, 7, 0⟩, .one ⟨0, 0, 0⟩], by rw [← e2]; rfl, ⟨by simp, fun p hp => ?_⟩, fun u2 H8 S8 hU2 => ?_⟩
  · simp at hp
    rcases hp with rfl | rfl
    · exact ⟨by decide, by decide, fun h => absurd h (by decide), fun h => absurd h (by decide)⟩
    · exact ⟨by decide, by decide, fun h => absurd h (by decide), fun h => absurd h (by decide)⟩
  have hq8 := S8.keep0 hq7
  have hP8 := hP7.stp0 S8
  have ht8 := S8.keep0 ht7
  have hX8 := hX7.stp S8
  have hU8 := hU7.stp S8 (by simp)
  clear S8
  walk_at "rd"
  cases hU2 with
  | @chain d l uvs rs h hl hR =>
  refine SH.v_meth h rfl ?_
  walk_at "rd"
  refine ⟨u2, d, l, uvs, _, rfl, h, ⟨SqL.of hl, hR, fun r hr' => ?_, by simp⟩, fun H9 S9 => ?_⟩
  · obtain ⟨p, hp, rfl⟩ := List.mem_map.mp hr'
    simp at hp
    rcases hp with rfl | rfl
    · show 1 ≤ 1000; omega
    · show 1 ≤ 1000; omega
  have hq9 := S9.keep0 hq8
  have hP9 := hP8.stp0 S9
  have ht9 := S9.keep0 ht8
  have hX9 := hX8.stp S9
  have hU9 := hU8.stp S9 (by simp)
  clear S9
  walk_at "rd"
  refine r_nwF rfl ?_
  walk_at "rd"
  refine ⟨ps, rfl, ⟨by omega, hok⟩, fun u3 H10 S10 hU3 => ?_⟩
  have hq10 := S10.keep0 hq9
  have hP10 := hP9.stp0 S10
  have ht10 := S10.keep0 ht9
  have hX10 := hX9.stp S10
  have hU10 := hU9.stp S10 (by simp)
  clear S10
  walk_at "rd"
  intro sq hsq
  rw [show cutV rvs none (some 2) = rvs.take 2 from by
    have := cutL_upto rvs 2
    have e := cut_map (α := V) id rvs none (some 2)
    rw [List.map_id, List.map_id] at e
    rw [e]; exact this]
  have S11 := (Stp.refl [] H10).new (o := .lst (rvs.take 2)) hsq
  have hs11 := upd_same (H := H10) (a := sq) (o := .lst (rvs.take 2))
  generalize upd H10 sq (.lst (rvs.take 2)) = H11 at S11 hs11 ⊢
  refine ⟨u3, q, sq, pvs, rvs.take 2, ps, X.take 2, rfl, ⟨hU3.stp S11 (by simp), S11.keep0 hq10, hP10.stp0 S11, hok, hs11, (hX10.stp S11).take 2⟩, ?_⟩
  walk_at "rd"
  intro sq2 hsq2
  rw [show cutV rvs none (some 2) = rvs.take 2 from by
    have := cutL_upto rvs 2
    have e := cut_map (α := V) id rvs none (some 2)
    rw [List.map_id, List.map_id] at e
    rw [e]; exact this]
  have S12 := S11.trans ((Stp.refl [] H11).new (o := .lst (rvs.take 2)) hsq2)
  have hs12 := upd_same (H := H11) (a := sq2) (o := .lst (rvs.take 2))
  generalize upd H11 sq2 (.lst (rvs.take 2)) = H12 at S12 hs12 ⊢
  exact ⟨u, q, sq2, pvs, rvs.take 2, ps, X.take 2, rfl, ⟨hU10.stp S12 (by simp), S12.keep0 hq10, hP10.stp0 S12, hok, hs12, (hX10.stp S12).take 2⟩, k _⟩
theorem all_mk {l : PySem.W.OpenLaw} {w : World} {K : PySem.W.Frag} {h : Heap} {mg : Str → Option Value} {fa : Addr} (X : K.In h) (G : h.Ns mainGlobals mg) (hfa : mg "law" = some (.ref fa))
    {f1 f2 f3 f4 f5 f6 f7 f8 f9 f10 f11 f12 f13 f14 f15 f16 f17 f18 f19 f20 f21 f22 f23 f24 f25 f26 f27 f28 f29 f30 f31 f32 f33 f34 f35 c_HallError c_NoRule c_Rule c_KeyRule c_NearRule c_RingRule c_VoteRule c_ChainRule : Addr} {od1 an1 od2 an2 od3 an3 od4 an4 od5 an5 od6 an6 od7 an7 od8 an8 od9 an9 od10 an10 od11 an11 od12 an12 od13 an13 od14 an14 od15 an15 od16 an16 od17 an17 od18 an18 od19 an19 od20 an20 od21 an21 od22 an22 od23 an23 od24 an24 od25 an25 od26 an26 od27 an27 od28 an28 od29 an29 od30 an30 od31 an31 od32 an32 od33 an33 od34 an34 od35 an35 : Option Addr} {sl1 sl2 sl3 sl4 sl5 sl6 sl7 sl8 sl9 sl10 sl11 sl12 sl13 sl14 sl15 sl16 sl17 sl18 sl19 sl20 sl21 sl22 sl23 sl24 sl25 sl26 sl27 sl28 sl29 sl30 sl31 sl32 sl33 sl34 sl35 : Array (Option Value)} {oc1 kV1 dc1 pm1 cd1 ct1 oc2 kV2 dc2 pm2 cd2 ct2 oc3 kV3 dc3 pm3 cd3 ct3 oc4 kV4 dc4 pm4 cd4 ct4 oc5 kV5 dc5 pm5 cd5 ct5 oc6 kV6 dc6 pm6 cd6 ct6 oc7 kV7 dc7 pm7 cd7 ct7 oc8 kV8 dc8 pm8 cd8 ct8 oc9 kV9 dc9 pm9 cd9 ct9 oc10 kV10 dc10 pm10 cd10 ct10 oc11 kV11 dc11 pm11 cd11 ct11 oc12 kV12 dc12 pm12 cd12 ct12 oc13 kV13 dc13 pm13 cd13 ct13 oc14 kV14 dc14 pm14 cd14 ct14 oc15 kV15 dc15 pm15 cd15 ct15 oc16 kV16 dc16 pm16 cd16 ct16 oc17 kV17 dc17 pm17 cd17 ct17 oc18 kV18 dc18 pm18 cd18 ct18 oc19 kV19 dc19 pm19 cd19 ct19 oc20 kV20 dc20 pm20 cd20 ct20 oc21 kV21 dc21 pm21 cd21 ct21 oc22 kV22 dc22 pm22 cd22 ct22 oc23 kV23 dc23 pm23 cd23 ct23 oc24 kV24 dc24 pm24 cd24 ct24 oc25 kV25 dc25 pm25 cd25 ct25 oc26 kV26 dc26 pm26 cd26 ct26 oc27 kV27 dc27 pm27 cd27 ct27 oc28 kV28 dc28 pm28 cd28 ct28 oc29 kV29 dc29 pm29 cd29 ct29 oc30 kV30 dc30 pm30 cd30 ct30 oc31 kV31 dc31 pm31 cd31 ct31 oc32 kV32 dc32 pm32 cd32 ct32 oc33 kV33 dc33 pm33 cd33 ct33 oc34 kV34 dc34 pm34 cd34 ct34 oc35 kV35 dc35 pm35 cd35 ct35 : Value} {t_MOST_FIGURES t_LAST : Tok}
    (aC_HallError : PySem.W.nsIn K mainGlobals "HallError" = some (some (.ref c_HallError)))
    (aC_NoRule : PySem.W.nsIn K mainGlobals "NoRule" = some (some (.ref c_NoRule)))
    (aC_Rule : PySem.W.nsIn K mainGlobals "Rule" = some (some (.ref c_Rule)))
    (pg_Rule : PySem.W.plainGet K c_Rule Str.empty = true)
    (hd_Rule : PySem.W.hasDictIn K c_Rule = true)
    (po_Rule : PySem.W.plainOver K c_Rule = true)
    (sa_Rule : PySem.W.findIn K (.ref c_Rule) "__setattr__" = some (some (.builtin "object.__setattr__")))
    (mk_Rule : PySem.W.makesIn K c_Rule = true)
    (kc_Rule : PySem.W.keepIn K (.ref c_Rule) = true)
    (ip_Rule : PySem.W.findIn K (.ref c_Rule) "__init__" = some (some (.builtin "object.__init__")))
    (aC_KeyRule : PySem.W.nsIn K mainGlobals "KeyRule" = some (some (.ref c_KeyRule)))
    (pg_KeyRule : PySem.W.plainGet K c_KeyRule Str.empty = true)
    (hd_KeyRule : PySem.W.hasDictIn K c_KeyRule = true)
    (po_KeyRule : PySem.W.plainOver K c_KeyRule = true)
    (sa_KeyRule : PySem.W.findIn K (.ref c_KeyRule) "__setattr__" = some (some (.builtin "object.__setattr__")))
    (mk_KeyRule : PySem.W.makesIn K c_KeyRule = true)
    (kc_KeyRule : PySem.W.keepIn K (.ref c_KeyRule) = true)
    (na_KeyRule_columns : PySem.W.findIn K (.ref c_KeyRule) "columns" = some none)
    (aC_NearRule : PySem.W.nsIn K mainGlobals "NearRule" = some (some (.ref c_NearRule)))
    (pg_NearRule : PySem.W.plainGet K c_NearRule Str.empty = true)
    (hd_NearRule : PySem.W.hasDictIn K c_NearRule = true)
    (po_NearRule : PySem.W.plainOver K c_NearRule = true)
    (sa_NearRule : PySem.W.findIn K (.ref c_NearRule) "__setattr__" = some (some (.builtin "object.__setattr__")))
    (mk_NearRule : PySem.W.makesIn K c_NearRule = true)
    (kc_NearRule : PySem.W.keepIn K (.ref c_NearRule) = true)
    (na_NearRule_at : PySem.W.findIn K (.ref c_NearRule) "at" = some none)
    (na_NearRule_gap : PySem.W.findIn K (.ref c_NearRule) "gap" = some none)
    (aC_RingRule : PySem.W.nsIn K mainGlobals "RingRule" = some (some (.ref c_RingRule)))
    (pg_RingRule : PySem.W.plainGet K c_RingRule Str.empty = true)
    (hd_RingRule : PySem.W.hasDictIn K c_RingRule = true)
    (po_RingRule : PySem.W.plainOver K c_RingRule = true)
    (sa_RingRule : PySem.W.findIn K (.ref c_RingRule) "__setattr__" = some (some (.builtin "object.__setattr__")))
    (mk_RingRule : PySem.W.makesIn K c_RingRule = true)
    (kc_RingRule : PySem.W.keepIn K (.ref c_RingRule) = true)
    (na_RingRule_at : PySem.W.findIn K (.ref c_RingRule) "at" = some none)
    (na_RingRule_size : PySem.W.findIn K (.ref c_RingRule) "size" = some none)
    (aC_VoteRule : PySem.W.nsIn K mainGlobals "VoteRule" = some (some (.ref c_VoteRule)))
    (pg_VoteRule : PySem.W.plainGet K c_VoteRule Str.empty = true)
    (hd_VoteRule : PySem.W.hasDictIn K c_VoteRule = true)
    (po_VoteRule : PySem.W.plainOver K c_VoteRule = true)
    (sa_VoteRule : PySem.W.findIn K (.ref c_VoteRule) "__setattr__" = some (some (.builtin "object.__setattr__")))
    (mk_VoteRule : PySem.W.makesIn K c_VoteRule = true)
    (kc_VoteRule : PySem.W.keepIn K (.ref c_VoteRule) = true)
    (na_VoteRule_rules : PySem.W.findIn K (.ref c_VoteRule) "rules" = some none)
    (aC_ChainRule : PySem.W.nsIn K mainGlobals "ChainRule" = some (some (.ref c_ChainRule)))
    (pg_ChainRule : PySem.W.plainGet K c_ChainRule Str.empty = true)
    (hd_ChainRule : PySem.W.hasDictIn K c_ChainRule = true)
    (po_ChainRule : PySem.W.plainOver K c_ChainRule = true)
    (sa_ChainRule : PySem.W.findIn K (.ref c_ChainRule) "__setattr__" = some (some (.builtin "object.__setattr__")))
    (mk_ChainRule : PySem.W.makesIn K c_ChainRule = true)
    (kc_ChainRule : PySem.W.keepIn K (.ref c_ChainRule) = true)
    (na_ChainRule_rules : PySem.W.findIn K (.ref c_ChainRule) "rules" = some none)
    (a1 : PySem.W.nsIn K mainGlobals "_law_cell_at" = some (some (.ref f1)))
    (l1 : K.lookup f1 = some ⟨oc1, od1, .func (PySem.W.fnOf "_law_cell_at" "_law_cell_at" (defArgs s__law_cell_at) (defBody s__law_cell_at) (defScope s__law_cell_at) .none kV1 dc1 pm1 an1 cd1 ct1), sl1⟩)
    (c1 : PySem.W.codeIn K cd1 "_law_cell_at" = true)
    (k1 : PySem.W.keepIn K (.ref f1) = true)
    (a2 : PySem.W.nsIn K mainGlobals "good" = some (some (.ref f2)))
    (l2 : K.lookup f2 = some ⟨oc2, od2, .func (PySem.W.fnOf "good" "good" (defArgs s_good) (defBody s_good) (defScope s_good) .none kV2 dc2 pm2 an2 cd2 ct2), sl2⟩)
    (c2 : PySem.W.codeIn K cd2 "good" = true)
    (k2 : PySem.W.keepIn K (.ref f2) = true)
    (a3_KeyRule : PySem.W.findIn K (.ref c_KeyRule) "__init__" = some (some (.ref f3)))
    (i3 : PySem.W.isFn K (.ref f3) = true)
    (l3 : K.lookup f3 = some ⟨oc3, od3, .func (PySem.W.fnOf "__init__" "KeyRule.__init__" (defArgs s_KeyRule___init__) (defBody s_KeyRule___init__) (defScope s_KeyRule___init__) .none kV3 dc3 pm3 an3 cd3 ct3), sl3⟩)
    (c3 : PySem.W.codeIn K cd3 "KeyRule.__init__" = true)
    (k3 : PySem.W.keepIn K (.ref f3) = true)
    (a4_KeyRule : PySem.W.findIn K (.ref c_KeyRule) "before" = some (some (.ref f4)))
    (i4 : PySem.W.isFn K (.ref f4) = true)
    (l4 : K.lookup f4 = some ⟨oc4, od4, .func (PySem.W.fnOf "before" "KeyRule.before" (defArgs s_KeyRule_before) (defBody s_KeyRule_before) (defScope s_KeyRule_before) .none kV4 dc4 pm4 an4 cd4 ct4), sl4⟩)
    (c4 : PySem.W.codeIn K cd4 "KeyRule.before" = true)
    (k4 : PySem.W.keepIn K (.ref f4) = true)
    (a5_NearRule : PySem.W.findIn K (.ref c_NearRule) "__init__" = some (some (.ref f5)))
    (i5 : PySem.W.isFn K (.ref f5) = true)
    (l5 : K.lookup f5 = some ⟨oc5, od5, .func (PySem.W.fnOf "__init__" "NearRule.__init__" (defArgs s_NearRule___init__) (defBody s_NearRule___init__) (defScope s_NearRule___init__) .none kV5 dc5 pm5 an5 cd5 ct5), sl5⟩)
    (c5 : PySem.W.codeIn K cd5 "NearRule.__init__" = true)
    (k5 : PySem.W.keepIn K (.ref f5) = true)
    (a6_NearRule : PySem.W.findIn K (.ref c_NearRule) "before" = some (some (.ref f6)))
    (i6 : PySem.W.isFn K (.ref f6) = true)
    (l6 : K.lookup f6 = some ⟨oc6, od6, .func (PySem.W.fnOf "before" "NearRule.before" (defArgs s_NearRule_before) (defBody s_NearRule_before) (defScope s_NearRule_before) .none kV6 dc6 pm6 an6 cd6 ct6), sl6⟩)
    (c6 : PySem.W.codeIn K cd6 "NearRule.before" = true)
    (k6 : PySem.W.keepIn K (.ref f6) = true)
    (a7_RingRule : PySem.W.findIn K (.ref c_RingRule) "__init__" = some (some (.ref f7)))
    (i7 : PySem.W.isFn K (.ref f7) = true)
    (l7 : K.lookup f7 = some ⟨oc7, od7, .func (PySem.W.fnOf "__init__" "RingRule.__init__" (defArgs s_RingRule___init__) (defBody s_RingRule___init__) (defScope s_RingRule___init__) .none kV7 dc7 pm7 an7 cd7 ct7), sl7⟩)
    (c7 : PySem.W.codeIn K cd7 "RingRule.__init__" = true)
    (k7 : PySem.W.keepIn K (.ref f7) = true)
    (a8_RingRule : PySem.W.findIn K (.ref c_RingRule) "before" = some (some (.ref f8)))
    (i8 : PySem.W.isFn K (.ref f8) = true)
    (l8 : K.lookup f8 = some ⟨oc8, od8, .func (PySem.W.fnOf "before" "RingRule.before" (defArgs s_RingRule_before) (defBody s_RingRule_before) (defScope s_RingRule_before) .none kV8 dc8 pm8 an8 cd8 ct8), sl8⟩)
    (c8 : PySem.W.codeIn K cd8 "RingRule.before" = true)
    (k8 : PySem.W.keepIn K (.ref f8) = true)
    (a9_VoteRule : PySem.W.findIn K (.ref c_VoteRule) "__init__" = some (some (.ref f9)))
    (i9 : PySem.W.isFn K (.ref f9) = true)
    (l9 : K.lookup f9 = some ⟨oc9, od9, .func (PySem.W.fnOf "__init__" "VoteRule.__init__" (defArgs s_VoteRule___init__) (defBody s_VoteRule___init__) (defScope s_VoteRule___init__) .none kV9 dc9 pm9 an9 cd9 ct9), sl9⟩)
    (c9 : PySem.W.codeIn K cd9 "VoteRule.__init__" = true)
    (k9 : PySem.W.keepIn K (.ref f9) = true)
    (a10_VoteRule : PySem.W.findIn K (.ref c_VoteRule) "before" = some (some (.ref f10)))
    (i10 : PySem.W.isFn K (.ref f10) = true)
    (l10 : K.lookup f10 = some ⟨oc10, od10, .func (PySem.W.fnOf "before" "VoteRule.before" (defArgs s_VoteRule_before) (defBody s_VoteRule_before) (defScope s_VoteRule_before) .none kV10 dc10 pm10 an10 cd10 ct10), sl10⟩)
    (c10 : PySem.W.codeIn K cd10 "VoteRule.before" = true)
    (k10 : PySem.W.keepIn K (.ref f10) = true)
    (a11_ChainRule : PySem.W.findIn K (.ref c_ChainRule) "__init__" = some (some (.ref f11)))
    (i11 : PySem.W.isFn K (.ref f11) = true)
    (l11 : K.lookup f11 = some ⟨oc11, od11, .func (PySem.W.fnOf "__init__" "ChainRule.__init__" (defArgs s_ChainRule___init__) (defBody s_ChainRule___init__) (defScope s_ChainRule___init__) .none kV11 dc11 pm11 an11 cd11 ct11), sl11⟩)
    (c11 : PySem.W.codeIn K cd11 "ChainRule.__init__" = true)
    (k11 : PySem.W.keepIn K (.ref f11) = true)
    (a12_ChainRule : PySem.W.findIn K (.ref c_ChainRule) "before" = some (some (.ref f12)))
    (i12 : PySem.W.isFn K (.ref f12) = true)
    (l12 : K.lookup f12 = some ⟨oc12, od12, .func (PySem.W.fnOf "before" "ChainRule.before" (defArgs s_ChainRule_before) (defBody s_ChainRule_before) (defScope s_ChainRule_before) .none kV12 dc12 pm12 an12 cd12 ct12), sl12⟩)
    (c12 : PySem.W.codeIn K cd12 "ChainRule.before" = true)
    (k12 : PySem.W.keepIn K (.ref f12) = true)
    (a13_KeyRule : PySem.W.findIn K (.ref c_KeyRule) "widest" = some (some (.ref f13)))
    (i13 : PySem.W.isFn K (.ref f13) = true)
    (l13 : K.lookup f13 = some ⟨oc13, od13, .func (PySem.W.fnOf "widest" "KeyRule.widest" (defArgs s_KeyRule_widest) (defBody s_KeyRule_widest) (defScope s_KeyRule_widest) .none kV13 dc13 pm13 an13 cd13 ct13), sl13⟩)
    (c13 : PySem.W.codeIn K cd13 "KeyRule.widest" = true)
    (k13 : PySem.W.keepIn K (.ref f13) = true)
    (a14_NearRule : PySem.W.findIn K (.ref c_NearRule) "widest" = some (some (.ref f14)))
    (i14 : PySem.W.isFn K (.ref f14) = true)
    (l14 : K.lookup f14 = some ⟨oc14, od14, .func (PySem.W.fnOf "widest" "NearRule.widest" (defArgs s_NearRule_widest) (defBody s_NearRule_widest) (defScope s_NearRule_widest) .none kV14 dc14 pm14 an14 cd14 ct14), sl14⟩)
    (c14 : PySem.W.codeIn K cd14 "NearRule.widest" = true)
    (k14 : PySem.W.keepIn K (.ref f14) = true)
    (a15_RingRule : PySem.W.findIn K (.ref c_RingRule) "widest" = some (some (.ref f15)))
    (i15 : PySem.W.isFn K (.ref f15) = true)
    (l15 : K.lookup f15 = some ⟨oc15, od15, .func (PySem.W.fnOf "widest" "RingRule.widest" (defArgs s_RingRule_widest) (defBody s_RingRule_widest) (defScope s_RingRule_widest) .none kV15 dc15 pm15 an15 cd15 ct15), sl15⟩)
    (c15 : PySem.W.codeIn K cd15 "RingRule.widest" = true)
    (k15 : PySem.W.keepIn K (.ref f15) = true)
    (a16_VoteRule : PySem.W.findIn K (.ref c_VoteRule) "widest" = some (some (.ref f16)))
    (i16 : PySem.W.isFn K (.ref f16) = true)
    (l16 : K.lookup f16 = some ⟨oc16, od16, .func (PySem.W.fnOf "widest" "VoteRule.widest" (defArgs s_VoteRule_widest) (defBody s_VoteRule_widest) (defScope s_VoteRule_widest) .none kV16 dc16 pm16 an16 cd16 ct16), sl16⟩)
    (c16 : PySem.W.codeIn K cd16 "VoteRule.widest" = true)
    (k16 : PySem.W.keepIn K (.ref f16) = true)
    (a17_ChainRule : PySem.W.findIn K (.ref c_ChainRule) "widest" = some (some (.ref f17)))
    (i17 : PySem.W.isFn K (.ref f17) = true)
    (l17 : K.lookup f17 = some ⟨oc17, od17, .func (PySem.W.fnOf "widest" "ChainRule.widest" (defArgs s_ChainRule_widest) (defBody s_ChainRule_widest) (defScope s_ChainRule_widest) .none kV17 dc17 pm17 an17 cd17 ct17), sl17⟩)
    (c17 : PySem.W.codeIn K cd17 "ChainRule.widest" = true)
    (k17 : PySem.W.keepIn K (.ref f17) = true)
    (a18 : PySem.W.nsIn K mainGlobals "number_in" = some (some (.ref f18)))
    (l18 : K.lookup f18 = some ⟨oc18, od18, .func (PySem.W.fnOf "number_in" "number_in" (defArgs s_number_in) (defBody s_number_in) (defScope s_number_in) .none kV18 dc18 pm18 an18 cd18 ct18), sl18⟩)
    (c18 : PySem.W.codeIn K cd18 "number_in" = true)
    (k18 : PySem.W.keepIn K (.ref f18) = true)
    (a19 : PySem.W.nsIn K mainGlobals "key_in" = some (some (.ref f19)))
    (l19 : K.lookup f19 = some ⟨oc19, od19, .func (PySem.W.fnOf "key_in" "key_in" (defArgs s_key_in) (defBody s_key_in) (defScope s_key_in) .none kV19 dc19 pm19 an19 cd19 ct19), sl19⟩)
    (c19 : PySem.W.codeIn K cd19 "key_in" = true)
    (k19 : PySem.W.keepIn K (.ref f19) = true)
    (a20 : PySem.W.nsIn K mainGlobals "plain_rule" = some (some (.ref f20)))
    (l20 : K.lookup f20 = some ⟨oc20, od20, .func (PySem.W.fnOf "plain_rule" "plain_rule" (defArgs s_plain_rule) (defBody s_plain_rule) (defScope s_plain_rule) .none kV20 dc20 pm20 an20 cd20 ct20), sl20⟩)
    (c20 : PySem.W.codeIn K cd20 "plain_rule" = true)
    (k20 : PySem.W.keepIn K (.ref f20) = true)
    (a21 : PySem.W.nsIn K mainGlobals "part_rule" = some (some (.ref f21)))
    (l21 : K.lookup f21 = some ⟨oc21, od21, .func (PySem.W.fnOf "part_rule" "part_rule" (defArgs s_part_rule) (defBody s_part_rule) (defScope s_part_rule) .none kV21 dc21 pm21 an21 cd21 ct21), sl21⟩)
    (c21 : PySem.W.codeIn K cd21 "part_rule" = true)
    (k21 : PySem.W.keepIn K (.ref f21) = true)
    (a22_Rule : PySem.W.findIn K (.ref c_Rule) "before" = some (some (.ref f22)))
    (i22 : PySem.W.isFn K (.ref f22) = true)
    (l22 : K.lookup f22 = some ⟨oc22, od22, .func (PySem.W.fnOf "before" "Rule.before" (defArgs s_Rule_before) (defBody s_Rule_before) (defScope s_Rule_before) .none kV22 dc22 pm22 an22 cd22 ct22), sl22⟩)
    (c22 : PySem.W.codeIn K cd22 "Rule.before" = true)
    (k22 : PySem.W.keepIn K (.ref f22) = true)
    (a23_Rule : PySem.W.findIn K (.ref c_Rule) "widest" = some (some (.ref f23)))
    (i23 : PySem.W.isFn K (.ref f23) = true)
    (l23 : K.lookup f23 = some ⟨oc23, od23, .func (PySem.W.fnOf "widest" "Rule.widest" (defArgs s_Rule_widest) (defBody s_Rule_widest) (defScope s_Rule_widest) .none kV23 dc23 pm23 an23 cd23 ct23), sl23⟩)
    (c23 : PySem.W.codeIn K cd23 "Rule.widest" = true)
    (k23 : PySem.W.keepIn K (.ref f23) = true)
    (a24 : PySem.W.nsIn K mainGlobals "read_rule" = some (some (.ref f24)))
    (l24 : K.lookup f24 = some ⟨oc24, od24, .func (PySem.W.fnOf "read_rule" "read_rule" (defArgs s_read_rule) (defBody s_read_rule) (defScope s_read_rule) .none kV24 dc24 pm24 an24 cd24 ct24), sl24⟩)
    (c24 : PySem.W.codeIn K cd24 "read_rule" = true)
    (k24 : PySem.W.keepIn K (.ref f24) = true)
    (a25 : PySem.W.nsIn K mainGlobals "_law_plain" = some (some (.ref f25)))
    (l25 : K.lookup f25 = some ⟨oc25, od25, .func (PySem.W.fnOf "_law_plain" "_law_plain" (defArgs s__law_plain) (defBody s__law_plain) (defScope s__law_plain) .none kV25 dc25 pm25 an25 cd25 ct25), sl25⟩)
    (c25 : PySem.W.codeIn K cd25 "_law_plain" = true)
    (k25 : PySem.W.keepIn K (.ref f25) = true)
    (a26 : PySem.W.nsIn K mainGlobals "_law_parts" = some (some (.ref f26)))
    (l26 : K.lookup f26 = some ⟨oc26, od26, .func (PySem.W.fnOf "_law_parts" "_law_parts" (defArgs s__law_parts) (defBody s__law_parts) (defScope s__law_parts) .none kV26 dc26 pm26 an26 cd26 ct26), sl26⟩)
    (c26 : PySem.W.codeIn K cd26 "_law_parts" = true)
    (k26 : PySem.W.keepIn K (.ref f26) = true)
    (a27 : PySem.W.nsIn K mainGlobals "_law_shown" = some (some (.ref f27)))
    (l27 : K.lookup f27 = some ⟨oc27, od27, .func (PySem.W.fnOf "_law_shown" "_law_shown" (defArgs s__law_shown) (defBody s__law_shown) (defScope s__law_shown) .none kV27 dc27 pm27 an27 cd27 ct27), sl27⟩)
    (c27 : PySem.W.codeIn K cd27 "_law_shown" = true)
    (k27 : PySem.W.keepIn K (.ref f27) = true)
    (a28 : PySem.W.nsIn K mainGlobals "_law_text" = some (some (.ref f28)))
    (l28 : K.lookup f28 = some ⟨oc28, od28, .func (PySem.W.fnOf "_law_text" "_law_text" (defArgs s__law_text) (defBody s__law_text) (defScope s__law_text) .none kV28 dc28 pm28 an28 cd28 ct28), sl28⟩)
    (c28 : PySem.W.codeIn K cd28 "_law_text" = true)
    (k28 : PySem.W.keepIn K (.ref f28) = true)
    (a29 : PySem.W.nsIn K mainGlobals "_law_goes" = some (some (.ref f29)))
    (l29 : K.lookup f29 = some ⟨oc29, od29, .func (PySem.W.fnOf "_law_goes" "_law_goes" (defArgs s__law_goes) (defBody s__law_goes) (defScope s__law_goes) .none kV29 dc29 pm29 an29 cd29 ct29), sl29⟩)
    (c29 : PySem.W.codeIn K cd29 "_law_goes" = true)
    (k29 : PySem.W.keepIn K (.ref f29) = true)
    (a30 : PySem.W.nsIn K mainGlobals "_law_puts" = some (some (.ref f30)))
    (l30 : K.lookup f30 = some ⟨oc30, od30, .func (PySem.W.fnOf "_law_puts" "_law_puts" (defArgs s__law_puts) (defBody s__law_puts) (defScope s__law_puts) .none kV30 dc30 pm30 an30 cd30 ct30), sl30⟩)
    (c30 : PySem.W.codeIn K cd30 "_law_puts" = true)
    (k30 : PySem.W.keepIn K (.ref f30) = true)
    (a31 : PySem.W.nsIn K mainGlobals "_law_before" = some (some (.ref f31)))
    (l31 : K.lookup f31 = some ⟨oc31, od31, .func (PySem.W.fnOf "_law_before" "_law_before" (defArgs s__law_before) (defBody s__law_before) (defScope s__law_before) .none kV31 dc31 pm31 an31 cd31 ct31), sl31⟩)
    (c31 : PySem.W.codeIn K cd31 "_law_before" = true)
    (k31 : PySem.W.keepIn K (.ref f31) = true)
    (a32 : PySem.W.nsIn K mainGlobals "_law_does" = some (some (.ref f32)))
    (l32 : K.lookup f32 = some ⟨oc32, od32, .func (PySem.W.fnOf "_law_does" "_law_does" (defArgs s__law_does) (defBody s__law_does) (defScope s__law_does) .none kV32 dc32 pm32 an32 cd32 ct32), sl32⟩)
    (c32 : PySem.W.codeIn K cd32 "_law_does" = true)
    (k32 : PySem.W.keepIn K (.ref f32) = true)
    (a33 : PySem.W.nsIn K mainGlobals "_law_things" = some (some (.ref f33)))
    (l33 : K.lookup f33 = some ⟨oc33, od33, .func (PySem.W.fnOf "_law_things" "_law_things" (defArgs s__law_things) (defBody s__law_things) (defScope s__law_things) .none kV33 dc33 pm33 an33 cd33 ct33), sl33⟩)
    (c33 : PySem.W.codeIn K cd33 "_law_things" = true)
    (k33 : PySem.W.keepIn K (.ref f33) = true)
    (a34 : PySem.W.nsIn K mainGlobals "_law_whole" = some (some (.ref f34)))
    (l34 : K.lookup f34 = some ⟨oc34, od34, .func (PySem.W.fnOf "_law_whole" "_law_whole" (defArgs s__law_whole) (defBody s__law_whole) (defScope s__law_whole) .none kV34 dc34 pm34 an34 cd34 ct34), sl34⟩)
    (c34 : PySem.W.codeIn K cd34 "_law_whole" = true)
    (k34 : PySem.W.keepIn K (.ref f34) = true)
    (a35 : PySem.W.nsIn K mainGlobals "law" = some (some (.ref f35)))
    (l35 : K.lookup f35 = some ⟨oc35, od35, .func (PySem.W.fnOf "law" "law" (defArgs s_law) (defBody s_law) (defScope s_law) .none kV35 dc35 pm35 an35 cd35 ct35), sl35⟩)
    (c35 : PySem.W.codeIn K cd35 "law" = true)
    (k35 : PySem.W.keepIn K (.ref f35) = true)
    (z_ValueError : PySem.W.nsIn K mainGlobals "ValueError" = some none)
    (z_int : PySem.W.nsIn K mainGlobals "int" = some none)
    (z_range : PySem.W.nsIn K mainGlobals "range" = some none)
    (z_list : PySem.W.nsIn K mainGlobals "list" = some none)
    (z_max : PySem.W.nsIn K mainGlobals "max" = some none)
    (z_isinstance : PySem.W.nsIn K mainGlobals "isinstance" = some none)
    (z_str : PySem.W.nsIn K mainGlobals "str" = some none)
    (z_len : PySem.W.nsIn K mainGlobals "len" = some none)
    (z_bool : PySem.W.nsIn K mainGlobals "bool" = some none)
    (z_tuple : PySem.W.nsIn K mainGlobals "tuple" = some none)
    (kk_MOST_FIGURES : PySem.W.nsIn K mainGlobals "MOST_FIGURES" = some (some (.int 60 t_MOST_FIGURES)))
    (kk_LAST : PySem.W.nsIn K mainGlobals "LAST" = some (some (.int 7 t_LAST))) :
    ∃ fd : FuncData, (∀ (s : Shared) (v : Value), BindsTo s fd ⟨[v], []⟩ [("_law_script", v)]) ∧ ∀ base : Heap, K.In base → base.Ns mainGlobals mg → ∃ A : Ad, FnOk l.prog w K mg base CX0 7 fa fd ["_law_script"] (sp_law K A) := by
  have e := hfa.symm.trans (PySem.W.mg_of X G a35)
  cases e
  let A : Ad := ⟨c_HallError, c_NoRule, c_Rule, c_KeyRule, c_NearRule, c_RingRule, c_VoteRule, c_ChainRule⟩
  have T : Txt K mg A := ⟨PySem.W.mg_none_of X G z_ValueError, PySem.W.mg_none_of X G z_int, PySem.W.mg_none_of X G z_range, PySem.W.mg_none_of X G z_list, PySem.W.mg_none_of X G z_max, PySem.W.mg_none_of X G z_isinstance, PySem.W.mg_none_of X G z_str, PySem.W.mg_none_of X G z_len, PySem.W.mg_none_of X G z_bool, PySem.W.mg_none_of X G z_tuple, PySem.W.mg_of X G aC_HallError, PySem.W.mg_of X G aC_NoRule, PySem.W.mg_of X G aC_Rule, ⟨pg_Rule, hd_Rule, po_Rule, sa_Rule⟩, PySem.W.mg_of X G aC_KeyRule, ⟨pg_KeyRule, hd_KeyRule, po_KeyRule, sa_KeyRule⟩, na_KeyRule_columns, PySem.W.mg_of X G aC_NearRule, ⟨pg_NearRule, hd_NearRule, po_NearRule, sa_NearRule⟩, na_NearRule_at, na_NearRule_gap, PySem.W.mg_of X G aC_RingRule, ⟨pg_RingRule, hd_RingRule, po_RingRule, sa_RingRule⟩, na_RingRule_at, na_RingRule_size, PySem.W.mg_of X G aC_VoteRule, ⟨pg_VoteRule, hd_VoteRule, po_VoteRule, sa_VoteRule⟩, na_VoteRule_rules, PySem.W.mg_of X G aC_ChainRule, ⟨pg_ChainRule, hd_ChainRule, po_ChainRule, sa_ChainRule⟩, na_ChainRule_rules, ⟨_, PySem.W.mg_of X G kk_MOST_FIGURES, _, rfl⟩, ⟨_, PySem.W.mg_of X G kk_LAST, _, rfl⟩, ⟨mk_Rule, ip_Rule, kc_Rule⟩⟩
  have F1 := fun_mk (st := s__law_cell_at) l1 c1 k1
  have F2 := fun_mk (st := s_good) l2 c2 k2
  have F3 := fun_mk (st := s_KeyRule___init__) l3 c3 k3
  have F4 := fun_mk (st := s_KeyRule_before) l4 c4 k4
  have F5 := fun_mk (st := s_NearRule___init__) l5 c5 k5
  have F6 := fun_mk (st := s_NearRule_before) l6 c6 k6
  have F7 := fun_mk (st := s_RingRule___init__) l7 c7 k7
  have F8 := fun_mk (st := s_RingRule_before) l8 c8 k8
  have F9 := fun_mk (st := s_VoteRule___init__) l9 c9 k9
  have F10 := fun_mk (st := s_VoteRule_before) l10 c10 k10
  have F11 := fun_mk (st := s_ChainRule___init__) l11 c11 k11
  have F12 := fun_mk (st := s_ChainRule_before) l12 c12 k12
  have F13 := fun_mk (st := s_KeyRule_widest) l13 c13 k13
  have F14 := fun_mk (st := s_NearRule_widest) l14 c14 k14
  have F15 := fun_mk (st := s_RingRule_widest) l15 c15 k15
  have F16 := fun_mk (st := s_VoteRule_widest) l16 c16 k16
  have F17 := fun_mk (st := s_ChainRule_widest) l17 c17 k17
  have F18 := fun_mk (st := s_number_in) l18 c18 k18
  have F19 := fun_mk (st := s_key_in) l19 c19 k19
  have F20 := fun_mk (st := s_plain_rule) l20 c20 k20
  have F21 := fun_mk (st := s_part_rule) l21 c21 k21
  have F22 := fun_mk (st := s_Rule_before) l22 c22 k22
  have F23 := fun_mk (st := s_Rule_widest) l23 c23 k23
  have F24 := fun_mk (st := s_read_rule) l24 c24 k24
  have F25 := fun_mk (st := s__law_plain) l25 c25 k25
  have F26 := fun_mk (st := s__law_parts) l26 c26 k26
  have F27 := fun_mk (st := s__law_shown) l27 c27 k27
  have F28 := fun_mk (st := s__law_text) l28 c28 k28
  have F29 := fun_mk (st := s__law_goes) l29 c29 k29
  have F30 := fun_mk (st := s__law_puts) l30 c30 k30
  have F31 := fun_mk (st := s__law_before) l31 c31 k31
  have F32 := fun_mk (st := s__law_does) l32 c32 k32
  have F33 := fun_mk (st := s__law_things) l33 c33 k33
  have F34 := fun_mk (st := s__law_whole) l34 c34 k34
  have F35 := fun_mk (st := s_law) l35 c35 k35
  refine ⟨PySem.W.fnOf "law" "law" (defArgs s_law) (defBody s_law) (defScope s_law) .none kV35 dc35 pm35 an35 cd35 ct35, fun s v => .of_eq rfl, fun base _ _ => ⟨A, ?_⟩⟩
  have O__law_cell_at := ok__law_cell_at (P := l.prog) (w := w) (base := base) F1 T 
  have O_good := ok_good (P := l.prog) (w := w) (base := base) F2 T 
  have X1 : SH.Cal l.prog w K mg base CX0 _ "good" [] _ := ⟨f2, _, _, _, PySem.W.mg_of X G a2, k2, (F2.binds (ps := ["at"]) fun _ _ _ _ _ _ us hl => match us, hl with | [_], _ => rfl), .nil, O_good⟩
  have O_KeyRule___init__ := ok_KeyRule___init__ (P := l.prog) (w := w) (base := base) F3 T X1
  have O_KeyRule_before := ok_KeyRule_before (P := l.prog) (w := w) (base := base) F4 T 
  have O_NearRule___init__ := ok_NearRule___init__ (P := l.prog) (w := w) (base := base) F5 T X1
  have O_NearRule_before := ok_NearRule_before (P := l.prog) (w := w) (base := base) F6 T 
  have O_RingRule___init__ := ok_RingRule___init__ (P := l.prog) (w := w) (base := base) F7 T X1
  have O_RingRule_before := ok_RingRule_before (P := l.prog) (w := w) (base := base) F8 T 
  have O_VoteRule___init__ := ok_VoteRule___init__ (P := l.prog) (w := w) (base := base) F9 T 
  have X2 : SH.CalM l.prog w K mg base CX0 _ A.KeyRule "before" [] _ := ⟨T.cl_KeyRule, f4, _, _, _, ⟨a4_KeyRule, i4, k4⟩, (F4.binds (ps := ["self", "x", "y"]) fun _ _ _ _ _ _ us hl => match us, hl with | [_, _, _], _ => rfl), .nil, O_KeyRule_before⟩
  have X3 : SH.CalM l.prog w K mg base CX0 _ A.NearRule "before" [] _ := ⟨T.cl_NearRule, f6, _, _, _, ⟨a6_NearRule, i6, k6⟩, (F6.binds (ps := ["self", "x", "y"]) fun _ _ _ _ _ _ us hl => match us, hl with | [_, _, _], _ => rfl), .nil, O_NearRule_before⟩
  have X4 : SH.CalM l.prog w K mg base CX0 _ A.RingRule "before" [] _ := ⟨T.cl_RingRule, f8, _, _, _, ⟨a8_RingRule, i8, k8⟩, (F8.binds (ps := ["self", "x", "y"]) fun _ _ _ _ _ _ us hl => match us, hl with | [_, _, _], _ => rfl), .nil, O_RingRule_before⟩
  have O_VoteRule_before := ok_VoteRule_before (P := l.prog) (w := w) (base := base) F10 T X2 X3 X4
  have O_ChainRule___init__ := ok_ChainRule___init__ (P := l.prog) (w := w) (base := base) F11 T 
  have X5 : SH.CalM l.prog w K mg base CX0 _ A.VoteRule "before" [] _ := ⟨T.cl_VoteRule, f10, _, _, _, ⟨a10_VoteRule, i10, k10⟩, (F10.binds (ps := ["self", "x", "y"]) fun _ _ _ _ _ _ us hl => match us, hl with | [_, _, _], _ => rfl), .nil, O_VoteRule_before⟩
  have O_ChainRule_before := ok_ChainRule_before (P := l.prog) (w := w) (base := base) F12 T X2 X3 X4 X5
  have O_KeyRule_widest := ok_KeyRule_widest (P := l.prog) (w := w) (base := base) F13 T 
  have O_NearRule_widest := ok_NearRule_widest (P := l.prog) (w := w) (base := base) F14 T 
  have O_RingRule_widest := ok_RingRule_widest (P := l.prog) (w := w) (base := base) F15 T 
  have X6 : SH.CalM l.prog w K mg base CX0 _ A.KeyRule "widest" [] _ := ⟨T.cl_KeyRule, f13, _, _, _, ⟨a13_KeyRule, i13, k13⟩, (F13.binds (ps := ["self"]) fun _ _ _ _ _ _ us hl => match us, hl with | [_], _ => rfl), .nil, O_KeyRule_widest⟩
  have X7 : SH.CalM l.prog w K mg base CX0 _ A.NearRule "widest" [] _ := ⟨T.cl_NearRule, f14, _, _, _, ⟨a14_NearRule, i14, k14⟩, (F14.binds (ps := ["self"]) fun _ _ _ _ _ _ us hl => match us, hl with | [_], _ => rfl), .nil, O_NearRule_widest⟩
  have X8 : SH.CalM l.prog w K mg base CX0 _ A.RingRule "widest" [] _ := ⟨T.cl_RingRule, f15, _, _, _, ⟨a15_RingRule, i15, k15⟩, (F15.binds (ps := ["self"]) fun _ _ _ _ _ _ us hl => match us, hl with | [_], _ => rfl), .nil, O_RingRule_widest⟩
  have O_VoteRule_widest := ok_VoteRule_widest (P := l.prog) (w := w) (base := base) F16 T X6 X7 X8
  have X9 : SH.CalM l.prog w K mg base CX0 _ A.VoteRule "widest" [] _ := ⟨T.cl_VoteRule, f16, _, _, _, ⟨a16_VoteRule, i16, k16⟩, (F16.binds (ps := ["self"]) fun _ _ _ _ _ _ us hl => match us, hl with | [_], _ => rfl), .nil, O_VoteRule_widest⟩
  have O_ChainRule_widest := ok_ChainRule_widest (P := l.prog) (w := w) (base := base) F17 T X6 X7 X8 X9
  have O_number_in := ok_number_in (P := l.prog) (w := w) (base := base) F18 T 
  have O_key_in := ok_key_in (P := l.prog) (w := w) (base := base) F19 T 
  have X10 : SH.Cal l.prog w K mg base CX0 _ "key_in" [] _ := ⟨f19, _, _, _, PySem.W.mg_of X G a19, k19, (F19.binds (ps := ["word"]) fun _ _ _ _ _ _ us hl => match us, hl with | [_], _ => rfl), .nil, O_key_in⟩
  have X11 : SH.CalC l.prog w K mg base CX0 _ "KeyRule" A.KeyRule [] _ := ⟨f3, _, _, _, T.g_KeyRule, ⟨mk_KeyRule, a3_KeyRule, i3, kc_KeyRule⟩, (F3.binds (ps := ["self", "columns"]) fun _ _ _ _ _ _ us hl => match us, hl with | [_, _], _ => rfl), .nil, O_KeyRule___init__⟩
  have X12 : SH.CalC l.prog w K mg base CX0 _ "NearRule" A.NearRule [] _ := ⟨f5, _, _, _, T.g_NearRule, ⟨mk_NearRule, a5_NearRule, i5, kc_NearRule⟩, (F5.binds (ps := ["self", "at", "gap"]) fun _ _ _ _ _ _ us hl => match us, hl with | [_, _, _], _ => rfl), .nil, O_NearRule___init__⟩
  have X13 : SH.CalC l.prog w K mg base CX0 _ "RingRule" A.RingRule [] _ := ⟨f7, _, _, _, T.g_RingRule, ⟨mk_RingRule, a7_RingRule, i7, kc_RingRule⟩, (F7.binds (ps := ["self", "at", "size"]) fun _ _ _ _ _ _ us hl => match us, hl with | [_, _, _], _ => rfl), .nil, O_RingRule___init__⟩
  have X14 : SH.Cal l.prog w K mg base CX0 _ "number_in" [] _ := ⟨f18, _, _, _, PySem.W.mg_of X G a18, k18, (F18.binds (ps := ["word"]) fun _ _ _ _ _ _ us hl => match us, hl with | [_], _ => rfl), .nil, O_number_in⟩
  have O_plain_rule := ok_plain_rule (P := l.prog) (w := w) (base := base) F20 T X10 X11 X12 X13 X14
  have X15 : SH.CalC l.prog w K mg base CX0 _ "VoteRule" A.VoteRule [] _ := ⟨f9, _, _, _, T.g_VoteRule, ⟨mk_VoteRule, a9_VoteRule, i9, kc_VoteRule⟩, (F9.binds (ps := ["self", "rules"]) fun _ _ _ _ _ _ us hl => match us, hl with | [_, _], _ => rfl), .nil, O_VoteRule___init__⟩
  have X16 : SH.Cal l.prog w K mg base CX0 _ "plain_rule" [] _ := ⟨f20, _, _, _, PySem.W.mg_of X G a20, k20, (F20.binds (ps := ["text"]) fun _ _ _ _ _ _ us hl => match us, hl with | [_], _ => rfl), .nil, O_plain_rule⟩
  have O_part_rule := ok_part_rule (P := l.prog) (w := w) (base := base) F21 T X15 X16
  have O_Rule_before := ok_Rule_before (P := l.prog) (w := w) (base := base) F22 T 
  have O_Rule_widest := ok_Rule_widest (P := l.prog) (w := w) (base := base) F23 T 
  have X17 : SH.CalC l.prog w K mg base CX0 _ "ChainRule" A.ChainRule [] _ := ⟨f11, _, _, _, T.g_ChainRule, ⟨mk_ChainRule, a11_ChainRule, i11, kc_ChainRule⟩, (F11.binds (ps := ["self", "rules"]) fun _ _ _ _ _ _ us hl => match us, hl with | [_, _], _ => rfl), .nil, O_ChainRule___init__⟩
  have X18 : SH.Cal l.prog w K mg base CX0 _ "part_rule" [] _ := ⟨f21, _, _, _, PySem.W.mg_of X G a21, k21, (F21.binds (ps := ["text"]) fun _ _ _ _ _ _ us hl => match us, hl with | [_], _ => rfl), .nil, O_part_rule⟩
  have O_read_rule := ok_read_rule (P := l.prog) (w := w) (base := base) F24 T X17 X18
  have O__law_plain := ok__law_plain (P := l.prog) (w := w) (base := base) F25 T 
  have X19 : SH.Cal l.prog w K mg base CX0 _ "_law_cell_at" [] _ := ⟨f1, _, _, _, PySem.W.mg_of X G a1, k1, (F1.binds (ps := ["_law_script", "_law_k"]) fun _ _ _ _ _ _ us hl => match us, hl with | [_, _], _ => rfl), .nil, O__law_cell_at⟩
  have X20 : SH.Cal l.prog w K mg base CX0 _ "_law_plain" [] _ := ⟨f25, _, _, _, PySem.W.mg_of X G a25, k25, (F25.binds (ps := ["_law_cell"]) fun _ _ _ _ _ _ us hl => match us, hl with | [_], _ => rfl), .nil, O__law_plain⟩
  have O__law_parts := ok__law_parts (P := l.prog) (w := w) (base := base) F26 T X19 X20
  have O__law_shown := ok__law_shown (P := l.prog) (w := w) (base := base) F27 T 
  have X21 : SH.Cal l.prog w K mg base CX0 _ "_law_shown" [] _ := ⟨f27, _, _, _, PySem.W.mg_of X G a27, k27, (F27.binds (ps := ["_law_plain_here"]) fun _ _ _ _ _ _ us hl => match us, hl with | [_], _ => rfl), .nil, O__law_shown⟩
  have O__law_text := ok__law_text (P := l.prog) (w := w) (base := base) F28 T X21
  have O__law_goes := ok__law_goes (P := l.prog) (w := w) (base := base) F29 T 
  have X22 : SH.Cal l.prog w K mg base CX0 _ "_law_goes" [] _ := ⟨f29, _, _, _, PySem.W.mg_of X G a29, k29, (F29.binds (ps := ["_law_plain_here", "_law_x", "_law_y"]) fun _ _ _ _ _ _ us hl => match us, hl with | [_, _, _], _ => rfl), .nil, O__law_goes⟩
  have O__law_puts := ok__law_puts (P := l.prog) (w := w) (base := base) F30 T X22
  have X23 : SH.Cal l.prog w K mg base CX0 _ "_law_puts" [] _ := ⟨f30, _, _, _, PySem.W.mg_of X G a30, k30, (F30.binds (ps := ["_law_part", "_law_x", "_law_y"]) fun _ _ _ _ _ _ us hl => match us, hl with | [_, _, _], _ => rfl), .nil, O__law_puts⟩
  have O__law_before := ok__law_before (P := l.prog) (w := w) (base := base) F31 T X23
  have X24 : SH.CalM l.prog w K mg base CX0 _ A.ChainRule "before" [] _ := ⟨T.cl_ChainRule, f12, _, _, _, ⟨a12_ChainRule, i12, k12⟩, (F12.binds (ps := ["self", "x", "y"]) fun _ _ _ _ _ _ us hl => match us, hl with | [_, _, _], _ => rfl), .nil, O_ChainRule_before⟩
  have X25 : SH.CalM l.prog w K mg base CX0 _ A.Rule "before" [] _ := ⟨T.cl_Rule, f22, _, _, _, ⟨a22_Rule, i22, k22⟩, (F22.binds (ps := ["self", "x", "y"]) fun _ _ _ _ _ _ us hl => match us, hl with | [_, _, _], _ => rfl), .nil, O_Rule_before⟩
  have X26 : SH.Cal l.prog w K mg base CX0 _ "_law_before" [] _ := ⟨f31, _, _, _, PySem.W.mg_of X G a31, k31, (F31.binds (ps := ["_law_parts_here", "_law_x", "_law_y"]) fun _ _ _ _ _ _ us hl => match us, hl with | [_, _, _], _ => rfl), .nil, O__law_before⟩
  have O__law_does := ok__law_does (P := l.prog) (w := w) (base := base) F32 T X24 X2 X3 X4 X25 X5 X26
  have O__law_things := ok__law_things (P := l.prog) (w := w) (base := base) F33 T X19
  have O__law_whole := ok__law_whole (P := l.prog) (w := w) (base := base) F34 T 
  have X27 : SH.CalM l.prog w K mg base CX0 _ A.ChainRule "widest" [] _ := ⟨T.cl_ChainRule, f17, _, _, _, ⟨a17_ChainRule, i17, k17⟩, (F17.binds (ps := ["self"]) fun _ _ _ _ _ _ us hl => match us, hl with | [_], _ => rfl), .nil, O_ChainRule_widest⟩
  have X28 : SH.CalM l.prog w K mg base CX0 _ A.Rule "widest" [] _ := ⟨T.cl_Rule, f23, _, _, _, ⟨a23_Rule, i23, k23⟩, (F23.binds (ps := ["self"]) fun _ _ _ _ _ _ us hl => match us, hl with | [_], _ => rfl), .nil, O_Rule_widest⟩
  have X29 : SH.Cal l.prog w K mg base CX0 _ "_law_does" [] _ := ⟨f32, _, _, _, PySem.W.mg_of X G a32, k32, (F32.binds (ps := ["_law_rule", "_law_parts_here", "_law_things_here"]) fun _ _ _ _ _ _ us hl => match us, hl with | [_, _, _], _ => rfl), .nil, O__law_does⟩
  have X30 : SH.Cal l.prog w K mg base CX0 _ "_law_parts" [] _ := ⟨f26, _, _, _, PySem.W.mg_of X G a26, k26, (F26.binds (ps := ["_law_script", "_law_many"]) fun _ _ _ _ _ _ us hl => match us, hl with | [_, _], _ => rfl), .nil, O__law_parts⟩
  have X31 : SH.Cal l.prog w K mg base CX0 _ "_law_text" [] _ := ⟨f28, _, _, _, PySem.W.mg_of X G a28, k28, (F28.binds (ps := ["_law_parts_here"]) fun _ _ _ _ _ _ us hl => match us, hl with | [_], _ => rfl), .nil, O__law_text⟩
  have X32 : SH.Cal l.prog w K mg base CX0 _ "_law_things" [] _ := ⟨f33, _, _, _, PySem.W.mg_of X G a33, k33, (F33.binds (ps := ["_law_script", "_law_kind"]) fun _ _ _ _ _ _ us hl => match us, hl with | [_, _], _ => rfl), .nil, O__law_things⟩
  have X33 : SH.Cal l.prog w K mg base CX0 _ "_law_whole" [] _ := ⟨f34, _, _, _, PySem.W.mg_of X G a34, k34, (F34.binds (ps := ["_law_found"]) fun _ _ _ _ _ _ us hl => match us, hl with | [_], _ => rfl), .nil, O__law_whole⟩
  have X34 : SH.Cal l.prog w K mg base CX0 _ "read_rule" [] _ := ⟨f24, _, _, _, PySem.W.mg_of X G a24, k24, (F24.binds (ps := ["text"]) fun _ _ _ _ _ _ us hl => match us, hl with | [_], _ => rfl), .nil, O_read_rule⟩
  have O_law := ok_law (P := l.prog) (w := w) (base := base) F35 T X27 X6 X7 X8 X28 X9 X19 X29 X30 X31 X32 X33 X34
  exact O_law
theorem walk {l : PySem.W.OpenLaw} {q : Program} {loose : List Str} {XP : (Str → Option Value) → Heap → Prop} {YP : World → Heap → Prop} {d : DefRec} {K : Params → PySem.W.Frag} (hn : l.most = some 63) (hdf : d.params.defaults = [])
    (hY : ∀ (w : World) (h : Heap), YP w h → (K w.params).In h)
    (F : ∀ (w : World) (mg : Str → Option Value) (fa : Addr) (h : Heap), (K w.params).In h → h.Ns mainGlobals mg → mg d.name = some (.ref fa) →
      ∃ fd : FuncData, (∀ (s : Shared) (u : Value), BindsTo s fd ⟨[u], []⟩ [("_law_script", u)]) ∧ ∀ base : Heap, (K w.params).In base → base.Ns mainGlobals mg → ∃ A : Ad, FnOk l.prog w (K w.params) mg base CX0 7 fa fd ["_law_script"] (sp_law (K w.params) A)) :
    PySem.W.WalkO q loose XP YP l.row.toRowW d [] (fun f vs => PySem.call f vs) :=
  L2.walk_of (n := 63) (k := 7) (x := "_law_script") (CX := fun _ => CX0) (sp := fun w => SH.lawSp (K w.params)) hn (by decide) hdf ⟨rfl, by decide, by decide⟩ hY
    (fun w mg fa h a b c => by
      obtain ⟨fd, h1, h2⟩ := F w mg fa h a b c
      exact ⟨fd, h1, fun base x y => by obtain ⟨A, h3⟩ := h2 base x y; exact h3⟩)
    (fun _ _ a ns hl _ hS => ⟨a, ns, rfl, hS, hl, fun _ => rfl⟩) fun _ _ _ _ _ z => z
end Law

open PySem PySem.W PyProof.Rows
set_option maxRecDepth 100000 in
set_option maxHeartbeats 0 in
theorem PySem.Challenge.cw_sorthall_k83_rules_read_holds : PySem.Challenge.rw_sorthall_k83_rules_read.Holds := by
  w_on; o_law; k_head; (case hw => w_witness2)
  k_fill
  refine Law.walk (l := PySem.Challenge.rw_sorthall_k83_rules_read) rfl rfl (fun w h Y => PySem.W.kIn_of Y) ?F
  case F =>
    intro w mg fa h KX G hmg
    refine' Law.all_mk KX G hmg ?aC_HallError ?aC_NoRule ?aC_Rule ?pg_Rule ?hd_Rule ?po_Rule ?sa_Rule ?mk_Rule ?kc_Rule ?ip_Rule ?aC_KeyRule ?pg_KeyRule ?hd_KeyRule ?po_KeyRule ?sa_KeyRule ?mk_KeyRule ?kc_KeyRule ?na_KeyRule_columns ?aC_NearRule ?pg_NearRule ?hd_NearRule ?po_NearRule ?sa_NearRule ?mk_NearRule ?kc_NearRule ?na_NearRule_at ?na_NearRule_gap ?aC_RingRule ?pg_RingRule ?hd_RingRule ?po_RingRule ?sa_RingRule ?mk_RingRule ?kc_RingRule ?na_RingRule_at ?na_RingRule_size ?aC_VoteRule ?pg_VoteRule ?hd_VoteRule ?po_VoteRule ?sa_VoteRule ?mk_VoteRule ?kc_VoteRule ?na_VoteRule_rules ?aC_ChainRule ?pg_ChainRule ?hd_ChainRule ?po_ChainRule ?sa_ChainRule ?mk_ChainRule ?kc_ChainRule ?na_ChainRule_rules ?a1 ?l1 ?c1 ?k1 ?a2 ?l2 ?c2 ?k2 ?a3_KeyRule ?i3 ?l3 ?c3 ?k3 ?a4_KeyRule ?i4 ?l4 ?c4 ?k4 ?a5_NearRule ?i5 ?l5 ?c5 ?k5 ?a6_NearRule ?i6 ?l6 ?c6 ?k6 ?a7_RingRule ?i7 ?l7 ?c7 ?k7 ?a8_RingRule ?i8 ?l8 ?c8 ?k8 ?a9_VoteRule ?i9 ?l9 ?c9 ?k9 ?a10_VoteRule ?i10 ?l10 ?c10 ?k10 ?a11_ChainRule ?i11 ?l11 ?c11 ?k11 ?a12_ChainRule ?i12 ?l12 ?c12 ?k12 ?a13_KeyRule ?i13 ?l13 ?c13 ?k13 ?a14_NearRule ?i14 ?l14 ?c14 ?k14 ?a15_RingRule ?i15 ?l15 ?c15 ?k15 ?a16_VoteRule ?i16 ?l16 ?c16 ?k16 ?a17_ChainRule ?i17 ?l17 ?c17 ?k17 ?a18 ?l18 ?c18 ?k18 ?a19 ?l19 ?c19 ?k19 ?a20 ?l20 ?c20 ?k20 ?a21 ?l21 ?c21 ?k21 ?a22_Rule ?i22 ?l22 ?c22 ?k22 ?a23_Rule ?i23 ?l23 ?c23 ?k23 ?a24 ?l24 ?c24 ?k24 ?a25 ?l25 ?c25 ?k25 ?a26 ?l26 ?c26 ?k26 ?a27 ?l27 ?c27 ?k27 ?a28 ?l28 ?c28 ?k28 ?a29 ?l29 ?c29 ?k29 ?a30 ?l30 ?c30 ?k30 ?a31 ?l31 ?c31 ?k31 ?a32 ?l32 ?c32 ?k32 ?a33 ?l33 ?c33 ?k33 ?a34 ?l34 ?c34 ?k34 ?a35 ?l35 ?c35 ?k35 ?z_ValueError ?z_int ?z_range ?z_list ?z_max ?z_isinstance ?z_str ?z_len ?z_bool ?z_tuple ?kk_MOST_FIGURES ?kk_LAST
    (case aC_HallError => k_is); (case aC_NoRule => k_is); (case aC_Rule => k_is); (case pg_Rule => k_is); (case hd_Rule => k_is); (case po_Rule => k_is); (case sa_Rule => k_is); (case mk_Rule => k_is); (case kc_Rule => k_is); (case ip_Rule => k_is); (case aC_KeyRule => k_is); (case pg_KeyRule => k_is); (case hd_KeyRule => k_is); (case po_KeyRule => k_is); (case sa_KeyRule => k_is); (case mk_KeyRule => k_is); (case kc_KeyRule => k_is); (case na_KeyRule_columns => k_is); (case aC_NearRule => k_is); (case pg_NearRule => k_is); (case hd_NearRule => k_is); (case po_NearRule => k_is); (case sa_NearRule => k_is); (case mk_NearRule => k_is); (case kc_NearRule => k_is); (case na_NearRule_at => k_is); (case na_NearRule_gap => k_is); (case aC_RingRule => k_is); (case pg_RingRule => k_is); (case hd_RingRule => k_is); (case po_RingRule => k_is); (case sa_RingRule => k_is); (case mk_RingRule => k_is); (case kc_RingRule => k_is); (case na_RingRule_at => k_is); (case na_RingRule_size => k_is); (case aC_VoteRule => k_is); (case pg_VoteRule => k_is); (case hd_VoteRule => k_is); (case po_VoteRule => k_is); (case sa_VoteRule => k_is); (case mk_VoteRule => k_is); (case kc_VoteRule => k_is); (case na_VoteRule_rules => k_is); (case aC_ChainRule => k_is); (case pg_ChainRule => k_is); (case hd_ChainRule => k_is); (case po_ChainRule => k_is); (case sa_ChainRule => k_is); (case mk_ChainRule => k_is); (case kc_ChainRule => k_is); (case na_ChainRule_rules => k_is); (case a1 => k_is); (case l1 => k_is); (case c1 => k_is); (case k1 => k_is); (case a2 => k_is); (case l2 => k_is); (case c2 => k_is); (case k2 => k_is); (case a3_KeyRule => k_is); (case i3 => k_is); (case l3 => k_is); (case c3 => k_is); (case k3 => k_is); (case a4_KeyRule => k_is); (case i4 => k_is); (case l4 => k_is); (case c4 => k_is); (case k4 => k_is); (case a5_NearRule => k_is); (case i5 => k_is); (case l5 => k_is); (case c5 => k_is); (case k5 => k_is); (case a6_NearRule => k_is); (case i6 => k_is); (case l6 => k_is); (case c6 => k_is); (case k6 => k_is); (case a7_RingRule => k_is); (case i7 => k_is); (case l7 => k_is); (case c7 => k_is); (case k7 => k_is); (case a8_RingRule => k_is); (case i8 => k_is); (case l8 => k_is); (case c8 => k_is); (case k8 => k_is); (case a9_VoteRule => k_is); (case i9 => k_is); (case l9 => k_is); (case c9 => k_is); (case k9 => k_is); (case a10_VoteRule => k_is); (case i10 => k_is); (case l10 => k_is); (case c10 => k_is); (case k10 => k_is); (case a11_ChainRule => k_is); (case i11 => k_is); (case l11 => k_is); (case c11 => k_is); (case k11 => k_is); (case a12_ChainRule => k_is); (case i12 => k_is); (case l12 => k_is); (case c12 => k_is); (case k12 => k_is); (case a13_KeyRule => k_is); (case i13 => k_is); (case l13 => k_is); (case c13 => k_is); (case k13 => k_is); (case a14_NearRule => k_is); (case i14 => k_is); (case l14 => k_is); (case c14 => k_is); (case k14 => k_is); (case a15_RingRule => k_is); (case i15 => k_is); (case l15 => k_is); (case c15 => k_is); (case k15 => k_is); (case a16_VoteRule => k_is); (case i16 => k_is); (case l16 => k_is); (case c16 => k_is); (case k16 => k_is); (case a17_ChainRule => k_is); (case i17 => k_is); (case l17 => k_is); (case c17 => k_is); (case k17 => k_is); (case a18 => k_is); (case l18 => k_is); (case c18 => k_is); (case k18 => k_is); (case a19 => k_is); (case l19 => k_is); (case c19 => k_is); (case k19 => k_is); (case a20 => k_is); (case l20 => k_is); (case c20 => k_is); (case k20 => k_is); (case a21 => k_is); (case l21 => k_is); (case c21 => k_is); (case k21 => k_is); (case a22_Rule => k_is); (case i22 => k_is); (case l22 => k_is); (case c22 => k_is); (case k22 => k_is); (case a23_Rule => k_is); (case i23 => k_is); (case l23 => k_is); (case c23 => k_is); (case k23 => k_is); (case a24 => k_is); (case l24 => k_is); (case c24 => k_is); (case k24 => k_is); (case a25 => k_is); (case l25 => k_is); (case c25 => k_is); (case k25 => k_is); (case a26 => k_is); (case l26 => k_is); (case c26 => k_is); (case k26 => k_is); (case a27 => k_is); (case l27 => k_is); (case c27 => k_is); (case k27 => k_is); (case a28 => k_is); (case l28 => k_is); (case c28 => k_is); (case k28 => k_is); (case a29 => k_is); (case l29 => k_is); (case c29 => k_is); (case k29 => k_is); (case a30 => k_is); (case l30 => k_is); (case c30 => k_is); (case k30 => k_is); (case a31 => k_is); (case l31 => k_is); (case c31 => k_is); (case k31 => k_is); (case a32 => k_is); (case l32 => k_is); (case c32 => k_is); (case k32 => k_is); (case a33 => k_is); (case l33 => k_is); (case c33 => k_is); (case k33 => k_is); (case a34 => k_is); (case l34 => k_is); (case c34 => k_is); (case k34 => k_is); (case a35 => k_is); (case l35 => k_is); (case c35 => k_is); (case k35 => k_is); (case z_ValueError => k_is); (case z_int => k_is); (case z_range => k_is); (case z_list => k_is); (case z_max => k_is); (case z_isinstance => k_is); (case z_str => k_is); (case z_len => k_is); (case z_bool => k_is); (case z_tuple => k_is); (case kk_MOST_FIGURES => k_is); (case kk_LAST => k_is)
#print axioms PySem.Challenge.cw_sorthall_k83_rules_read_holds

