import PyProof.Rows.All
import Wide.All
import OpenK.AllK
import Wide.FinOn
import HandS.ForMost
import HandS.ForExc
import HandS.Wide
import HandS.WideBits
import HandS.IsInst
import HandS.Conv
import HandS.Walk
import HandS.SortInts
import HandS.SortRule
import HandS.Nested
import HandS.More
import HandS.Defaults
import HandS.EndTab
import HandS.Rev
import HandS.RevTup
import HandS.SortKw
import KE.DataMinMax
import HandS.Dict
import HandS.Style
import KE.DataCmp
import KE.KDictCopyH
import HandS.MakeKw
import HandS.CallLocal
import HandS.SetFor
import HandS.Strs
import HandS.CallSlots
import HandS.ExcIs
import HandS.ExcInit
import HandS.StrMore
import HandS.Zip
import HandS.ExcField
import KE.KExcIs
import HandS.ExcInitHot
import KE.GoesRaise
import PySem.Challenge.RW_sorthall_k84_no_rule_text
set_option Elab.async false
set_option linter.all false
set_option maxRecDepth 100000
set_option maxHeartbeats 4000000
/-! SHA: steps of the heap, rules that look at the values themselves, readings one by one -/
namespace SH
open PySem PySem.Spec PyProof.Rows L2

/-! ### what a heap becomes -/
/-- what never changes -/
def Fix : HO → Prop
  | .tup _ => True
  | .ext _ => True
  | .frz _ _ => True
  | _ => False
/-- H' has all that H has, but what stands at M may be another (no tuple, no function, no cell) -/
structure Stp (M : List Addr) (H H' : Hp) : Prop where
  same : ∀ b o, H b = some o → (b ∉ M ∨ Fix o) → H' b = some o
  dom : ∀ b, H' b = none → H b = none
theorem Stp.refl (M : List Addr) (H : Hp) : Stp M H H := ⟨fun _ _ h _ => h, fun _ h => h⟩
theorem Stp.mono {M M' : List Addr} {H H' : Hp} (s : Stp M H H') (h : ∀ b ∈ M, b ∈ M') : Stp M' H H' := ⟨fun b o e n => s.same b o e (n.imp (fun n z => n (h b z)) id), s.dom⟩
theorem Stp.trans {M : List Addr} {H H1 H2 : Hp} (a : Stp M H H1) (b : Stp M H1 H2) : Stp M H H2 := ⟨fun c o e n => b.same c o (a.same c o e n) n, fun c h => a.dom c (b.dom c h)⟩
/-- what the second changes is new, or the first one's -/
theorem Stp.then {M M' : List Addr} {H H1 H2 : Hp} (a : Stp M H H1) (b : Stp M' H1 H2) (h : ∀ m ∈ M', m ∈ M ∨ H m = none) : Stp M H H2 :=
  ⟨fun c o e n => b.same c o (a.same c o e n) (n.imp (fun n z => (h c z).elim n fun q => (by rw [q] at e; cases e)) id), fun c h => a.dom c (b.dom c h)⟩
theorem Stp.then0 {M : List Addr} {H H1 H2 : Hp} (a : Stp M H H1) (b : Stp [] H1 H2) : Stp M H H2 := a.then b (by simp)
theorem Stp.new {M : List Addr} {H H1 : Hp} {p : Addr} {o : HO} (a : Stp M H H1) (h : H1 p = none) : Stp M H (upd H1 p o) :=
  ⟨fun c u e n => by have q := a.same c u e n; rw [upd_ne (ne_of_none q h)]; exact q, fun c q => a.dom c (by
    by_cases z : c = p
    · subst z; exact h
    · rw [upd_ne z] at q; exact q)⟩
theorem Stp.putM {M : List Addr} {H H1 : Hp} {p : Addr} {o o1 : HO} (a : Stp M H H1) (h : p ∈ M) (h1 : H1 p = some o1) (nf : ¬ Fix o1) : Stp M H (upd H1 p o) :=
  ⟨fun c u e n => by
    by_cases z : c = p
    · subst z
      rcases n with n | n
      · exact (n h).elim
      · have q := a.same c u e (.inr n)
        rw [h1] at q; cases q; exact (nf n).elim
    · rw [upd_ne z]; exact a.same c u e n, fun c q => a.dom c (by
    by_cases z : c = p
    · subst z; rw [upd_same] at q; cases q
    · rw [upd_ne z] at q; exact q)⟩
theorem Stp.putN {M : List Addr} {H H1 : Hp} {p : Addr} {o : HO} (a : Stp M H H1) (h : H p = none) : Stp M H (upd H1 p o) :=
  ⟨fun c u e n => by
    rw [upd_ne (fun z => by subst z; rw [h] at e; cases e)]
    exact a.same c u e n, fun c q => a.dom c (by
    by_cases z : c = p
    · subst z; rw [upd_same] at q; cases q
    · rw [upd_ne z] at q; exact q)⟩
theorem Stp.free {M : List Addr} {H H' : Hp} {p : Addr} (s : Stp M H H') (h : H' p = none) : H p = none := s.dom p h
theorem Stp.keep {M : List Addr} {H H' : Hp} {p : Addr} {o : HO} (s : Stp M H H') (h : H p = some o) (n : p ∉ M) : H' p = some o := s.same p o h (.inl n)
theorem Stp.keep0 {H H' : Hp} {p : Addr} {o : HO} (s : Stp [] H H') (h : H p = some o) : H' p = some o := s.same p o h (.inl (by simp))
theorem Stp.fix {M : List Addr} {H H' : Hp} {p : Addr} {o : HO} (s : Stp M H H') (h : H p = some o) (n : Fix o) : H' p = some o := s.same p o h (.inr n)
theorem Stp.tup {M : List Addr} {H H' : Hp} {p : Addr} {xs : List V} (s : Stp M H H') (h : H p = some (.tup xs)) : H' p = some (.tup xs) := s.fix h True.intro
theorem Stp.keep1 {m : Addr} {H H' : Hp} {p : Addr} {o : HO} (s : Stp [m] H H') (h : H p = some o) (n : p ≠ m) : H' p = some o := s.same p o h (.inl (by simpa using n))
theorem Stp.rd {M : List Addr} {H H' : Hp} {a : Addr} {u : HO} (s : Stp M H H') (h : Rd H a u) (n : a ∉ M) : Rd H' a u := by
  rcases h with h | ⟨o, h⟩
  · exact .inl (s.same _ _ h (.inl n))
  · exact .inr ⟨o, s.same _ _ h (.inr True.intro)⟩
theorem Stp.sql {K : PySem.W.Frag} {M : List Addr} {H H' : Hp} {a : Addr} {xs : List V} (s : Stp M H H') (h : SqL K H a xs) (n : a ∉ M) : SqL K H' a xs := by
  rcases h with h | h
  · exact .inl (s.rd h n)
  · exact .inr h
theorem Stp.sqt {K : PySem.W.Frag} {M : List Addr} {H H' : Hp} {a : Addr} {xs : List V} (s : Stp M H H') (h : SqT K H a xs) (n : a ∉ M) : SqT K H' a xs := by
  rcases h with h | h
  · exact .inl (s.rd h n)
  · exact .inr h
theorem Stp.sqtM {K : PySem.W.Frag} {M : List Addr} {H H' : Hp} {a : Addr} {xs : List V} (s : Stp M H H') (h : SqT K H a xs) : SqT K H' a xs := by
  rcases h with (h | ⟨o, h⟩) | h
  · exact .inl (.inl (s.fix h True.intro))
  · exact .inl (.inr ⟨o, s.fix h True.intro⟩)
  · exact .inr h
theorem Stp.sql1 {K : PySem.W.Frag} {m : Addr} {H H' : Hp} {a : Addr} {xs : List V} (s : Stp [m] H H') (h : SqL K H a xs) (n : a ≠ m) : SqL K H' a xs := s.sql h (by simpa using n)
theorem Stp.sql0 {K : PySem.W.Frag} {H H' : Hp} {a : Addr} {xs : List V} (s : Stp [] H H') (h : SqL K H a xs) : SqL K H' a xs := s.sql h (by simp)
theorem Stp.sqt0 {K : PySem.W.Frag} {H H' : Hp} {a : Addr} {xs : List V} (s : Stp [] H H') (h : SqT K H a xs) : SqT K H' a xs := s.sqt h (by simp)
theorem Stp.not {M : List Addr} {H H' : Hp} {p : Addr} (s : Stp M H H') (h : H' p = none) (hm : ∀ m ∈ M, H m ≠ none) : p ∉ M := fun z => hm p z (s.dom p h)
theorem upd_old {H : Hp} {a p : Addr} {o u : HO} (h : H a = some o) (hp : H p = none) : upd H p u a = some o := by rw [upd_ne (ne_of_none h hp)]; exact h
theorem upd_far {H : Hp} {a p : Addr} {o : Option HO} {u : HO} (n : a ≠ p) (h : H a = o) : upd H p u a = o := by rw [upd_ne n]; exact h
theorem upd_free {H : Hp} {a p : Addr} {u : HO} (h : upd H p u a = none) : H a = none ∧ a ≠ p := by
  by_cases z : a = p
  · subst z; rw [upd_same] at h; cases h
  · rw [upd_ne z] at h; exact ⟨h, z⟩
theorem sql_upd {K : PySem.W.Frag} {H : Hp} {a p : Addr} {xs : List V} {u : HO} (h : SqL K H a xs) (hp : H p = none) : SqL K (upd H p u) a xs := (Stp.refl [] H |>.new hp).sql h (by simp)
theorem sqt_upd {K : PySem.W.Frag} {H : Hp} {a p : Addr} {xs : List V} {u : HO} (h : SqT K H a xs) (hp : H p = none) : SqT K (upd H p u) a xs := (Stp.refl [] H |>.new hp).sqt h (by simp)
theorem sql_far {K : PySem.W.Frag} {H : Hp} {a p : Addr} {xs : List V} {u : HO} (h : SqL K H a xs) (n : a ≠ p) : SqL K (upd H p u) a xs := by
  rcases h with (h | ⟨o, h⟩) | h
  · exact .inl (.inl (upd_far n h))
  · exact .inl (.inr ⟨o, upd_far n h⟩)
  · exact .inr h
theorem sqt_far {K : PySem.W.Frag} {H : Hp} {a p : Addr} {xs : List V} {u : HO} (h : SqT K H a xs) (n : a ≠ p) : SqT K (upd H p u) a xs := by
  rcases h with (h | ⟨o, h⟩) | h
  · exact .inl (.inl (upd_far n h))
  · exact .inl (.inr ⟨o, upd_far n h⟩)
  · exact .inr h

/-! ### the slots -/
theorem set_z {x y : Option V} {xs : L2.St} : (x :: xs).set 0 y = y :: xs := rfl
theorem set_s {x y : Option V} {xs ys : L2.St} {n : Nat} (h : xs.set n y = ys) : (x :: xs).set (n + 1) y = x :: ys := by subst h; rfl
theorem get_z {x : V} {xs : L2.St} : (some x :: xs)[0]? = some (some x) := rfl
theorem get_s {x : Option V} {xs : L2.St} {n : Nat} {v : V} (h : xs[n]? = some (some v)) : (x :: xs)[n + 1]? = some (some v) := h

/-! ### two-place operations by the values -/
/-- the ways of + -/
def aAdd (K : PySem.W.Frag) : R2 := fun x y H Q => match x, y with
  | .int i, .int j => Q (.int (i + j)) H
  | .str a, .str b => a.length + b.length ≤ sizeLine ∧ Q (.str (a ++ b)) H
  | .ref a, .ref b => (∃ xs ys, H a = some (.lst xs) ∧ H b = some (.lst ys) ∧ xs.length + ys.length ≤ sizeLine ∧ ∀ p, H p = none → Q (.ref p) (upd H p (.lst (xs ++ ys)))) ∨ rCatT K (.ref a) (.ref b) H Q
  | _, _ => False
def aSub : R2 := fun x y H Q => match x, y with
  | .int i, .int j => Q (.int (i - j)) H
  | _, _ => False
def aMul : R2 := fun x y H Q => match x, y with
  | .int i, .int j => IntMulOk i j ∧ Q (.int (i * j)) H
  | .str a, .int k => PySem.MulOk a k ∧ Q (.str (PySem.Txt.mul a k)) H
  | .ref a, .int k => ∃ xs, H a = some (.lst xs) ∧ -(2 ^ 63) ≤ k ∧ k < 2 ^ 63 ∧ xs.length * k.toNat ≤ sizeLine ∧ ∀ p, H p = none → Q (.ref p) (upd H p (.lst ((List.replicate k.toNat xs).flatten)))
  | _, _ => False
def aDiv : R2 := fun x y H Q => match x, y with
  | .int i, .int j => 0 < j ∧ Builtin.divisionGoesByPylong i j = false ∧ Q (.int (i / j)) H
  | _, _ => False
def aMod : R2 := fun x y H Q => match x, y with
  | .int i, .int j => 0 < j ∧ Q (.int (i % j)) H
  | _, _ => False
def aPow : R2 := fun x y H Q => match x, y with
  | .int i, .int j => CPow i j ∧ Q (.int (i ^ j.toNat)) H
  | _, _ => False
def aShl : R2 := fun x y H Q => match x, y with
  | .int i, .int j => CShl i j ∧ Q (.int (i * 2 ^ j.toNat)) H
  | _, _ => False
def aShr : R2 := fun x y H Q => match x, y with
  | .int i, .int j => 0 ≤ j ∧ Q (.int (i / 2 ^ j.toNat)) H
  | _, _ => False
def aAnd : R2 := fun x y H Q => match x, y with
  | .int i, .int j => Q (.int (Builtin.bitAnd i j)) H
  | _, _ => False
def aLt (K : PySem.W.Frag) : R2 := fun x y H Q => match x, y with
  | .int i, .int j => Q (.bl (decide (i < j))) H
  | .str i, .str j => Q (.bl (decide (i.cps.toList < j.cps.toList))) H
  | .ref a, .ref b => rLtT K (.ref a) (.ref b) H Q
  | _, _ => False
def aLe : R2 := fun x y H Q => match x, y with
  | .int i, .int j => Q (.bl (decide (i ≤ j))) H
  | _, _ => False
def aGt : R2 := fun x y H Q => match x, y with
  | .int i, .int j => Q (.bl (decide (j < i))) H
  | _, _ => False
def aGe : R2 := fun x y H Q => match x, y with
  | .int i, .int j => Q (.bl (decide (j ≤ i))) H
  | _, _ => False
def aEq (K : PySem.W.Frag) : R2 := fun x y H Q => (scal x y = true ∧ Q (.bl (decide (x = y))) H) ∨ rEqD K x y H Q
def aNe (K : PySem.W.Frag) : R2 := fun x y H Q => (scal x y = true ∧ Q (.bl (!decide (x = y))) H) ∨ rNeD K x y H Q
def aIsN : R2 := fun x y H Q => y = .non ∧ Q (.bl (decide (x = .non))) H
def aNotN : R2 := fun x y H Q => y = .non ∧ Q (.bl (!decide (x = .non))) H

section
variable {X : Cx}
theorem oAdd : OpR X (binaryOp .Add) (aAdd X.K) := by
  intro pins s σ H x y v u Q I rx ry h
  cases x <;> cases y <;> first | exact False.elim h | skip
  · exact op_add pins s σ H _ _ v u Q I rx ry ⟨_, _, rfl, rfl, h⟩
  · exact op_add_str pins s σ H _ _ v u Q I rx ry ⟨_, _, rfl, rfl, h.1, h.2⟩
  · rcases h with ⟨xs, ys, h1, h2, h3, h4⟩ | h
    · exact op_cat pins s σ H _ _ v u Q I rx ry ⟨_, _, xs, ys, rfl, rfl, h1, h2, h3, h4⟩
    · exact op_catT pins s σ H _ _ v u Q I rx ry h
theorem oSub : OpR X (binaryOp .Sub) aSub := by
  intro pins s σ H x y v u Q I rx ry h
  cases x <;> cases y <;> first | exact False.elim h | skip
  exact op_sub pins s σ H _ _ v u Q I rx ry ⟨_, _, rfl, rfl, h⟩
theorem oMul : OpR X (binaryOp .Mult) aMul := by
  intro pins s σ H x y v u Q I rx ry h
  cases x <;> cases y <;> first | exact False.elim h | skip
  · obtain ⟨t, rfl⟩ := rx
    obtain ⟨t', rfl⟩ := ry
    exact mul_int ⟨.int _, H, I.tok _, ⟨_, rfl⟩, h.2⟩ h.1
  · obtain ⟨t, rfl⟩ := rx
    obtain ⟨t', rfl⟩ := ry
    exact PySem.SB.mul h.1 fun t' k => ⟨.str _, H, I.tok _, ⟨_, rfl⟩, h.2⟩
  · obtain ⟨xs, h1, h2, h3, h4, h5⟩ := h
    exact op_rep pins s σ H _ _ v u Q I rx ry ⟨_, _, xs, rfl, rfl, h1, h2, h3, h4, h5⟩
theorem oDiv : OpR X (binaryOp .FloorDiv) aDiv := by
  intro pins s σ H x y v u Q I rx ry h
  cases x <;> cases y <;> first | exact False.elim h | skip
  obtain ⟨t, rfl⟩ := rx
  obtain ⟨t', rfl⟩ := ry
  obtain ⟨h0, h1, q⟩ := h
  exact floordiv_int (by omega) (by rw [Int.fdiv_eq_ediv_of_nonneg _ (by omega)]; exact ⟨.int _, H, I.tok _, ⟨_, rfl⟩, q⟩) (.inl h1)
theorem oMod : OpR X (binaryOp .Mod) aMod := by
  intro pins s σ H x y v u Q I rx ry h
  cases x <;> cases y <;> first | exact False.elim h | skip
  exact op_mod pins s σ H _ _ v u Q I rx ry ⟨_, _, rfl, rfl, h⟩
theorem oPow : OpR X (binaryOp .Pow) aPow := by
  intro pins s σ H x y v u Q I rx ry h
  cases x <;> cases y <;> first | exact False.elim h | skip
  exact op_pow pins s σ H _ _ v u Q I rx ry ⟨_, _, rfl, rfl, h⟩
theorem oShl : OpR X (binaryOp .LShift) aShl := by
  intro pins s σ H x y v u Q I rx ry h
  cases x <;> cases y <;> first | exact False.elim h | skip
  exact op_shlW pins s σ H _ _ v u Q I rx ry ⟨_, _, rfl, rfl, h⟩
theorem oShr : OpR X (binaryOp .RShift) aShr := by
  intro pins s σ H x y v u Q I rx ry h
  cases x <;> cases y <;> first | exact False.elim h | skip
  exact op_shr pins s σ H _ _ v u Q I rx ry ⟨_, _, rfl, rfl, h⟩
theorem oAnd : OpR X (binaryOp .BitAnd) aAnd := by
  intro pins s σ H x y v u Q I rx ry h
  cases x <;> cases y <;> first | exact False.elim h | skip
  exact op_and pins s σ H _ _ v u Q I rx ry ⟨_, _, rfl, rfl, h⟩
theorem oLt (hu : X.A.units < cLine) : OpR X (compareOp .Lt) (aLt X.K) := by
  intro pins s σ H x y v u Q I rx ry h
  cases x <;> cases y <;> first | exact False.elim h | skip
  · exact op_lt pins s σ H _ _ v u Q I rx ry ⟨_, _, rfl, rfl, h⟩
  · exact op_lt_str pins s σ H _ _ v u Q I rx ry ⟨_, _, rfl, rfl, h⟩
  · exact op_ltT hu pins s σ H _ _ v u Q I rx ry h
theorem oLe : OpR X (compareOp .LtE) aLe := by
  intro pins s σ H x y v u Q I rx ry h
  cases x <;> cases y <;> first | exact False.elim h | skip
  exact op_le pins s σ H _ _ v u Q I rx ry ⟨_, _, rfl, rfl, h⟩
theorem oGt : OpR X (compareOp .Gt) aGt := by
  intro pins s σ H x y v u Q I rx ry h
  cases x <;> cases y <;> first | exact False.elim h | skip
  exact op_gt pins s σ H _ _ v u Q I rx ry ⟨_, _, rfl, rfl, h⟩
theorem oGe : OpR X (compareOp .GtE) aGe := by
  intro pins s σ H x y v u Q I rx ry h
  cases x <;> cases y <;> first | exact False.elim h | skip
  exact op_ge pins s σ H _ _ v u Q I rx ry ⟨_, _, rfl, rfl, h⟩
theorem oEq (hu : X.A.units + 64 < cLine) : OpR X (compareOp .Eq) (aEq X.K) := op_eq.or (op_eqD hu)
theorem oNe (hu : X.A.units + 64 < cLine) : OpR X (compareOp .NotEq) (aNe X.K) := op_ne.or (op_neD hu)
theorem oIsN : OpR X (compareOp .Is) aIsN := op_isN
theorem oNotN : OpR X (compareOp .IsNot) aNotN := op_notN
theorem ipAdd : PIp X .Add (fun x y H Q => match x, y with
  | .int i, .int j => Q (.int (i + j)) H
  | _, _ => False) := by
  intro pins s σ H x y v u Q I rx ry h
  cases x <;> cases y <;> first | exact False.elim h | skip
  exact ip_add pins s σ H _ _ v u Q I rx ry ⟨_, _, rfl, rfl, h⟩
theorem ipSub : PIp X .Sub (fun x y H Q => match x, y with
  | .int i, .int j => Q (.int (i - j)) H
  | _, _ => False) := by
  intro pins s σ H x y v u Q I rx ry h
  cases x <;> cases y <;> first | exact False.elim h | skip
  exact ip_sub pins s σ H _ _ v u Q I rx ry ⟨_, _, rfl, rfl, h⟩
end
end SH

set_option Elab.async false
set_option linter.all false
set_option maxRecDepth 100000
set_option maxHeartbeats 4000000
/-! SHB: readings, one lemma a word -/
namespace SH
open PySem PySem.Spec PyProof.Rows L2

section
variable {K : PySem.W.Frag} {D : Ends} {σ σ' : L2.St} {H : Hp} {Q : VK} {QA : List V → Hp → Prop} {QT : Bool → Hp → Prop} {QO : Option Int → Hp → Prop} {QG : L2.St → Hp → Prop} {i j : Nat} {v x y : V} {vs : List V} {ta tb tc te : TE} {t u tt : TT} {tr as : TA} {t1 t2 : TS} {g : TG} {gs : TGs} {r r' : R2} {b : Bool} {A B : Prop}

/-! the start -/
theorem st_c {x : Str} {N : List Str} {v : V} {vs : List V} {τ : L2.St} (h : L2.start N vs = τ) : L2.start (x :: N) (v :: vs) = some v :: τ := by
  rw [← h]; show _ :: (_ ++ List.replicate (N.length + 1 - (vs.length + 1)) none) = _; rw [Nat.add_sub_add_right]; rfl
theorem st_n {x : Str} {N : List Str} {τ : L2.St} (h : L2.start N [] = τ) : L2.start (x :: N) [] = none :: τ := by rw [← h]; rfl
theorem st_z : L2.start [] [] = [] := rfl
theorem r_start {N : List Str} {t : TS} (e : L2.start N vs = σ) (h : t D σ H) : t D (L2.start N vs) H := by rw [e]; exact h

theorem wp_z {f : Str × Nat → Nat} : wipe σ (List.map f []) = σ := rfl
theorem wp_s {a : Str} {n : Nat} {l : List (Str × Nat)} {τ τ' : L2.St} (h : wipe σ (l.map (fun x => x.2)) = τ) (e : τ.set n none = τ') : wipe σ (((a, n) :: l).map (fun x => x.2)) = τ' := by
  show (wipe σ (l.map (fun x => x.2))).set n none = τ'
  rw [h, e]
theorem r_gnw {ws : List Nat} {τ : L2.St} (e : wipe σ ws = τ) (h : gName i v τ H QG) : gName i v (wipe σ ws) H QG := by rw [e]; exact h
theorem r_gtw {ws : List Nat} {n : Nat} {τ : L2.St} (e : wipe σ ws = τ) (h : gTup K n gs v τ H QG) : gTup K n gs v (wipe σ ws) H QG := by rw [e]; exact h
theorem r_wp {ws : List Nat} {τ : L2.St} (e : wipe σ ws = wipe τ ws) (h : A) : wipe σ ws = wipe τ ws ∧ A := ⟨e, h⟩

/-! statements -/
theorem r_seq (h : t1 { D with nx := t2 D } σ H) : tSeq t1 t2 D σ H := h
theorem r_next (h : D.nx σ H) : tNext D σ H := h
theorem r_nx (e : σ.set i (some v) = σ') (h : D.nx σ' H) : D.nx (σ.set i (some v)) H := by rw [e]; exact h
theorem r_asg (h : te σ H fun x H1 => g x σ H1 D.nx) : tAsg te g D σ H := h
theorem r_gname (e : σ.set i (some v) = σ') (h : QG σ' H) : gName i v σ H QG := by subst e; exact h
theorem r_aug {rd : TIp} (hx : σ[i]? = some (some x)) (h : te σ H fun y H1 => rd x y H1 fun z H2 => D.nx (σ.set i (some z)) H2) : tAug i te rd D σ H := ⟨x, hx, h⟩
theorem r_drop (h : te σ H fun _ H1 => D.nx σ H1) : tDrop te D σ H := h
theorem r_ret (h : te σ H D.rt) : tRet te D σ H := h
theorem r_retN (h : D.rt .non H) : tRetN D σ H := h
theorem r_ifS (h : tt σ H fun b H1 => if b = true then t1 D σ H1 else t2 D σ H1) : tIfS tt t1 t2 D σ H := h
theorem r_brk (h : D.bk σ H) : tBreak D σ H := h
theorem r_cont (h : D.ct σ H) : tCont D σ H := h
theorem r_gtup {n : Nat} {a : Addr} {xs : List V} (hq : SqT K H a xs) (hl : xs.length = n) (h : gs xs σ H QG) : gTup K n gs (.ref a) σ H QG := ⟨a, xs, rfl, hq, hl, h⟩
theorem r_glst {n : Nat} {a : Addr} {xs : List V} (hq : SqL K H a xs) (hl : xs.length = n) (h : gs xs σ H QG) : gLst K n gs (.ref a) σ H QG := ⟨a, xs, rfl, hq, hl, h⟩
theorem r_gcons (h : g v σ H fun σ' H' => gs vs σ' H' QG) : gCons g gs (v :: vs) σ H QG := ⟨v, vs, rfl, h⟩
theorem r_gnil (h : QG σ H) : gNil [] σ H QG := ⟨rfl, h⟩
theorem r_gsub {to ti : TE} {ts : TSet} (h : to σ H fun o H1 => ti σ H1 fun i H2 => ts o i v H2 fun H3 => QG σ H3) : gSub to ti ts v σ H QG := h

/-! expressions -/
theorem r_var (h : σ[i]? = some (some v)) (k : Q v H) : tVar i σ H Q := ⟨v, h, k⟩
theorem r_c (k : Q v H) : tC v σ H Q := k
theorem r_op (h : ta σ H fun x H1 => tb σ H1 fun y H2 => r x y H2 Q) : tOp r ta tb σ H Q := h
theorem r_un {ru : V → Hp → VK → Prop} (h : ta σ H fun x H1 => ru x H1 Q) : tUn ru ta σ H Q := h
theorem r_neg {n : Int} (k : Q (.int (-n)) H) : rU (fun i => .int (-i)) (.int n) H Q := ⟨n, rfl, k⟩
theorem r_if (h : t σ H fun c H1 => if c = true then ta σ H1 Q else tb σ H1 Q) : tIf t ta tb σ H Q := h
theorem r_nil (h : QA [] H) : tNil σ H QA := h
theorem r_cons (h : ta σ H fun x H1 => tr σ H1 fun xs H2 => QA (x :: xs) H2) : tCons ta tr σ H QA := h
def kTup (Q : VK) : List V → Hp → Prop := fun xs H1 => xs.length ≤ sizeLine ∧ ∀ p, H1 p = none → Q (.ref p) (upd H1 p (.tup xs))
def kLst (Q : VK) : List V → Hp → Prop := fun xs H1 => xs.length ≤ sizeLine ∧ ∀ p, H1 p = none → Q (.ref p) (upd H1 p (.lst xs))
theorem r_tup (h : as σ H (kTup Q)) : tTup as σ H Q := h
theorem r_lst (h : as σ H (kLst Q)) : tLst as σ H Q := h
theorem v_tup (hl : vs.length ≤ 1000) (h : ∀ p, H p = none → Q (.ref p) (upd H p (.tup vs))) : kTup Q vs H := ⟨Nat.le_trans hl (by decide), h⟩
theorem v_lst (hl : vs.length ≤ 1000) (h : ∀ p, H p = none → Q (.ref p) (upd H p (.lst vs))) : kLst Q vs H := ⟨Nat.le_trans hl (by decide), h⟩
theorem v_tup2 (h : ∀ p, H p = none → Q (.ref p) (upd H p (.tup [x, y]))) : kTup Q [x, y] H := v_tup (by simp) h
theorem v_tup3 (h : ∀ p, H p = none → Q (.ref p) (upd H p (.tup [x, y, v]))) : kTup Q [x, y, v] H := v_tup (by simp) h
theorem v_lst0 (h : ∀ p, H p = none → Q (.ref p) (upd H p (.lst []))) : kLst Q [] H := v_lst (by simp) h
theorem v_lst1 (h : ∀ p, H p = none → Q (.ref p) (upd H p (.lst [x]))) : kLst Q [x] H := v_lst (by simp) h
theorem v_lst2 (h : ∀ p, H p = none → Q (.ref p) (upd H p (.lst [x, y]))) : kLst Q [x, y] H := v_lst (by simp) h
theorem v_lst3 (h : ∀ p, H p = none → Q (.ref p) (upd H p (.lst [x, y, v]))) : kLst Q [x, y, v] H := v_lst (by simp) h
theorem v_lst4 {z : V} (h : ∀ p, H p = none → Q (.ref p) (upd H p (.lst [x, y, v, z]))) : kLst Q [x, y, v, z] H := v_lst (by simp) h
theorem r_len0 {n : Nat} (h : n ≤ 1000) : n ≤ sizeLine := Nat.le_trans h (by decide)
theorem r_call {sp : Sp} {dvs : List V} {E : XK} (h : as σ H fun vs H1 => sp (vs ++ dvs) H1 Q E) : tCall sp dvs E as σ H Q := h
theorem r_cb {rc : List V → Hp → VK → Prop} (h : as σ H fun vs H1 => rc vs H1 Q) : tCB rc as σ H Q := h
theorem r_andV (h : ta σ H fun x H1 => ∃ c, x = .bl c ∧ if c = true then tb σ H1 Q else Q (.bl false) H1) : tAndV ta tb σ H Q := h
theorem r_orV (h : ta σ H fun x H1 => ∃ c, x = .bl c ∧ if c = true then Q (.bl true) H1 else tb σ H1 Q) : tOrV ta tb σ H Q := h
theorem r_notV (h : ta σ H fun x H1 => ∃ c, x = .bl c ∧ Q (.bl (!c)) H1) : tNotV ta σ H Q := h
theorem r_bl {P : Bool → Prop} (h : P b) : ∃ c, V.bl b = .bl c ∧ P c := ⟨b, rfl, h⟩
theorem r_test (h : te σ H fun x H1 => ∃ k, x = .bl k ∧ QT k H1) : tTest te σ H QT := h
theorem r_B (h : te σ H fun x H1 => ∃ k, x = .bl k ∧ QT k H1) : tB te σ H QT := h
theorem r_and (h : t σ H fun c H1 => if c = true then u σ H1 QT else QT false H1) : tAnd t u σ H QT := h
theorem r_or (h : t σ H fun c H1 => if c = true then QT true H1 else u σ H1 QT) : tOr t u σ H QT := h
theorem r_not (h : t σ H fun c H1 => QT (!c) H1) : tNot t σ H QT := h
theorem r_yes (h : QT true H) : tYes σ H QT := h
theorem r_nopart (h : QO none H) : tNoPart σ H QO := h
theorem r_part (h : te σ H fun x H1 => ∃ i, x = .int i ∧ QO (some i) H1) : tPart te σ H QO := h
theorem r_int {P : Int → Prop} {n : Int} (h : P n) : ∃ i, V.int n = .int i ∧ P i := ⟨n, rfl, h⟩
theorem r_sl {rs : V → Option Int → Option Int → Hp → VK → Prop} {tl th : TO} (h : te σ H fun x H1 => tl σ H1 fun l H2 => th σ H2 fun u H3 => rs x l u H3 Q) : tSl rs te tl th σ H Q := h
theorem r_chain (h : ta σ H fun x H1 => tb σ H1 fun y H2 => r x y H2 fun z H3 => ∃ k, z = .bl k ∧ (if k = true then tc σ H3 fun w' H4 => r' y w' H4 Q else Q (.bl false) H3)) : tChain r r' ta tb tc σ H Q := h
theorem r_bm {T : String} {rb : V → List V → Hp → VK → Prop} (h : te σ H fun x H1 => tyV K T x H1 ∧ as σ H1 fun xs H2 => rb x xs H2 Q) : tBM K T rb te as σ H Q := h
theorem r_bm0 {T : String} {rb : V → List V → Hp → VK → Prop} (h : te σ H fun x H1 => tyV K T x H1 ∧ rb x [] H1 Q) : tBM0 K T rb te σ H Q := h

/-! values -/
theorem v_addI {n m : Int} (h : Q (.int (n + m)) H) : aAdd K (.int n) (.int m) H Q := h
theorem v_addL {a c : Addr} {xs ys : List V} (h1 : H a = some (.lst xs)) (h2 : H c = some (.lst ys)) (h3 : xs.length + ys.length ≤ sizeLine) (h : ∀ p, H p = none → Q (.ref p) (upd H p (.lst (xs ++ ys)))) : aAdd K (.ref a) (.ref c) H Q := .inl ⟨xs, ys, h1, h2, h3, h⟩
theorem v_subI {n m : Int} (h : Q (.int (n - m)) H) : aSub (.int n) (.int m) H Q := h
theorem v_mulI {n m : Int} (h0 : IntMulOk n m) (h : Q (.int (n * m)) H) : aMul (.int n) (.int m) H Q := ⟨h0, h⟩
theorem v_mulL {a : Addr} {k : Int} {xs : List V} (h1 : H a = some (.lst xs)) (h2 : -(2 ^ 63) ≤ k ∧ k < 2 ^ 63) (h3 : xs.length * k.toNat ≤ sizeLine) (h : ∀ p, H p = none → Q (.ref p) (upd H p (.lst ((List.replicate k.toNat xs).flatten)))) : aMul (.ref a) (.int k) H Q := ⟨xs, h1, h2.1, h2.2, h3, h⟩
theorem v_div {n m : Int} (h0 : 0 < m) (h1 : Builtin.divisionGoesByPylong n m = false) (h : Q (.int (n / m)) H) : aDiv (.int n) (.int m) H Q := ⟨h0, h1, h⟩
theorem v_divS {n m : Int} (h0 : 0 < m) (h1 : m < 1073741824) (h : Q (.int (n / m)) H) : aDiv (.int n) (.int m) H Q := ⟨h0, PyProof.noPylong_small (by omega), h⟩
theorem v_divW {n m : Int} (h0 : 0 < m) (h1 : m.natAbs.log2 < 9000) (h : Q (.int (n / m)) H) : aDiv (.int n) (.int m) H Q := ⟨h0, PyProof.noPylong_of_log2 h1, h⟩
theorem v_mod {n m : Int} (h0 : 0 < m) (h : Q (.int (n % m)) H) : aMod (.int n) (.int m) H Q := ⟨h0, h⟩
theorem v_pow {n m : Int} (h0 : CPow n m) (h : Q (.int (n ^ m.toNat)) H) : aPow (.int n) (.int m) H Q := ⟨h0, h⟩
theorem v_shl {n m : Int} (h0 : CShl n m) (h : Q (.int (n * 2 ^ m.toNat)) H) : aShl (.int n) (.int m) H Q := ⟨h0, h⟩
theorem v_shr {n m : Int} (h0 : 0 ≤ m) (h : Q (.int (n / 2 ^ m.toNat)) H) : aShr (.int n) (.int m) H Q := ⟨h0, h⟩
theorem v_and {n m : Int} (h : Q (.int (Builtin.bitAnd n m)) H) : aAnd (.int n) (.int m) H Q := h
theorem v_ltI {n m : Int} (h : Q (.bl (decide (n < m))) H) : aLt K (.int n) (.int m) H Q := h
theorem v_ltT {a c : Addr} {ns ms : List Int} (h1 : SqT K H a (ns.map V.int)) (h2 : SqT K H c (ms.map V.int)) (h : Q (.bl (HT.lexLt ns ms)) H) : aLt K (.ref a) (.ref c) H Q := ⟨a, c, ns, ms, rfl, rfl, h1, h2, h⟩
theorem v_leI {n m : Int} (h : Q (.bl (decide (n ≤ m))) H) : aLe (.int n) (.int m) H Q := h
theorem v_gtI {n m : Int} (h : Q (.bl (decide (m < n))) H) : aGt (.int n) (.int m) H Q := h
theorem v_geI {n m : Int} (h : Q (.bl (decide (m ≤ n))) H) : aGe (.int n) (.int m) H Q := h
theorem dec_i {n m : Int} : decide (V.int n = V.int m) = decide (n = m) := by simp
theorem v_eqI {n m : Int} (h : Q (.bl (decide (n = m))) H) : aEq K (.int n) (.int m) H Q := .inl ⟨rfl, by rw [dec_i]; exact h⟩
theorem v_neI {n m : Int} (h : Q (.bl (!decide (n = m))) H) : aNe K (.int n) (.int m) H Q := .inl ⟨rfl, by rw [dec_i]; exact h⟩
theorem v_eqB {n m : Bool} (h : Q (.bl (decide (n = m))) H) : aEq K (.bl n) (.bl m) H Q := .inl ⟨rfl, by rw [show decide (V.bl n = V.bl m) = decide (n = m) by simp]; exact h⟩
theorem v_neB {n m : Bool} (h : Q (.bl (!decide (n = m))) H) : aNe K (.bl n) (.bl m) H Q := .inl ⟨rfl, by rw [show decide (V.bl n = V.bl m) = decide (n = m) by simp]; exact h⟩
theorem v_eqS {n m : Str} (h : Q (.bl (decide (n = m))) H) : aEq K (.str n) (.str m) H Q := .inl ⟨rfl, by rw [show decide (V.str n = V.str m) = decide (n = m) by simp]; exact h⟩
theorem v_neS {n m : Str} (h : Q (.bl (!decide (n = m))) H) : aNe K (.str n) (.str m) H Q := .inl ⟨rfl, by rw [show decide (V.str n = V.str m) = decide (n = m) by simp]; exact h⟩
theorem v_eqO (hs : scal x y = true) (h : Q (.bl (decide (x = y))) H) : aEq K x y H Q := .inl ⟨hs, h⟩
theorem v_neO (hs : scal x y = true) (h : Q (.bl (!decide (x = y))) H) : aNe K x y H Q := .inl ⟨hs, h⟩
theorem v_eqD {d e : PyData} (h1 : Dp K H x d) (h2 : Dp K H y e) (h3 : SeqAt.shaped d = true) (h4 : SeqAt.shaped e = true) (h : Q (.bl (PyData.eqv d e)) H) : aEq K x y H Q := .inr ⟨d, e, h1, h2, h3, h4, h⟩
theorem v_neD {d e : PyData} (h1 : Dp K H x d) (h2 : Dp K H y e) (h3 : SeqAt.shaped d = true) (h4 : SeqAt.shaped e = true) (h : Q (.bl (!PyData.eqv d e)) H) : aNe K x y H Q := .inr ⟨d, e, h1, h2, h3, h4, h⟩
theorem v_isN (h : Q (.bl (decide (x = .non))) H) : aIsN x .non H Q := ⟨rfl, h⟩
theorem v_notN (h : Q (.bl (!decide (x = .non))) H) : aNotN x .non H Q := ⟨rfl, h⟩
theorem v_ipAdd {n m : Int} (h : Q (.int (n + m)) H) : (fun (x y : V) (H : Hp) (Q : VK) => match x, y with | .int i, .int j => Q (.int (i + j)) H | _, _ => False) (.int n) (.int m) H Q := h
def aIpAdd : TIp := fun x y H Q => match x, y with
  | .int i, .int j => Q (.int (i + j)) H
  | _, _ => False
def aIpSub : TIp := fun x y H Q => match x, y with
  | .int i, .int j => Q (.int (i - j)) H
  | _, _ => False
theorem ip_add' {X : Cx} : PIp X .Add aIpAdd := ipAdd
theorem ip_sub' {X : Cx} : PIp X .Sub aIpSub := ipSub
theorem v_ipA {n m : Int} (h : Q (.int (n + m)) H) : aIpAdd (.int n) (.int m) H Q := h
theorem v_ipS {n m : Int} (h : Q (.int (n - m)) H) : aIpSub (.int n) (.int m) H Q := h

/-! ways -/
theorem r_T (h : A) : if true = true then A else B := by rw [if_pos rfl]; exact h
theorem r_F (h : B) : if false = true then A else B := by rw [if_neg Bool.false_ne_true]; exact h
theorem r_nT (h : B) : if (!true) = true then A else B := by rw [if_neg (by decide)]; exact h
theorem r_nF (h : A) : if (!false) = true then A else B := by rw [if_pos (by decide)]; exact h
theorem r_w {c : Prop} [Decidable c] (h1 : c → A) (h2 : ¬ c → B) : if decide c = true then A else B := by
  by_cases h : c
  · rw [decide_eq_true h, if_pos rfl]; exact h1 h
  · rw [decide_eq_false h, if_neg Bool.false_ne_true]; exact h2 h
theorem r_nw {c : Prop} [Decidable c] (h1 : ¬ c → A) (h2 : c → B) : if (!decide c) = true then A else B := by
  by_cases h : c
  · rw [decide_eq_true h]; exact r_nT (h2 h)
  · rw [decide_eq_false h]; exact r_nF (h1 h)
theorem r_b (h1 : b = true → A) (h2 : b = false → B) : if b = true then A else B := by
  cases b with
  | true => exact r_T (h1 rfl)
  | false => exact r_F (h2 rfl)
theorem r_nb (h1 : b = false → A) (h2 : b = true → B) : if (!b) = true then A else B := by
  cases b with
  | true => exact r_nT (h2 rfl)
  | false => exact r_nF (h1 rfl)
theorem r_wT {c : Prop} [Decidable c] (hc : c) (h : A) : if decide c = true then A else B := r_w (fun _ => h) fun n => (n hc).elim
theorem r_wF {c : Prop} [Decidable c] (hc : ¬ c) (h : B) : if decide c = true then A else B := r_w (fun n => (hc n).elim) fun _ => h
theorem r_nwT {c : Prop} [Decidable c] (hc : ¬ c) (h : A) : if (!decide c) = true then A else B := r_nw (fun _ => h) fun n => (hc n).elim
theorem r_nwF {c : Prop} [Decidable c] (hc : c) (h : B) : if (!decide c) = true then A else B := r_nw (fun n => (n hc).elim) fun _ => h

/-! loops -/
/-- while: W by a measure; the body is read for the next turn -/
theorem r_while {c : TT} (W : Nat → L2.St → Hp → Prop) (h0 : ∃ m, W m σ H)
    (hs : ∀ m σ H, W m σ H → c σ H fun b H1 => if b = true then ∃ N : L2.St → Hp → Prop, (∀ σ' H', N σ' H' → ∃ m', m' < m ∧ W m' σ' H') ∧ t1 { D with nx := N, ct := N, bk := D.nx } σ H1 else D.nx σ H1) : tWhile c t1 D σ H := ⟨W, h0, hs⟩
theorem r_next_turn {W : Nat → L2.St → Hp → Prop} {m : Nat} {P : (L2.St → Hp → Prop) → Prop} (h : P (fun σ' H' => ∃ m', m' < m ∧ W m' σ' H')) : ∃ N : L2.St → Hp → Prop, (∀ σ' H', N σ' H' → ∃ m', m' < m ∧ W m' σ' H') ∧ P N := ⟨_, fun _ _ h => h, h⟩
theorem r_rng1 {J : It → Hp → Prop} {n : Int} (h0 : -(2 ^ 62) ≤ n ∧ n < 2 ^ 62) (h : J (Itr 0 n.toNat) H) (ha : as σ H = fun QA => QA [.int n] H) : iRng1 as σ H J := by
  unfold iRng1
  rw [ha]
  exact ⟨n, rfl, h0.1, h0.2, h⟩
end

/-! ### defs by their names -/
/-- the module's name x holds a def that keeps sp; dvs: its defaults -/
structure Cal (P : Program) (w : World) (K : PySem.W.Frag) (mg : Str → Option Value) (base : Heap) (CX : CXT) (k : Nat) (x : Str) (dvs : List V) (sp : Sp) : Prop where
  ex : ∃ (f : Addr) (fd : FuncData) (ps : List Str) (ds : List Value), mg x = some (.ref f) ∧ PySem.W.keepIn K (.ref f) = true ∧ Binds K fd ps ds ∧ Vals dvs ds ∧ FnOk P w K mg base CX k f fd ps sp
/-- the class at C has a method m that keeps sp -/
structure CalM (P : Program) (w : World) (K : PySem.W.Frag) (mg : Str → Option Value) (base : Heap) (CX : CXT) (k : Nat) (C : Addr) (m : Str) (dvs : List V) (sp : Sp) : Prop where
  cl : Cls K C
  ex : ∃ (f : Addr) (fd : FuncData) (ps : List Str) (ds : List Value), Meth K C m f ∧ Binds K fd ps ds ∧ Vals dvs ds ∧ FnOk P w K mg base CX k f fd ps sp
/-- the name x holds the class at C, made by an __init__ that keeps sp -/
structure CalC (P : Program) (w : World) (K : PySem.W.Frag) (mg : Str → Option Value) (base : Heap) (CX : CXT) (k : Nat) (x : Str) (C : Addr) (dvs : List V) (sp : Sp) : Prop where
  ex : ∃ (f : Addr) (fd : FuncData) (ps : List Str) (ds : List Value), mg x = some (.ref C) ∧ Mk K C f ∧ Binds K fd ps ds ∧ Vals dvs ds ∧ FnOk P w K mg base CX k f fd ps sp
section
variable {X : Cx} {CX : CXT} {k j : Nat} {C : Addr} {sp : Sp} {dvs : List V} {E : XK} {x m : Str} {p pos apos : Pos} {e o : Expr} {es : List Expr} {ta : TE} {t : TA}
theorem pe_callF (c : Cal X.prog X.w X.K X.mg X.base CX j x dvs sp) (hr : Room k X.A) (hg : Gl X x) (hx : Passes CX X E) (ha : PA X (e :: es) t) (hk : j ≤ k := by decide)
    (hdb : (x == ("__debug__" : Str)) = false := by decide) (he : starEach (e :: es) X.env = (false, eval e X.env) :: starEach es X.env := by rfl) (hpl : (backTo pos (starEach es X.env)).any (·.1) = false := by rfl) :
    PE X (.Call (.Name x p) (e :: es) [] pos) (tCall sp dvs E t) := by
  obtain ⟨f, fd, ps, ds, h1, h2, h3, h4, h5⟩ := c.ex
  exact pe_call h5 (hr.mono hk) hg h1 h2 h3 h4 hx ha hdb he hpl
theorem pe_callF0 (c : Cal X.prog X.w X.K X.mg X.base CX j x dvs sp) (hr : Room k X.A) (hg : Gl X x) (hx : Passes CX X E) (hk : j ≤ k := by decide)
    (hdb : (x == ("__debug__" : Str)) = false := by decide) : PE X (.Call (.Name x p) [] [] pos) (tCall sp dvs E tNil) := by
  obtain ⟨f, fd, ps, ds, h1, h2, h3, h4, h5⟩ := c.ex
  exact pe_call0 h5 (hr.mono hk) hg h1 h2 h3 h4 hx hdb
theorem pe_methF {pl : Sem Bool} (he : PE X o ta) (c : CalM X.prog X.w X.K X.mg X.base CX j C m dvs sp) (hr : Room k X.A) (hx : Passes CX X E) (ha : PA X (e :: es) t) (hk : j ≤ k := by decide)
    (hst : starEach (e :: es) X.env = (false, eval e X.env) :: starEach es X.env := by rfl) (hpl : (backTo pos (starEach es X.env)).any (·.1) = false := by rfl)
    (ht : eval (.Call (.Attribute o m apos) (e :: es) [] pos) X.env = (do
      let ov ← eval o X.env
      standAt apos.atName
      let (f, first) ← holding [ov] (getMethod ov m pl)
      callWith pos f first (backTo pos (starEach (e :: es) X.env)) (backToKw pos (keywordEach [] X.env))) := by rfl) :
    PE X (.Call (.Attribute o m apos) (e :: es) [] pos) (tMeth C m sp dvs E ta t) := by
  obtain ⟨f, fd, ps, ds, h1, h3, h4, h5⟩ := c.ex
  exact pe_meth he c.cl h1 h5 (hr.mono hk) h3 h4 hx ha hst hpl ht
theorem pe_methF0 {pl : Sem Bool} (he : PE X o ta) (c : CalM X.prog X.w X.K X.mg X.base CX j C m dvs sp) (hr : Room k X.A) (hx : Passes CX X E) (hk : j ≤ k := by decide)
    (ht : eval (.Call (.Attribute o m apos) [] [] pos) X.env = (do
      let ov ← eval o X.env
      standAt apos.atName
      let (f, first) ← holding [ov] (getMethod ov m pl)
      callWith pos f first (backTo pos (starEach [] X.env)) (backToKw pos (keywordEach [] X.env))) := by rfl) :
    PE X (.Call (.Attribute o m apos) [] [] pos) (tMeth C m sp dvs E ta tNil) := by
  obtain ⟨f, fd, ps, ds, h1, h3, h4, h5⟩ := c.ex
  exact pe_meth0 he c.cl h1 h5 (hr.mono hk) h3 h4 hx ht
theorem pe_makeF (c : CalC X.prog X.w X.K X.mg X.base CX j x C dvs sp) (hr : Room k X.A) (hg : Gl X x) (hx : Passes CX X E) (ha : PA X (e :: es) t) (hk : j + 1 ≤ k := by decide)
    (hdb : (x == ("__debug__" : Str)) = false := by decide) (he : starEach (e :: es) X.env = (false, eval e X.env) :: starEach es X.env := by rfl) (hpl : (backTo pos (starEach es X.env)).any (·.1) = false := by rfl) :
    PE X (.Call (.Name x p) (e :: es) [] pos) (tMake C sp dvs E t) := by
  obtain ⟨f, fd, ps, ds, h1, h2, h3, h4, h5⟩ := c.ex
  exact pe_make h2 h5 (hr.mono hk) hg h1 h3 h4 hx ha hdb he hpl
theorem pe_makeF0 (c : CalC X.prog X.w X.K X.mg X.base CX j x C dvs sp) (hr : Room k X.A) (hg : Gl X x) (hx : Passes CX X E) (hk : j + 1 ≤ k := by decide)
    (hdb : (x == ("__debug__" : Str)) = false := by decide) : PE X (.Call (.Name x p) [] [] pos) (tMake C sp dvs E tNil) := by
  obtain ⟨f, fd, ps, ds, h1, h2, h3, h4, h5⟩ := c.ex
  exact pe_make0 h2 h5 (hr.mono hk) hg h1 h3 h4 hx hdb
end
/-- a walked thing in a for, in a comprehension -/
theorem r_for {wi : TI} {g : TG} {tb : TS} {D : Ends} {σ : L2.St} {H : Hp} (h : wi σ H fun J H1 => ∃ W : Nat → Nat → L2.St → Hp → Prop, (∃ m, W 0 m σ H1) ∧ ∀ i m σ H, W i m σ H →
  (J.stop i H ∧ D.nx σ H) ∨ (J.go i H ∧ ∃ N : L2.St → Hp → Prop, (∀ σ' H', N σ' H' → ∃ m', m' < m ∧ W (i + 1) m' σ' H') ∧ ∀ x H', J.yld i H x H' → g x σ H' fun σ2 H2 => tb { D with nx := N, ct := N, bk := D.nx } σ2 H2)) : tFor wi g tb D σ H := h
theorem r_lc {wi : TI} {g : TG} {tt : TT} {te : TE} {vs : List Nat} {σ : L2.St} {H : Hp} {Q : VK} (h : wi σ H fun J H1 => ∀ D, H1 D = none → ∃ W : Nat → Nat → Hp → Prop, (∃ m, W 0 m (upd H1 D (.lst []))) ∧ ∀ i m H, W i m H →
  (J.stop i H ∧ Q (.ref D) H) ∨ (J.go i H ∧ ∃ Nx : Hp → Prop, (∀ H', Nx H' → ∃ m', m' < m ∧ W (i + 1) m' H') ∧ ∀ x H', J.yld i H x H' → g x (wipe σ vs) H' fun σ2 H2 => wipe σ2 vs = wipe σ vs ∧ tt σ2 H2 fun b H3 =>
    if b = true then te σ2 H3 fun y H4 => ∃ acc, H4 D = some (.lst acc) ∧ acc.length < sizeLine ∧ Nx (upd H4 D (.lst (acc ++ [y]))) else Nx H3)) : tLc wi g tt te vs σ H Q := h
section
variable {K : PySem.W.Frag} {tl : TE} {as : TA} {σ : L2.St} {H : Hp} {R : It → Hp → Prop}
def kList (K : PySem.W.Frag) (R : It → Hp → Prop) : V → Hp → Prop := fun x H1 => ∃ a, x = .ref a ∧ (∃ xs, SqL K H1 a xs) ∧ R (Itl K a) H1
def kTupI (K : PySem.W.Frag) (R : It → Hp → Prop) : V → Hp → Prop := fun x H1 => ∃ a, x = .ref a ∧ (∃ xs, SqT K H1 a xs) ∧ R (Itt K a) H1
def kRng1 (R : It → Hp → Prop) : List V → Hp → Prop := fun vs H1 => ∃ j : Int, vs = [.int j] ∧ -(2 ^ 62) ≤ j ∧ j < 2 ^ 62 ∧ R (Itr 0 j.toNat) H1
def kRng2 (R : It → Hp → Prop) : List V → Hp → Prop := fun vs H1 => ∃ i j : Int, vs = [.int i, .int j] ∧ (-(2 ^ 62) ≤ i ∧ i < 2 ^ 62 ∧ -(2 ^ 62) ≤ j ∧ j < 2 ^ 62) ∧ R (Itr i (j - i).toNat) H1
def kRng3 (R : It → Hp → Prop) : List V → Hp → Prop := fun vs H1 => ∃ (i j c : Int) (n : Nat), vs = [.int i, .int j, .int c] ∧ RgC i j c n ∧ R (Itc i c n) H1
def kEnum (K : PySem.W.Frag) (R : It → Hp → Prop) : List V → Hp → Prop := fun vs H1 => ∃ a xs, vs = [.ref a] ∧ SqL K H1 a xs ∧ R (Ite K a) H1
def kZip (K : PySem.W.Frag) (R : It → Hp → Prop) : List V → Hp → Prop := fun vs H1 => ∃ a b xs ys, vs = [.ref a, .ref b] ∧ SqL K H1 a xs ∧ SqL K H1 b ys ∧ R (Itz K a b) H1
def kRev (K : PySem.W.Frag) (R : It → Hp → Prop) : List V → Hp → Prop := fun vs H1 => ∃ (a : Addr) (xs : List V), vs = [.ref a] ∧ SqL K H1 a xs ∧ R (Itv K a xs.length) H1
theorem r_iList (h : tl σ H (kList K R)) : iList K tl σ H R := h
theorem r_iTup (h : tl σ H (kTupI K R)) : iTup K tl σ H R := h
theorem r_iRng1 (h : as σ H (kRng1 R)) : iRng1 as σ H R := h
theorem r_iRng2 (h : as σ H (kRng2 R)) : iRng2 as σ H R := h
theorem r_iRng3 (h : as σ H (kRng3 R)) : iRng3 as σ H R := h
theorem r_iEnum (h : as σ H (kEnum K R)) : iEnum K as σ H R := h
theorem r_iZip (h : as σ H (kZip K R)) : iZip K as σ H R := h
theorem r_iRev (h : as σ H (kRev K R)) : iRev K as σ H R := h
theorem v_iList {a : Addr} {xs : List V} (h : SqL K H a xs) (k : R (Itl K a) H) : kList K R (.ref a) H := ⟨a, rfl, ⟨xs, h⟩, k⟩
theorem v_iTup {a : Addr} {xs : List V} (h : SqT K H a xs) (k : R (Itt K a) H) : kTupI K R (.ref a) H := ⟨a, rfl, ⟨xs, h⟩, k⟩
theorem v_rng1 {n : Int} (h0 : -(2 ^ 62) ≤ n ∧ n < 2 ^ 62) (k : R (Itr 0 n.toNat) H) : kRng1 R [.int n] H := ⟨n, rfl, h0.1, h0.2, k⟩
theorem v_rng2 {n m : Int} (h0 : -(2 ^ 62) ≤ n ∧ n < 2 ^ 62 ∧ -(2 ^ 62) ≤ m ∧ m < 2 ^ 62) (k : R (Itr n (m - n).toNat) H) : kRng2 R [.int n, .int m] H := ⟨n, m, rfl, h0, k⟩
theorem v_rng3 {i j c : Int} {n : Nat} (h0 : RgC i j c n) (k : R (Itc i c n) H) : kRng3 R [.int i, .int j, .int c] H := ⟨i, j, c, n, rfl, h0, k⟩
theorem v_enum {a : Addr} {xs : List V} (h : SqL K H a xs) (k : R (Ite K a) H) : kEnum K R [.ref a] H := ⟨a, xs, rfl, h, k⟩
theorem v_zip {a b : Addr} {xs ys : List V} (h : SqL K H a xs) (h2 : SqL K H b ys) (k : R (Itz K a b) H) : kZip K R [.ref a, .ref b] H := ⟨a, b, xs, ys, rfl, h, h2, k⟩
theorem v_rev1 {a : Addr} {xs : List V} (h : SqL K H a xs) (k : R (Itv K a xs.length) H) : kRev K R [.ref a] H := ⟨a, xs, rfl, h, k⟩
end
end SH


set_option Elab.async false
set_option linter.all false
set_option maxRecDepth 100000
set_option maxHeartbeats 4000000
/-! SHC: lengths, places, fields, constants -/
namespace SH
open PySem PySem.Spec PyProof.Rows L2

def Sq (K : PySem.W.Frag) (H : Hp) (a : Addr) (xs : List V) : Prop := SqL K H a xs ∨ SqT K H a xs
def aLen (K : PySem.W.Frag) : List V → Hp → VK → Prop := fun vs H Q => match vs with
  | [.ref p] => ∃ xs, Sq K H p xs ∧ Q (.int xs.length) H
  | [.str y] => y.length ≤ sizeLine ∧ Q (.int y.length) H
  | _ => False
def aIx (K : PySem.W.Frag) : R2 := fun x y H Q => match x, y with
  | .ref p, .int i => ∃ xs v, Sq K H p xs ∧ atI xs i = some v ∧ Q v H
  | .str z, .int i => ∃ c, z.length ≤ sizeLine ∧ atI z.cps.toList i = some c ∧ Q (.str ⟨#[c]⟩) H
  | _, _ => False
section
variable {X : Cx} {o e value : Expr} {f : Str} {pos tpos pos' : Pos} {ta tv : TE} {C : Addr}
theorem cLen : CallR X (.builtin "len") (aLen X.K) := by
  intro pins s σ H xs us Q I r h
  match xs, r, h with
  | [], _, h => exact False.elim h
  | [.ref p], r, h =>
    obtain ⟨ys, hq, q⟩ := h
    exact call_len pins s σ H _ us Q I r ⟨.ref p, ys.length, rfl, hq.elim (fun z => .inl ⟨ys, z, rfl⟩) fun z => .inr ⟨ys, z, rfl⟩, q⟩
  | [.str y], r, h => exact call_len pins s σ H _ us Q I r ⟨.str y, y.length, rfl, ⟨h.1, rfl⟩, h.2⟩
  | [.non], _, h => exact False.elim h
  | [.bl _], _, h => exact False.elim h
  | [.int _], _, h => exact False.elim h
  | [.byt _], _, h => exact False.elim h
  | [.flt _], _, h => exact False.elim h
  | [.ty _], _, h => exact False.elim h
  | _ :: _ :: _, _, h => revert h; intro h; simp [aLen] at h
theorem ixA : IxR X (aIx X.K) := by
  intro value slice pins s σ H x y v u Q I rx ry h hs
  cases x <;> cases y <;> first | exact False.elim h | skip
  · obtain ⟨c, h1, h2, q⟩ := h
    exact ix_str value slice pins s σ H _ _ v u Q I rx ry ⟨_, _, c, rfl, rfl, h1, h2, q⟩ hs
  · obtain ⟨xs, w, hq, h2, q⟩ := h
    rcases hq with hq | hq
    · exact ix_list value slice pins s σ H _ _ v u Q I rx ry ⟨_, xs, _, w, rfl, rfl, hq, h2, q⟩ hs
    · exact ix_tup value slice pins s σ H _ _ v u Q I rx ry ⟨_, xs, _, w, rfl, rfl, hq, h2, q⟩ hs
/-- e.f, the class known -/
def tFldF (C : Addr) (ta : TE) (f : Str) : TE := fun σ H Q => ta σ H fun x H1 => ∃ a dx fs v, x = .ref a ∧ H1 a = some (.ins C dx fs) ∧ fs.lookup f = some v ∧ Q v H1
theorem pe_fldF (cl : Cls X.K C) (na : NoAttr X.K C f) (he : PE X e ta) (hb : attributeBase e f X.env (eval e X.env) = eval e X.env := by rfl) : PE X (.Attribute e f pos) (tFldF C ta f) := by
  refine ⟨fun pins s σ H Q I h => ?_⟩
  refine attr_of hb (thn (he.run pins s σ H _ I h) fun u s1 ⟨x, H1, I1, rx, a, dx, fs, v, ex, ea, l, q⟩ => ?_)
  subst ex
  obtain rfl : u = Value.ref a := rx
  exact getattr_ok I1 ea cl na l fun u' s2 I2 ru => ⟨v, H1, I2, ru, q⟩
def sFldF (C : Addr) (ta tv : TE) (f : Str) : TS := fun D σ H => tv σ H fun y H1 => ta σ H1 fun x H2 => ∃ a dx fs, x = .ref a ∧ H2 a = some (.ins C dx fs) ∧ fs.length < 1000 ∧ D.nx σ (upd H2 a (.ins C dx (putF f y fs)))
theorem ps_fldF (cl : Cls X.K C) (na : NoAttr X.K C f) (ha : PE X o ta) (hv : PE X value tv) (hs : swapsWith value (some (.Attribute o f pos')) pos.line X.env = pure false) : PS X (.Assign [.Attribute o f pos'] value pos) (sFldF C ta tv f) := by
  refine ⟨fun pins s σ H D I h => ?_⟩
  refine plainObj_wpAny_Assign_Attribute (thn (hv.run pins s σ H _ I h) fun u s1 ⟨y, H1, I1, ry, q⟩ => thn (ha.run pins s1 σ H1 _ I1 q) fun ov s2 ⟨x, H2, I2, rx, a, dx, fs, ex, ea, l, q2⟩ => ?_) hs
  subst ex
  obtain rfl : ov = Value.ref a := rx
  exact setattr_ok I2 ea cl na l ry fun s3 I3 => ⟨σ, _, I3, q2⟩
def sFldAugF (C : Addr) (ta tv : TE) (rd : V → V → Hp → VK → Prop) (f : Str) : TS := fun D σ H => ta σ H fun x H1 => ∃ a dx fs v, x = .ref a ∧ H1 a = some (.ins C dx fs) ∧ fs.lookup f = some v ∧
  tv σ H1 fun y H2 => rd v y H2 fun z H3 => ∃ dx' fs', H3 a = some (.ins C dx' fs') ∧ fs'.length < 1000 ∧ D.nx σ (upd H3 a (.ins C dx' (putF f z fs')))
theorem ps_fldaugF {op : Operator} {rd : V → V → Hp → VK → Prop} (cl : Cls X.K C) (na : NoAttr X.K C f) (ha : PE X o ta) (hv : PE X value tv) (hop : InOp X op rd) : PS X (.AugAssign (.Attribute o f tpos) op value pos) (sFldAugF C ta tv rd f) := by
  refine ⟨fun pins s σ H D I h => ?_⟩
  refine wpAny_AugAssign_AttributeAny (thn (ha.run pins s σ H _ I h) fun ov s1 ⟨x, H1, I1, rx, a, dx, fs, v, ex, ea, l, q⟩ => ?_)
  subst ex
  obtain rfl : ov = Value.ref a := rx
  refine getattr_ok I1 ea cl na l fun u s2 I2 ru => thn (hv.run pins s2 σ H1 _ I2 q) fun w3 s3 ⟨y, H2, I3, ry, q3⟩ => thn (hop pins s3 σ H2 v y u w3 _ I3 ru ry q3) fun w4 s4 ⟨z, H3, I4, rz, dx', fs', ea', l', q4⟩ => ?_
  exact setattr_ok I4 ea' cl na l' rz fun s5 I5 => ⟨σ, _, I5, q4⟩
theorem in_add' : InOp X .Add aIpAdd := ip_add'
theorem in_sub' : InOp X .Sub aIpSub := ip_sub'
/-- a module's constant that is an int -/
theorem pe_k {x : Str} {v : V} (hm : ∃ u, X.mg x = some u ∧ RelV v u) (hg : Gl X x := by rfl) (hd : (x == ("__debug__" : Str)) = false := by decide) : PE X (.Name x pos) (tC v) := by
  obtain ⟨u, h1, h2⟩ := hm
  exact pe_glob hg h1 h2 hd
/-- xs[i], for xs[i] op= e -/
def aGetL (K : PySem.W.Frag) : V → V → Hp → VK → Prop := fun o i H Q => ∃ p xs k v, o = .ref p ∧ i = .int k ∧ H p = some (.lst xs) ∧ 0 ≤ k ∧ k < 2 ^ 63 ∧ xs[k.toNat]? = some v ∧ Q v H
theorem getL : PGet X (aGetL X.K) := by
  intro pins s σ H o i ov iv Q I ro ri h
  obtain ⟨p, xs, k, v, rfl, rfl, hp, h0, h1, hv, q⟩ := h
  cases ro
  obtain ⟨t, rfl⟩ := ri
  obtain ⟨its, r, pl, hz⟩ := I.list (SqL.of (K := X.K) hp)
  obtain ⟨w, ew, rw'⟩ := r.get hv
  exact wpAny_getItem_list pl.isList h0 h1 (by simpa using ew) ⟨v, H, I, rw', q⟩
end
section
variable {K : PySem.W.Frag} {H : Hp} {Q : VK} {x y v : V} {a p dx C : Addr} {fs : List (Str × V)} {f : Str} {xs : List V} {i : Int} {n : Nat} {ta tv : TE} {σ : L2.St} {D : Ends}
theorem v_lenL (h : SqL K H p xs) (k : Q (.int xs.length) H) : aLen K [.ref p] H Q := ⟨xs, .inl h, k⟩
theorem v_lenLm {α : Type} {f : α → V} {ns : List α} (h : SqL K H p (ns.map f)) (k : Q (.int ns.length) H) : aLen K [.ref p] H Q := ⟨_, .inl h, by rw [List.length_map]; exact k⟩
theorem v_lenTm {α : Type} {f : α → V} {ns : List α} (h : SqT K H p (ns.map f)) (k : Q (.int ns.length) H) : aLen K [.ref p] H Q := ⟨_, .inr h, by rw [List.length_map]; exact k⟩
theorem v_lenT (h : SqT K H p xs) (k : Q (.int xs.length) H) : aLen K [.ref p] H Q := ⟨xs, .inr h, k⟩
theorem v_ixL (h : SqL K H p xs) (ha : atI xs i = some v) (k : Q v H) : aIx K (.ref p) (.int i) H Q := ⟨xs, v, .inl h, ha, k⟩
theorem v_ixT (h : SqT K H p xs) (ha : atI xs i = some v) (k : Q v H) : aIx K (.ref p) (.int i) H Q := ⟨xs, v, .inr h, ha, k⟩
/-- at a place n -/
theorem v_ixLn (h : SqL K H p xs) (e : i = (n : Int)) (ha : xs[n]? = some v) (k : Q v H) : aIx K (.ref p) (.int i) H Q := ⟨xs, v, .inl h, by rw [e]; exact atI_nat ha, k⟩
theorem v_ixTn (h : SqT K H p xs) (e : i = (n : Int)) (ha : xs[n]? = some v) (k : Q v H) : aIx K (.ref p) (.int i) H Q := ⟨xs, v, .inr h, by rw [e]; exact atI_nat ha, k⟩
def kFld (C : Addr) (f : Str) (Q : VK) : VK := fun x H1 => ∃ a dx fs v, x = .ref a ∧ H1 a = some (.ins C dx fs) ∧ fs.lookup f = some v ∧ Q v H1
theorem r_fldF (h : ta σ H (kFld C f Q)) : tFldF C ta f σ H Q := h
theorem v_fld (h : H a = some (.ins C dx fs)) (l : fs.lookup f = some v) (k : Q v H) : kFld C f Q (.ref a) H := ⟨a, dx, fs, v, rfl, h, l, k⟩
def kSfld (C : Addr) (f : Str) (y : V) (R : Hp → Prop) : VK := fun x H2 => ∃ a dx fs, x = .ref a ∧ H2 a = some (.ins C dx fs) ∧ fs.length < 1000 ∧ R (upd H2 a (.ins C dx (putF f y fs)))
theorem r_sfldF (h : tv σ H fun y H1 => ta σ H1 (kSfld C f y (D.nx σ))) : sFldF C ta tv f D σ H := h
theorem v_sfld {fs' : List (Str × V)} {R : Hp → Prop} (h : H a = some (.ins C dx fs)) (l : fs.length < 1000) (e : putF f y fs = fs') (k : R (upd H a (.ins C dx fs'))) : kSfld C f y R (.ref a) H := ⟨a, dx, fs, rfl, h, l, by rw [e]; exact k⟩
def kAug1 (C : Addr) (f : Str) (R : V → Addr → Hp → Prop) : VK := fun x H1 => ∃ a dx fs v, x = .ref a ∧ H1 a = some (.ins C dx fs) ∧ fs.lookup f = some v ∧ R v a H1
def kAug2 (C : Addr) (f : Str) (a : Addr) (R : Hp → Prop) : VK := fun z H3 => ∃ dx' fs', H3 a = some (.ins C dx' fs') ∧ fs'.length < 1000 ∧ R (upd H3 a (.ins C dx' (putF f z fs')))
theorem r_sfldAugF {rd : V → V → Hp → VK → Prop} (h : ta σ H (kAug1 C f fun v a H1 => tv σ H1 fun y H2 => rd v y H2 (kAug2 C f a (D.nx σ)))) : sFldAugF C ta tv rd f D σ H := h
theorem v_aug1 {R : V → Addr → Hp → Prop} (h : H a = some (.ins C dx fs)) (l : fs.lookup f = some v) (k : R v a H) : kAug1 C f R (.ref a) H := ⟨a, dx, fs, v, rfl, h, l, k⟩
theorem v_aug2 {fs' : List (Str × V)} {R : Hp → Prop} (h : H a = some (.ins C dx fs)) (l : fs.length < 1000) (e : putF f y fs = fs') (k : R (upd H a (.ins C dx fs'))) : kAug2 C f a R y H := ⟨dx, fs, h, l, by rw [e]; exact k⟩
theorem v_getL (h : H p = some (.lst xs)) (e : i = (n : Int)) (hn : n < 1000000) (ha : xs[n]? = some v) (k : Q v H) : aGetL K (.ref p) (.int i) H Q := ⟨p, xs, i, v, rfl, rfl, h, by omega, by omega, by rw [e]; exact ha, k⟩
theorem ixN_n {m n : Nat} (h : n < m) : ixN m (n : Int) = some n := by
  unfold ixN
  rw [if_pos (by omega), if_pos (by omega)]
  simp
theorem v_setL {P : Hp → Prop} (h : H p = some (.lst xs)) (e : i = (n : Int)) (hn : n < xs.length) (k : P (upd H p (.lst (xs.set n v)))) : rSetL (.ref p) (.int i) v H P := ⟨p, xs, i, n, rfl, rfl, h, by rw [e]; exact ixN_n hn, k⟩
theorem v_append {P : Hp → Prop} (h : H p = some (.lst xs)) (hn : xs.length < 1000000) (k : P (upd H p (.lst (xs ++ [v])))) : tyV K "list" (.ref p) H ∧ rAppend (.ref p) [v] H (fun _ H' => P H') := ⟨.inl ⟨rfl, xs, SqL.of h⟩, p, xs, v, rfl, rfl, h, Nat.lt_trans hn (by decide), k⟩
theorem ty_list (h : H p = some (.lst xs)) : tyV K "list" (.ref p) H := .inl ⟨rfl, xs, SqL.of h⟩
theorem v_app (h : H p = some (.lst xs)) (hn : xs.length < 1000000) (k : Q .non (upd H p (.lst (xs ++ [v])))) : rAppend (.ref p) [v] H Q := ⟨p, xs, v, rfl, rfl, h, Nat.lt_trans hn (by decide), k⟩
theorem v_ext {b : Addr} {ys : List V} (h : H p = some (.lst xs)) (h2 : H b = some (.lst ys)) (hn : xs.length + ys.length ≤ 1000000) (k : Q .non (upd H p (.lst (xs ++ ys)))) : rExtend (.ref p) [.ref b] H Q := ⟨p, b, xs, ys, rfl, rfl, h, h2, Nat.le_trans hn (by decide), k⟩
theorem v_rev (h : H p = some (.lst xs)) (k : Q .non (upd H p (.lst xs.reverse))) : rReverse (.ref p) [] H Q := ⟨p, xs, rfl, rfl, h, k⟩
theorem v_clear (h : H p = some (.lst xs)) (k : Q .non (upd H p (.lst []))) : rClear (.ref p) [] H Q := ⟨p, xs, rfl, rfl, h, k⟩
theorem v_pop (h : H p = some (.lst xs)) (hv : xs[xs.length - 1]? = some v) (k : Q v (upd H p (.lst xs.dropLast))) : rPop (.ref p) [] H Q := ⟨p, xs, v, rfl, rfl, h, hv, k⟩
theorem v_slL {lo hi : Option Int} (h : SqL K H p xs) (k : ∀ q, H q = none → Q (.ref q) (upd H q (.lst (cutV xs lo hi)))) : rSlL K (.ref p) lo hi H Q := ⟨p, xs, rfl, h, k⟩
theorem v_listL (h : SqL K H p xs) (k : ∀ l, H l = none → Q (.ref l) (upd H l (.lst xs))) : ∃ p' ys, [V.ref p] = [.ref p'] ∧ (SqL K H p' ys ∨ SqT K H p' ys) ∧ ∀ l, H l = none → Q (.ref l) (upd H l (.lst ys)) := ⟨p, xs, rfl, .inl h, k⟩
theorem v_listT (h : SqT K H p xs) (k : ∀ l, H l = none → Q (.ref l) (upd H l (.lst xs))) : ∃ p' ys, [V.ref p] = [.ref p'] ∧ (SqL K H p' ys ∨ SqT K H p' ys) ∧ ∀ l, H l = none → Q (.ref l) (upd H l (.lst ys)) := ⟨p, xs, rfl, .inr h, k⟩
theorem v_sum {ns : List Int} (h : SqL K H p (ns.map V.int)) (k : Q (.int ns.sum) H) : rSum K [.ref p] H Q := ⟨p, ns, rfl, h, k⟩
theorem v_isi {c : V} {t u : Value} {b : Bool} (h1 : ClsV c u) (h2 : TyX K H x t) (h3 : PySem.W.kitOne K t u = some b) (k : Q (.bl b) H) : rIsi K [x, c] H Q := ⟨x, c, t, u, b, rfl, h1, h2, h3, k⟩
theorem v_max2 {n m : Int} (k : Q (.int (if m > n then m else n)) H) : ∃ i j, [V.int n, V.int m] = [.int i, .int j] ∧ Q (.int (if j > i then j else i)) H := ⟨n, m, rfl, k⟩
theorem v_min2 {n m : Int} (k : Q (.int (if m < n then m else n)) H) : ∃ i j, [V.int n, V.int m] = [.int i, .int j] ∧ Q (.int (if j < i then j else i)) H := ⟨n, m, rfl, k⟩
theorem v_bits {n : Int} (k : Q (.int (Builtin.Int.intBits n : Nat)) H) : ∃ i, V.int n = .int i ∧ Q (.int (Builtin.Int.intBits i : Nat)) H := ⟨n, rfl, k⟩
theorem r_bits (h : ta σ H fun x H1 => ∃ i, x = .int i ∧ Q (.int (Builtin.Int.intBits i : Nat)) H1) : tBits ta σ H Q := h
end

/-- 10 ** 60 -/
def big60 : Int := 10 ^ 60
theorem big60_pos : 0 < big60 := by unfold big60; decide
theorem big60_lt : big60 < 2 ^ 200 := by unfold big60; decide +kernel
section
variable {K : PySem.W.Frag} {H : Hp} {Q : VK} {x : V}
theorem v_pow60 (k : Q (.int big60) H) : aPow (.int 10) (.int 60) H Q := ⟨⟨by decide, by decide, by decide⟩, k⟩
theorem v_isiIT {n : Int} (k : Q (.bl true) H) : rIsi K [.int n, .ty "int"] H Q := ⟨.int n, .ty "int", .type "int", .type "int", true, rfl, .ty _, .base (.int n), by rfl, k⟩
theorem v_isiIB {n : Int} (k : Q (.bl false) H) : rIsi K [.int n, .ty "bool"] H Q := ⟨.int n, .ty "bool", .type "int", .type "bool", false, rfl, .ty _, .base (.int n), by rfl, k⟩
end
theorem map_at {α : Type} {f : α → V} {ns : List α} {i : Nat} {x : V} (h : (ns.map f)[i]? = some x) : ∃ n, ns[i]? = some n ∧ x = f n := by
  rw [List.getElem?_map] at h
  cases e : ns[i]? with
  | none => rw [e] at h; cases h
  | some n => rw [e] at h; exact ⟨n, rfl, (Option.some.inj h).symm⟩
/-- a cut of any list -/
def cutL {α : Type} (xs : List α) (lo hi : Option Int) : List α := (xs.drop (HT.sIx xs.length 0 lo)).take (HT.sIx xs.length xs.length hi - HT.sIx xs.length 0 lo)
theorem cut_map {α : Type} (f : α → V) (ns : List α) (lo hi : Option Int) : cutV (ns.map f) lo hi = (cutL ns lo hi).map f := by
  unfold cutV cutL
  rw [List.length_map, List.map_take, List.map_drop]
theorem cutL_mem {α : Type} {xs : List α} {lo hi : Option Int} {x : α} (h : x ∈ cutL xs lo hi) : x ∈ xs := List.mem_of_mem_drop (List.mem_of_mem_take h)
theorem cutL_len {α : Type} (xs : List α) (lo hi : Option Int) : (cutL xs lo hi).length ≤ xs.length := by
  unfold cutL
  rw [List.length_take, List.length_drop]
  omega
theorem cutL_upto {α : Type} (xs : List α) (k : Nat) : cutL xs none (some (k : Int)) = xs.take k := by
  unfold cutL
  rw [HT.sIx_none, HT.sIx_nat, List.drop_zero, Nat.sub_zero, List.take_eq_take_iff]
  omega
theorem cutL_from {α : Type} (xs : List α) (k : Nat) : cutL xs (some (k : Int)) none = xs.drop k := by
  unfold cutL
  rw [HT.sIx_none, HT.sIx_nat]
  by_cases h : k ≤ xs.length
  · rw [Nat.min_eq_left h, List.take_of_length_le (by rw [List.length_drop]; omega)]
  · have e1 : min k xs.length = xs.length := by omega
    rw [e1, List.drop_length, List.drop_of_length_le (by omega), List.take_nil]
theorem cutL_span {α : Type} (xs : List α) (i j : Nat) : cutL xs (some (i : Int)) (some (j : Int)) = (xs.drop i).take (j - i) := by
  unfold cutL
  rw [HT.sIx_nat, HT.sIx_nat]
  by_cases h : i ≤ xs.length
  · rw [Nat.min_eq_left h]
    by_cases h2 : j ≤ xs.length
    · rw [Nat.min_eq_left h2]
    · rw [Nat.min_eq_right (by omega), List.take_of_length_le (by rw [List.length_drop]; omega), List.take_of_length_le (by rw [List.length_drop]; omega)]
  · have e1 : min i xs.length = xs.length := by omega
    rw [e1, List.drop_length, List.drop_of_length_le (by omega), List.take_nil, List.take_nil]
/-- what a law is asked: the script's ints in, True out -/
def lawSp (K : PySem.W.Frag) : Sp := fun vs H Q _ => ∃ (a : Addr) (ns : List Int), vs = [.ref a] ∧ SqL K H a (ns.map V.int) ∧ ns.length ≤ 63 ∧ ∀ H', Q (.bl true) H'
end SH

set_option Elab.async false
set_option linter.all false
set_option maxRecDepth 100000
set_option maxHeartbeats 4000000
/-! SHD: functions that are made by a def and handed out -/
namespace SH
open PySem PySem.Spec PyProof.Rows L2 NdefX LamX

/-- the cell at c holds v -/
def cellO (c : Addr) (v : V) : HO := .ext fun h => ∃ u, L2.RelV v u ∧ h.IsCell c (some u)
theorem cellO_ok {P : Program} {w : World} {H : Hp} {h : Heap} {c : Addr} {v : V} {u : Value} (r : L2.RelV v u) (e : h.IsCell c (some u)) : ObjOk P w H h c (cellO c v) := by
  refine ⟨⟨u, r, e⟩, ?_, fun h1 h2 ⟨u', r', o, ho, hd⟩ st => ⟨u', r', o, st o ho, hd⟩⟩
  obtain ⟨o, ho, _⟩ := e
  exact ⟨o, ho⟩
theorem cellO_at {P : Program} {w : World} {H : Hp} {h : Heap} {c : Addr} {v : V} (hok : HOk P w H h) (e : H c = some (cellO c v)) : ∃ u, L2.RelV v u ∧ h.IsCell c (some u) := (hok c _ e).1
/-- at f stands a function of the text st, made in the def of the name before it; its captured names fr hold ws -/
structure Clo (H : Hp) (f : Addr) (st : Stmt) (name qual : Str) (fr : List Str) (ws : List V) (cl : List (Str × Addr)) (c' : Addr) : Prop where
  fn : H f = some (FnO f (NF.of st name qual cl c'))
  code : H c' = some (CodeO c' qual)
  len : ws.length = fr.length
  cells : ∀ y c, (y, c) ∈ cl → ∃ v, H c = some (cellO c v)
  inj : ∀ x y c, cl.lookup x = some c → cl.lookup y = some c → x = y
  has : ∀ (i : Nat) (y : Str), fr[i]? = some y → ∃ c v, cl.lookup y = some c ∧ ws[i]? = some v ∧ H c = some (cellO c v)
theorem Clo.step {M : List Addr} {H H' : Hp} {f : Addr} {st : Stmt} {name qual : Str} {fr : List Str} {ws : List V} {cl : List (Str × Addr)} {c' : Addr} (c : Clo H f st name qual fr ws cl c') (s : Stp M H H') : Clo H' f st name qual fr ws cl c' := by
  refine ⟨s.fix c.fn True.intro, s.fix c.code True.intro, c.len, fun y a e => ?_, c.inj, fun i y e => ?_⟩
  · obtain ⟨v, h⟩ := c.cells y a e
    exact ⟨v, s.fix h True.intro⟩
  · obtain ⟨a, v, h1, h2, h3⟩ := c.has i y e
    exact ⟨a, v, h1, h2, s.fix h3 True.intro⟩

/-- the cells of a list tracked too -/
def track (cl : List (Str × Addr)) (val : Addr → HO) (H : Hp) : Hp := fun b => match H b with
  | some o => some o
  | none => if b ∈ cl.map (·.2) then some (val b) else none
theorem track_some {cl : List (Str × Addr)} {val : Addr → HO} {H : Hp} {b : Addr} {o : HO} (h : H b = some o) : track cl val H b = some o := by
  unfold track; rw [h]
theorem track_cell {cl : List (Str × Addr)} {val : Addr → HO} {H : Hp} {b : Addr} (h : H b = none) (m : b ∈ cl.map (·.2)) : track cl val H b = some (val b) := by
  unfold track; rw [h]; exact if_pos m
theorem track_out {cl : List (Str × Addr)} {val : Addr → HO} {H : Hp} {b : Addr} (m : b ∉ cl.map (·.2)) : track cl val H b = H b := by
  unfold track
  cases h : H b with
  | some o => rfl
  | none => exact if_neg m
theorem track_none {cl : List (Str × Addr)} {val : Addr → HO} {H : Hp} {b : Addr} (h : track cl val H b = none) : H b = none ∧ b ∉ cl.map (·.2) := by
  unfold track at h
  cases e : H b with
  | some o => rw [e] at h; cases h
  | none =>
    rw [e] at h
    refine ⟨rfl, fun m => ?_⟩
    have h : (if b ∈ cl.map (·.2) then some (val b) else none) = none := h
    rw [if_pos m] at h
    cases h
theorem track_ok {P : Program} {w : World} {H : Hp} {h : Heap} {cl : List (Str × Addr)} {val : Addr → HO} (hok : HOk P w H h) (hv : ∀ b ∈ cl.map (·.2), H b = none → ObjOk P w (track cl val H) h b (val b)) : HOk P w (track cl val H) h := fun b o e => by
  cases q : H b with
  | some u =>
    rw [track_some q] at e
    cases e
    exact (hok b o q).stay (fun _ _ _ z => z) (fun c z => track_some z) fun c xs z => track_some z
  | none =>
    by_cases m : b ∈ cl.map (·.2)
    · rw [track_cell q m] at e
      cases e
      exact hv b m q
    · rw [track_out m, q] at e; cases e

/-- the body of a def that makes a function and hands it out has come to its end -/
def Made (X : Cx) (σ : L2.St) (H : Hp) (T : List NTab) (i : Nat) (st : Stmt) (nm : Str) : Flow → Shared → Prop := fun fl s' => ∃ f' c' H1, Inv X [] (σ.set i (some (.ref f'))) H1 s' ∧ fl = .ret (.ref f') ∧ ExtN H H1 ∧ (∀ b, H1 b = Option.none → H b = Option.none) ∧ TabsN T H1 ∧ H f' = none ∧
  H1 f' = some (FnO f' (NF.of st nm (X.env.qual ++ nm) (cloFrom X.env.cells (C8.fnScope st).names []) c')) ∧ H1 c' = some (CodeO c' (X.env.qual ++ nm))
theorem mk_body {X : Cx} {σ : L2.St} {H : Hp} {s : Shared} {c P' : Addr} {nm : Str} {pos pos2 pos3 : Pos} {T : List NTab} {nmf : Nat → Nat → Str} {i : Nat} {st : Stmt} (I : Inv X [] σ H s)
    (hst : st = .FunctionDef nm (C8.fnArgs st) (C8.fnBody st) [] none [] (C8.fnScope st) none nm pos)
    (TB : TabB X.base X.mg c P') (hcode : X.env.code = .ref c) (hm : (P', nmf) ∈ T) (hn : nmf pos.line pos.col = X.env.qual ++ nm) (hu : ∀ p ∈ T, p.1 = P' → p.2 = nmf)
    (hfree : ∀ y ∈ (C8.fnScope st).names, y.2 = .free → X.env.scope.names.lookup y.1 = some .cell)
    (hd0 : (C8.fnArgs st).defaults = []) (hk0 : (C8.fnArgs st).kw_defaults = []) (ha : annTrees (C8.fnArgs st) none X.env = []) (hN : X.N.Nodup) (hf : X.fn nm = true ∨ X.env.scope.names.lookup nm = some .local)
    (hi : X.N[i]? = some nm) (hx : X.env.scope.names.lookup nm = some .local) (hdb : (nm == ("__debug__" : Str)) = false) (hcb : (nm == ("__classdict__" : Str)) = false) (hT : TabsN T H) :
    wpAny (model X.prog X.w) X.A (execs [st, .Return (some (.Name nm pos3)) pos2] X.env) (Made X σ H T i st nm) X.xe s := by
  have first := ps_ndefMS (X := X) (i := i) (T := T) (nm := nmf) (P := P') (c := c) hst TB hcode hm hn hu (fun y hy e => .inl (hfree y hy e)) hd0 hk0 ha hN hi (.inl hx) hf
  refine wpAny_execs_cons (thn (first.run [] s σ H ⟨fun σ1 H1 => ∃ f' c', σ1 = σ.set i (some (.ref f')) ∧ ExtN H H1 ∧ (∀ b, H1 b = Option.none → H b = Option.none) ∧ TabsN T H1 ∧ H f' = none ∧
      H1 f' = some (FnO f' (NF.of st nm (X.env.qual ++ nm) (cloFrom X.env.cells (C8.fnScope st).names []) c')) ∧ H1 c' = some (CodeO c' (X.env.qual ++ nm)), fun _ _ => False, fun _ _ => False, fun _ _ => False⟩ I
        ⟨hT, fun f' c' H1 e n t z e1 e2 => ⟨f', c', rfl, e, n, t, z, e1, e2⟩⟩) fun fl s2 q => ?_)
  cases fl with
  | next =>
    obtain ⟨σ1, H1, I1, f', c', rfl, e1, e2, e3, e4, e5, e6⟩ := q
    have hv : (σ.set i (some (V.ref f')))[i]? = some (some (.ref f')) := by
      have hlt : i < X.N.length := (List.getElem?_eq_some_iff.mp hi).1
      rw [List.getElem?_set_self (by rw [I.len]; exact hlt)]
    refine wpAny_execs_cons (wpAny_Return_some (pos := pos2) (thn ((pe_var (X := X) (pos := pos3) hi (.inl hx) hdb hcb).run [] s2 _ H1 (fun v H2 => v = .ref f' ∧ H2 = H1) I1 ⟨.ref f', hv, rfl, rfl⟩) fun u s3 q3 => ?_))
    obtain ⟨v, H2, I2, r2, ev, eH⟩ := q3
    subst ev
    subst eH
    obtain rfl : u = Value.ref f' := r2
    exact ⟨f', c', _, I2, rfl, e1, e2, e3, e4, e5, e6⟩
  | ret v => obtain ⟨_, _, _, _, _, z⟩ := q; exact z.elim
  | brk => obtain ⟨_, _, _, z⟩ := q; exact z.elim
  | cont => obtain ⟨_, _, _, z⟩ := q; exact z.elim
section
variable {P : Program} {w : World} {K : PySem.W.Frag} {mg : Str → Option Value} {base : Heap} {CX : CXT}

/-- a def that makes a function of its parameters and hands it out -/
theorem maker {k : Nat} {f c P' : Addr} {name qual nm : Str} {params : Arguments} {body : List Stmt} {scope : Scope} {dV kV doc pm ct oc : Value} {an od : Option Addr} {pos pos2 pos3 : Pos}
    {osl : Array (Option Value)} {N ps fr : List Str} {sp : Sp} {T : List NTab} {nmf : Nat → Nat → Str} {i : Nat} {st : Stmt} {ix : List Nat} (lk : K.lookup f = some ⟨oc, od, .func (PySem.W.fnOf name qual params body scope dV kV doc pm an (.ref c) ct), osl⟩) (hcd : PySem.W.codeIn K (.ref c) qual = true) (S : FnScope N ps scope)
    (hst : st = .FunctionDef nm (C8.fnArgs st) (C8.fnBody st) [] none [] (C8.fnScope st) none nm pos)
    (hbody : body = [st, .Return (some (.Name nm pos3)) pos2])
    (TB : TabB base mg c P') (hm : (P', nmf) ∈ T) (hn : nmf pos.line pos.col = (qual ++ ".<locals>.") ++ nm) (hu : ∀ p ∈ T, p.1 = P' → p.2 = nmf) (hq : ∀ n g, (envOfC qual scope n g (.ref c)).qual = qual ++ ".<locals>.")
    (hfree : ∀ y ∈ (C8.fnScope st).names, y.2 = .free → scope.names.lookup y.1 = some .cell) (hfr : ∀ y ∈ fr, (y, NameKind.free) ∈ (C8.fnScope st).names) (hfr2 : ∀ y ∈ (C8.fnScope st).names, y.2 = .free → y.1 ∈ fr)
    (hd0 : (C8.fnArgs st).defaults = []) (hk0 : (C8.fnArgs st).kw_defaults = []) (ha : ∀ env, annTrees (C8.fnArgs st) none env = [])
    (hi : N[i]? = some nm) (hx : scope.names.lookup nm = some .local) (hip : ps.length ≤ i) (hdb : (nm == ("__debug__" : Str)) = false) (hcb : (nm == ("__classdict__" : Str)) = false)
    (hix : ix.map (fun j => ps[j]?) = fr.map some)
    (len : ∀ vs H Q E, sp vs H Q E → vs.length = ps.length)
    (hsp : ∀ vs H Q E, sp vs H Q E → TabsN T H ∧ ∀ (f' : Addr) (H' : Hp) (cl : List (Str × Addr)) (c' : Addr), ExtN H H' → (∀ b, H' b = Option.none → H b = Option.none) → TabsN T H' → H f' = none → Clo H' f' st nm ((qual ++ ".<locals>.") ++ nm) fr (ix.map fun j => vs.getD j .non) cl c' → Q (.ref f') H') :
    FnOk P w K mg base CX (k + 1) f (PySem.W.fnOf name qual params body scope dV kV doc pm an (.ref c) ct) ps sp := by
  refine ⟨len, fun A outer s H args us vs Q E hr e0 hb r hs => ?_⟩
  have hl := len _ _ _ _ hs
  have KX : K.In s.heap := e0.mod.kin.keeps fun b o e => (e0.bs b o e).1
  have lim : s.heap.NoLimit := e0.mod.nolimit.keeps fun b o e => (e0.bs b o e).1
  have hkind : ∀ y ∈ ps.zip us, scope.names.lookup y.1 = some .local ∨ (scope.names.lookup y.1 = some .cell ∧ ((cellsFrom (s.heap.objs.size + 1) scope.names []).lookup y.1).isSome = true) := fun ⟨n, v⟩ hy => by
    rcases S.par n (List.of_mem_zip hy).1 with q | q
    · exact .inl q
    · exact .inr ⟨q, PySem.W.cellsFrom_some _ _ _ (.inl q)⟩
  refine codeAny_call_function hr.depth (KX _ _ lk) rfl S.co S.gen rfl (PySem.W.codeRec_of KX hcd) (hb _ _ _ _ ?_)
  refine wpAny_newFunctionEnv_cells S.kind hkind fun env he s1 x => ?_
  subst he
  refine ⟨lim.keeps x.toInCall.keep, codeAny_func ?_⟩
  obtain ⟨hT, hend⟩ := hsp vs H Q E hs
  have I : Inv (cxOf CX P w K mg base N qual scope f (.ref c) A outer s H E) [] (L2.start N vs) H s1 := inv_start S hr.hd e0 hl r x
  have X0 : (cxOf CX P w K mg base N qual scope f (.ref c) A outer s H E).env.qual = qual ++ ".<locals>." := hq _ _
  have B := mk_body (X := cxOf CX P w K mg base N qual scope f (.ref c) A outer s H E) (pos2 := pos2) (pos3 := pos3) I hst TB rfl hm (by rw [X0]; exact hn) hu hfree hd0 hk0 (ha _) S.nd (.inl rfl) hi hx hdb hcb hT
  rw [← hbody] at B
  refine wpAny_mono B (fun fl s' hs => ?_) fun e s' hs => hs
  obtain ⟨f', c', H1, J, rfl, e1, e2, e3, e4, e5, e6⟩ := hs
  rw [X0] at e5 e6
  generalize hcl : cloFrom (cxOf CX P w K mg base N qual scope f (.ref c) A outer s H E).env.cells (C8.fnScope st).names [] = cl at e5
  have hcells : ∀ y ∈ (C8.fnScope st).names, y.2 = .free → ∃ a, (cxOf CX P w K mg base N qual scope f (.ref c) A outer s H E).env.cells.lookup y.1 = some a := fun y hy e => J.ok.has _ (.inl (hfree y hy e))
  have clm : ∀ y a, cl.lookup y = some a → (cxOf CX P w K mg base N qual scope f (.ref c) A outer s H E).env.cells.lookup y = some a := fun y a e => clo_cm hcells (by rw [hcl]; exact e)
  have clf : ∀ y a, (y, a) ∈ cl → y ∈ fr ∧ cl.lookup y = some a := fun y a m => by
    rw [← hcl] at m
    rcases cloFrom_mem m with z | ⟨z1, z2⟩
    · cases z
    · obtain ⟨a1, h1⟩ := hcells _ z1 rfl
      have h1 : (cxOf CX P w K mg base N qual scope f (.ref c) A outer s H E).env.cells.lookup y = some a1 := h1
      have h2 := clo_has hcells z1 h1
      rw [hcl] at h2
      have e : a = a1 := by rw [z2, h1]; rfl
      rw [e]
      exact ⟨hfr2 _ z1 rfl, h2⟩
  -- what each captured name holds
  have val : ∀ y ∈ fr, ∃ a v u, cl.lookup y = some a ∧ L2.RelV v u ∧ s'.heap.IsCell a (some u) ∧ ∀ m : Nat, fr[m]? = some y → (ix.map fun j => vs.getD j .non)[m]? = some v := by
    intro y hy
    obtain ⟨m, hm'⟩ := List.mem_iff_getElem?.mp hy
    have q : (ix.map fun j => ps[j]?)[m]? = some (some y) := by rw [hix, List.getElem?_map, hm']; rfl
    rw [List.getElem?_map] at q
    cases ej : ix[m]? with
    | none => rw [ej] at q; cases q
    | some j =>
      rw [ej] at q
      have hj : ps[j]? = some y := Option.some.inj q
      have hjl : j < ps.length := (List.getElem?_eq_some_iff.mp hj).1
      have hNj : N[j]? = some y := by
        rw [← hj, ← S.pre, List.getElem?_take_of_lt hjl]
      obtain ⟨v, hv⟩ : ∃ v, vs[j]? = some v := ⟨vs[j]'(by omega), by simp [show j < vs.length by omega]⟩
      have hs : ((L2.start N vs).set i (some (V.ref f')))[j]? = some (some v) := by
        rw [List.getElem?_set_ne (by omega)]
        unfold L2.start
        rw [List.getElem?_append_left (by rw [List.length_map]; omega), List.getElem?_map, hv] <;> rfl
      have kc : scope.names.lookup y = some .cell := hfree _ (hfr y hy) rfl
      obtain ⟨mm, hn2, hl2⟩ := J.loc
      obtain ⟨u, ru, lk2⟩ := hl2 j y v hNj hs (.inr (.inl kc))
      rcases lk2 with ⟨z, _⟩ | ⟨_, a, ha2, hcell⟩
      · have z' : scope.names.lookup y = some .local := z
        rw [kc] at z'; cases z'
      · have h2 := clo_has hcells (hfr y hy) ha2
        rw [hcl] at h2
        refine ⟨a, v, u, h2, ru, hcell, fun m' hm2 => ?_⟩
        -- any place of y
        have q2 : (ix.map fun j => ps[j]?)[m']? = some (some y) := by rw [hix, List.getElem?_map, hm2]; rfl
        rw [List.getElem?_map] at q2
        cases ej2 : ix[m']? with
        | none => rw [ej2] at q2; cases q2
        | some j2 =>
          rw [ej2] at q2
          have hj2 : ps[j2]? = some y := Option.some.inj q2
          have ndP : ps.Nodup := by rw [← S.pre]; exact S.nd.sublist (List.take_sublist _ _)
          have : j2 = j := L2.nodup_ix ndP hj2 hj
          subst this
          rw [List.getElem?_map, ej2]
          show some (vs.getD j2 .non) = some v
          rw [List.getD_eq_getElem?_getD, hv] <;> rfl
  let pick : Addr → HO := fun a => cellO a (match cl.find? (fun p => p.2 == a) with | some p => (match fr.findIdx? (fun z => z == p.1) with | some m => (ix.map fun j => vs.getD j .non).getD m .non | none => .non) | none => .non)
  have pick_of : ∀ y a, cl.lookup y = some a → ∀ v, (∀ m : Nat, fr[m]? = some y → (ix.map fun j => vs.getD j .non)[m]? = some v) → y ∈ fr → pick a = cellO a v := by
    intro y a hya v hv hy
    show cellO a _ = cellO a v
    have hmem : (y, a) ∈ cl := PySem.mem_of_lookup hya
    cases ef : cl.find? (fun p => p.2 == a) with
    | none =>
      have := List.find?_eq_none.mp ef (y, a) hmem
      simp at this
    | some p =>
      have hp1 := List.find?_some ef
      have hp2 := List.mem_of_find?_eq_some ef
      have e1 : p.2 = a := by simpa using hp1
      obtain ⟨hpf, hpl⟩ := clf p.1 p.2 hp2
      rw [e1] at hpl
      have ey : p.1 = y := J.ok.inj _ _ _ (clm _ _ hpl) (clm _ _ hya)
      show cellO a (match fr.findIdx? (fun z => z == p.1) with | some m => (ix.map fun j => vs.getD j .non).getD m .non | none => .non) = cellO a v
      rw [ey]
      cases ei : fr.findIdx? (fun z => z == y) with
      | none =>
        have := List.findIdx?_eq_none_iff.mp ei y hy
        simp at this
      | some m =>
        obtain ⟨hm1, hm2, _⟩ := List.findIdx?_eq_some_iff_getElem.mp ei
        have e2 : fr[m] = y := by simpa using hm2
        have := hv m (by rw [List.getElem?_eq_getElem hm1, e2])
        show cellO a ((ix.map fun j => vs.getD j .non).getD m .non) = cellO a v
        rw [List.getD_eq_getElem?_getD, this] <;> rfl
  have offc : ∀ a, a ∈ cl.map (·.2) → H1 a = none ∧ s.heap.objs.size ≤ a := fun a m => by
    obtain ⟨p, hp, rfl⟩ := List.mem_map.mp m
    obtain ⟨_, h2⟩ := clf p.1 p.2 hp
    exact ⟨J.freeC _ _ (clm _ _ h2), J.ok.cab _ _ rfl (clm _ _ h2)⟩
  have hok2 : HOk P w (track cl pick H1) s'.heap := track_ok J.hok fun a m _ => by
    obtain ⟨p, hp, rfl⟩ := List.mem_map.mp m
    obtain ⟨hy, h2⟩ := clf p.1 p.2 hp
    obtain ⟨a', v, u, h3, h4, h5, h6⟩ := val p.1 hy
    rw [h2] at h3
    cases h3
    rw [pick_of _ _ h2 v h6 hy]
    exact cellO_ok h4 h5
  have un2 : Un (frs outer) [] H (track cl pick H1) s.heap s'.heap := by
    have u := J.base
    refine ⟨u.keep, u.slot, fun b o q n hb => ?_, u.there, fun b xs q => track_some (u.tups b xs q), fun b o xs q => track_some (u.frzs b o xs q), fun b xs q => ?_⟩
    · rw [track_out fun m => absurd (Heap.lt_size q) (Nat.not_lt.mpr (offc b m).2)]
      exact u.free b o q n hb
    · obtain ⟨more, h2⟩ := u.tbls b xs q
      exact ⟨more, track_some h2⟩
  refine ⟨.ref f', track cl pick H1, J.os, J.bare, un2, hok2, rfl, hend f' _ cl c' (fun b o q n => track_some (e1 b o q n)) (fun b q => e2 b (track_none q).1) (e3.ext fun b o q => track_some q) e4 ?_⟩
  refine ⟨track_some e5, track_some e6, ?_, fun y a e => ?_, fun x y a h1 h2 => J.ok.inj _ _ _ (clm _ _ h1) (clm _ _ h2), fun m y e => ?_⟩
  · have := congrArg List.length hix
    rw [List.length_map, List.length_map] at this
    rw [List.length_map]; exact this
  · have m : a ∈ cl.map (·.2) := List.mem_map.mpr ⟨(y, a), e, rfl⟩
    exact ⟨_, track_cell (offc a m).1 m⟩
  · have hy := List.mem_of_getElem? e
    obtain ⟨a, v, u, h3, h4, h5, h6⟩ := val y hy
    have m' : a ∈ cl.map (·.2) := List.mem_map.mpr ⟨(y, a), PySem.mem_of_lookup h3, rfl⟩
    refine ⟨a, v, h3, h6 m e, ?_⟩
    rw [track_cell (offc a m').1 m', pick_of _ _ h3 v h6 hy]

/-! ### such a function called -/
def untrack (cl : List (Str × Addr)) (H : Hp) : Hp := fun b => if b ∈ cl.map (·.2) then none else H b
def retrack (cl : List (Str × Addr)) (H H' : Hp) : Hp := fun b => match H' b with
  | some o => some o
  | none => if b ∈ cl.map (·.2) then H b else none
theorem retrack_some {cl : List (Str × Addr)} {H H' : Hp} {b : Addr} {o : HO} (h : H' b = some o) : retrack cl H H' b = some o := by unfold retrack; rw [h]
theorem retrack_cell {cl : List (Str × Addr)} {H H' : Hp} {b : Addr} (h : H' b = none) (m : b ∈ cl.map (·.2)) : retrack cl H H' b = H b := by unfold retrack; rw [h]; exact if_pos m
theorem retrack_out {cl : List (Str × Addr)} {H H' : Hp} {b : Addr} (m : b ∉ cl.map (·.2)) : retrack cl H H' b = H' b := by
  unfold retrack
  cases h : H' b with
  | some o => rfl
  | none => exact if_neg m
theorem untrack_out {cl : List (Str × Addr)} {H : Hp} {b : Addr} (m : b ∉ cl.map (·.2)) : untrack cl H b = H b := if_neg m
theorem untrack_in {cl : List (Str × Addr)} {H : Hp} {b : Addr} (m : b ∈ cl.map (·.2)) : untrack cl H b = none := if_pos m
theorem untrack_some {cl : List (Str × Addr)} {H : Hp} {b : Addr} {o : HO} (h : untrack cl H b = some o) : b ∉ cl.map (·.2) ∧ H b = some o := by
  unfold untrack at h
  by_cases m : b ∈ cl.map (·.2)
  · rw [if_pos m] at h; cases h
  · rw [if_neg m] at h; exact ⟨m, h⟩
/-- no function, no cell -/
def Low : HO → Prop
  | .ext _ => False
  | _ => True
/-- what such a function promises; fin hands its end back to the caller's heap -/
structure COk (P : Program) (w : World) (K : PySem.W.Frag) (mg : Str → Option Value) (base : Heap) (CX : CXT) (k : Nat) (st : Stmt) (nm qual : Str) (ps fr : List Str) (sp : List V → Sp) : Prop where
  len : ∀ ws vs H Q E, sp ws vs H Q E → vs.length = ps.length
  run : ∀ (A : Around) (outer : List Env) (s : Shared) (H : Hp) (us : List Value) (vs : List V) (f : Addr) (cl : List (Str × Addr)) (c' : Addr) (ws : List V) (Q : VK) (E : XK), Room k A → Env0 P w K mg base A outer s H → Clo H f st nm qual fr ws cl c' → Vals vs us → sp ws vs H Q E →
    codeAny (model P w) A (.call (.ref f) ⟨us, []⟩) (CR CX0 outer P w H s Q E) s
theorem clo_mem {H : Hp} {f : Addr} {st : Stmt} {nm qual : Str} {fr : List Str} {ws : List V} {cl : List (Str × Addr)} {c' : Addr} (C : Clo H f st nm qual fr ws cl c') {b : Addr} (m : b ∈ cl.map (·.2)) : ∃ v, H b = some (cellO b v) := by
  obtain ⟨p, hp, rfl⟩ := List.mem_map.mp m
  exact C.cells p.1 p.2 hp
theorem cok_of {k : Nat} {st : Stmt} {nm qual : Str} {N ps fr : List Str} {sp : List V → Sp} (S : NScope N ps fr (C8.fnScope st))
    (hb : ∀ (cl : List (Str × Addr)) (c' : Addr) (doc pm ctv : Value) (us : List Value), us.length = ps.length → bindArgs ((NF.of st nm qual cl c').fd doc pm ctv) ⟨us, []⟩ = pure (ps.zip us)) (len : ∀ ws vs H Q E, sp ws vs H Q E → vs.length = ps.length)
    (hbody : ∀ (A : Around) (outer : List Env) (s : Shared) (f : Addr) (cl : List (Str × Addr)) (c' : Addr) (H H0 : Hp) (vs : List V) (ws : List V) (Q Q0 : VK) (E : XK), Room k (A.deeper (envF (NF.of st nm qual cl c') f s.heap.objs.size)) → sp ws vs H Q E → ws.length = fr.length →
      (∀ b o, H b = some o → Low o → H0 b = some o) → (∀ (v : V) (M : List Addr) (H2 : Hp), Stp M H0 H2 → (∀ H', Stp M H H' → (∀ b o, H2 b = some o → H' b = some o) → Q v H') → Q0 v H2) →
      ∃ t, PSs (ncx CX0 P w K mg base N (NF.of st nm qual cl c') f A outer s H0 E) (C8.fnBody st) t ∧ t { nx := fun _ H' => Q0 .non H', rt := Q0 } (startF N vs (ws.map some)) H0) :
    COk P w K mg base CX (k + 1) st nm qual ps fr sp := by
  refine ⟨len, fun A outer s H us vs f cl c' ws Q E hr e0 C r hsp => ?_⟩
  have cellN : ∀ b, b ∈ cl.map (·.2) → ∃ v, H b = some (cellO b v) := fun b m => clo_mem C m
  have lo : ∀ b o, H b = some o → (∀ v, o ≠ cellO b v) → untrack cl H b = some o := fun b o e n => by
    rw [untrack_out fun m => ?_]
    · exact e
    · obtain ⟨v, hv⟩ := cellN b m
      rw [e] at hv
      exact n v (Option.some.inj hv)
  have nf : untrack cl H f = some (FnO f (NF.of st nm qual cl c')) := by
    have ho := fnO_at e0.hok C.fn
    rw [untrack_out fun m => ?_]
    · exact C.fn
    · obtain ⟨v, hv⟩ := cellN f m
      obtain ⟨u, _, o, h1, h2⟩ := cellO_at e0.hok hv
      obtain ⟨od, sl, doc, pm, ctv, h3⟩ := ho
      rw [h1] at h3
      cases h3
      cases h2
  have nc : untrack cl H c' = some (CodeO c' qual) := by
    have ho := codeO_at e0.hok C.code
    rw [untrack_out fun m => ?_]
    · exact C.code
    · obtain ⟨v, hv⟩ := cellN c' m
      obtain ⟨u, _, o, h1, h2⟩ := cellO_at e0.hok hv
      obtain ⟨c2, oc, vs2, t, e1, h3, h4, _⟩ := ho
      cases e1
      rw [h1] at h3
      cases h3
      rw [h2] at h4
      cases h4
  have hok0 : HOk P w (untrack cl H) s.heap := fun b o e => by
    obtain ⟨m, e⟩ := untrack_some e
    refine (e0.hok b o e).stay (fun _ _ _ z => z) (fun d z => lo d _ z fun v q => ?_) fun d xs z => lo d _ z fun v q => ?_
    · cases q
    · cases q
  have env0 : Env0 P w K mg base A outer s (untrack cl H) := ⟨e0.frames, e0.mod, fun b o e => ⟨(e0.bs b o e).1, by
      unfold untrack
      split
      · rfl
      · exact (e0.bs b o e).2⟩, e0.bsz, e0.funs, fun b hb => by
      unfold untrack
      split
      · rfl
      · exact e0.frf b hb, hok0, e0.bare⟩
  have cells : CellsAt cl fr (ws.map some) s.heap (untrack cl H) := by
    refine ⟨by rw [List.length_map]; exact C.len, fun y a e => ?_, C.inj, fun i y e => ?_⟩
    · have m : a ∈ cl.map (·.2) := List.mem_map.mpr ⟨(y, a), PySem.mem_of_lookup e, rfl⟩
      obtain ⟨v, hv⟩ := cellN a m
      obtain ⟨u, _, z⟩ := cellO_at e0.hok hv
      exact ⟨untrack_in m, _, z⟩
    · obtain ⟨a, v, h1, h2, h3⟩ := C.has i y e
      refine ⟨a, h1, fun v' e' => ?_⟩
      rw [List.getElem?_map, h2] at e'
      cases e'
      exact cellO_at e0.hok h3
  let Q0 : VK := fun v H2 => (∀ b ∈ cl.map (·.2), H2 b = none) → Q v (retrack cl H H2)
  have nok : NOk P w K mg base CX0 (k + 1) f (NF.of st nm qual cl c') ps fr (fun ws' vs' H' Q' E' => ws' = ws.map some ∧ vs' = vs ∧ H' = untrack cl H ∧ Q' = Q0 ∧ E' = E) := by
    refine nok_of S (hb cl c') (fun _ _ _ _ _ h => by obtain ⟨_, rfl, _⟩ := h; exact len _ _ _ _ _ hsp) fun A1 outer1 s1 H1 vs1 ws1 Q1 E1 hr1 hf hc hl h => ?_
    obtain ⟨rfl, rfl, rfl, rfl, rfl⟩ := h
    refine hbody A1 outer1 s1 f cl c' H _ vs1 ws Q Q0 E1 hr1 hsp C.len (fun b o e n => lo b o e fun v q => ?_) fun v M H2 st2 hq hc2 => ?_
    · subst q; exact n
    · refine hq _ ⟨fun b o e n => ?_, fun b e => ?_⟩ fun b o e => retrack_some e
      · by_cases m : b ∈ cl.map (·.2)
        · rw [retrack_cell (hc2 b m) m]; exact e
        · exact retrack_some (st2.same b o (by rw [untrack_out m]; exact e) n)
      · by_cases m : b ∈ cl.map (·.2)
        · rw [retrack_cell (hc2 b m) m] at e; exact e
        · rw [retrack_out m] at e
          have := st2.dom b e
          rw [untrack_out m] at this
          exact this
  refine codeAny_mono (nok.run A outer s _ us vs _ Q0 E hr env0 nf nc cells r ⟨rfl, rfl, rfl, rfl, rfl⟩) fun rr s' hq => ?_
  cases rr with
  | error e => exact hq
  | ok fl =>
    cases fl with
    | next => exact hq
    | brk => exact hq
    | cont => exact hq
    | ret u =>
      obtain ⟨v, H2, os, bare, un, hok2, rv, q⟩ := hq
      have cellAt : ∀ b, b ∈ cl.map (·.2) → ∃ v u o, H b = some (cellO b v) ∧ L2.RelV v u ∧ s.heap.get? b = some o ∧ o.data = .cell (some u) ∧ untrack cl H b = none := fun b m => by
        obtain ⟨v, hv⟩ := cellN b m
        obtain ⟨u, h1, o, h2, h3⟩ := cellO_at e0.hok hv
        exact ⟨v, u, o, hv, h1, h2, h3, untrack_in m⟩
      have free2 : ∀ b ∈ cl.map (·.2), H2 b = none := fun b m => by
        obtain ⟨v, u, o, h1, h2, h3, h4, h5⟩ := cellAt b m
        exact un.free b o h3 h5 (by simp)
      refine ⟨v, retrack cl H H2, os, bare, ?_, ?_, rv, q free2⟩
      · have un0 : ∀ b, H b = none → untrack cl H b = none := fun b e => by
          unfold untrack
          split
          · rfl
          · exact e
        refine ⟨fun b o e n hb hx => un.keep b o e (un0 b n) hb hx, fun b o e n hb hx => un.slot b o e (un0 b n) hb hx, fun b o e n hx => ?_, un.there, fun b xs e => ?_, fun b o xs e => ?_, fun b xs e => ?_⟩
        · have m : b ∉ cl.map (·.2) := fun m => by
            obtain ⟨v, hv⟩ := cellN b m
            rw [n] at hv; cases hv
          rw [retrack_out m]
          exact un.free b o e (un0 b n) hx
        · exact retrack_some (un.tups b xs (lo b _ e fun v q => by cases q))
        · exact retrack_some (un.frzs b o xs (lo b _ e fun v q => by cases q))
        · obtain ⟨more, h2⟩ := un.tbls b xs (lo b _ e fun v q => by cases q)
          exact ⟨more, retrack_some h2⟩
      · intro b o e
        cases q2 : H2 b with
        | some u2 =>
          rw [retrack_some q2] at e
          cases e
          exact (hok2 b o q2).stay (fun _ _ _ z => z) (fun d z => retrack_some z) fun d xs z => retrack_some z
        | none =>
          by_cases m : b ∈ cl.map (·.2)
          · rw [retrack_cell q2 m] at e
            obtain ⟨v, u, o1, h1, h2, h3, h4, h5⟩ := cellAt b m
            rw [h1] at e
            cases e
            obtain ⟨sl, h6⟩ := un.any h3 h5 (by simp)
            exact cellO_ok h2 ⟨_, h6, h4⟩
          · rw [retrack_out m, q2] at e; cases e

/-- functions that a name may hold, by what they promise -/
structure TelOk (P : Program) (w : World) (K : PySem.W.Frag) (mg : Str → Option Value) (base : Heap) (k : Nat) (at_ : Addr → Hp → Prop) (sp : Addr → Sp) : Prop where
  fn : ∀ (H : Hp) (h : Heap) (f : Addr), HOk P w H h → at_ f H → PySem.W.FnAt f h
  ok : ∀ f vs H Q E, sp f vs H Q E → at_ f H
  run : ∀ (A : Around) (outer : List Env) (s : Shared) (H : Hp) (us : List Value) (vs : List V) (f : Addr) (Q : VK) (E : XK), Room k A → Env0 P w K mg base A outer s H → Vals vs us → sp f vs H Q E →
    codeAny (model P w) A (.call (.ref f) ⟨us, []⟩) (CR CX0 outer P w H s Q E) s
theorem COk.tel {k : Nat} {st : Stmt} {nm qual : Str} {ps fr : List Str} {sp : List V → Sp} (c : COk P w K mg base CX k st nm qual ps fr sp) :
    TelOk P w K mg base k (fun f H => ∃ ws cl c', Clo H f st nm qual fr ws cl c') (fun f vs H Q E => ∃ ws cl c', Clo H f st nm qual fr ws cl c' ∧ sp ws vs H Q E) := by
  refine ⟨fun H h f hok ⟨ws, cl, c', C⟩ => ?_, fun f vs H Q E ⟨ws, cl, c', C, _⟩ => ⟨ws, cl, c', C⟩, fun A outer s H us vs f Q E hr e0 r ⟨ws, cl, c', C, q⟩ => c.run A outer s H us vs f cl c' ws Q E hr e0 C r q⟩
  obtain ⟨od, sl, doc, pm, ctv, ho⟩ := fnO_at hok C.fn
  exact ⟨_, od, _, sl, ho⟩
theorem TelOk.or {k : Nat} {a1 a2 : Addr → Hp → Prop} {s1 s2 : Addr → Sp} (t1 : TelOk P w K mg base k a1 s1) (t2 : TelOk P w K mg base k a2 s2) :
    TelOk P w K mg base k (fun f H => a1 f H ∨ a2 f H) (fun f vs H Q E => s1 f vs H Q E ∨ s2 f vs H Q E) :=
  ⟨fun H h f hok a => a.elim (t1.fn H h f hok) (t2.fn H h f hok), fun f vs H Q E q => q.imp (t1.ok f vs H Q E) (t2.ok f vs H Q E), fun A outer s H us vs f Q E hr e0 r q => q.elim (t1.run A outer s H us vs f Q E hr e0 r) (t2.run A outer s H us vs f Q E hr e0 r)⟩
end
/-- f(..), f a local name -/
def tTel (i : Nat) (at_ : Addr → Hp → Prop) (sp : Addr → Sp) (t : TA) : TE := fun σ H Q => ∃ f, σ[i]? = some (some (.ref f)) ∧ at_ f H ∧ t σ H fun vs H1 => sp f vs H1 Q (fun _ _ _ => False)
section
variable {X : Cx} {k j i : Nat} {at_ : Addr → Hp → Prop} {sp : Addr → Sp} {t : TA} {x : Str} {e : Expr} {es : List Expr} {p pos : Pos}
theorem pe_callTel (c : TelOk X.prog X.w X.K X.mg X.base j at_ sp) (hr : Room k X.A) (hN : X.N[i]? = some x) (hv : Vis X.env.scope x) (ha : PA X (e :: es) t) (hk : j ≤ k := by decide)
    (hd : (x == ("__debug__" : Str)) = false := by decide) (hcd : (x == ("__classdict__" : Str)) = false := by decide)
    (he : starEach (e :: es) X.env = (false, eval e X.env) :: starEach es X.env := by rfl) (hpl : (backTo pos (starEach es X.env)).any (·.1) = false := by rfl) :
    PE X (.Call (.Name x p) (e :: es) [] pos) (tTel i at_ sp t) := by
  refine ⟨fun pins s σ H Q I h => ?_⟩
  obtain ⟨f, hs, hf, ht⟩ := h
  refine wpAny_Call_Name_kw (thn ((pe_var (pos := p) hN hv hd hcd).run pins s σ H (fun v H1 => v = .ref f ∧ H1 = H) I ⟨.ref f, hs, rfl, rfl⟩) fun u s1 ⟨v, H1, I1, r1, q1⟩ => ?_)
  obtain ⟨ev, eH⟩ := q1
  subst ev
  subst eH
  obtain rfl : u = Value.ref f := r1
  refine PySem.W.callWith_F (first := []) (c.fn H1 s1.heap f I1.hok hf) (thn (ha.run pos pins s1 σ H1 _ I1 ht) fun us s2 ⟨vs, H2, I2, r, q⟩ => ⟨c.fn H2 s2.heap f I2.hok (c.ok f vs H2 _ _ q), ?_⟩) he hpl
  show wpAny _ _ (call (.ref f) us) _ _ _
  refine wpAny_call (codeAny_mono (c.run X.A X.stack s2 H2 us vs f Q _ (hr.mono hk) I2.env0 r q) fun r s' hq => ?_)
  cases r with
  | error e => exact hq.elim
  | ok fl =>
    cases fl with
    | ret u => exact I2.after hq
    | next => exact False.elim hq
    | brk => exact False.elim hq
    | cont => exact False.elim hq
theorem r_tel {σ : L2.St} {H : Hp} {Q : VK} {f : Addr} (hs : σ[i]? = some (some (.ref f))) (h : at_ f H) (k : t σ H fun vs H1 => sp f vs H1 Q (fun _ _ _ => False)) : tTel i at_ sp t σ H Q := ⟨f, hs, h, k⟩
end
end SH

set_option Elab.async false
set_option linter.all false
set_option maxRecDepth 100000
set_option maxHeartbeats 4000000
/-! SHE: data, and what == tells of it -/
namespace SH
open PySem PySem.Spec PyProof.Rows L2

/-- Lean values that stand in the heap as data; n: how deep -/
class Enc (α : Type) where
  dec : DecidableEq α
  d : α → PyData
  n : Nat
  lay : ∀ x, (d x).canLay0 = true
  deep : ∀ x, (d x).depth ≤ n
  eqv : ∀ x y, PyData.eqv (d x) (d y) = @decide (x = y) (dec x y)
/-- a tuple of one kind of things -/
structure Tu (α : Type) where
  l : List α
theorem Enc.deepAll {α : Type} [Enc α] : ∀ xs : List α, PyData.depthAll (xs.map Enc.d) ≤ Enc.n α
  | [] => by simp [PyData.depthAll]
  | x :: xs => by
    have h1 := Enc.deep x
    have h2 := Enc.deepAll xs
    simp only [List.map_cons, PyData.depthAll]
    omega
theorem Enc.layAll {α : Type} [Enc α] : ∀ xs : List α, PyData.canLayAll0 (xs.map Enc.d) = true
  | [] => by simp [PyData.canLayAll0]
  | x :: xs => by simp only [List.map_cons, PyData.canLayAll0, Enc.lay x, Enc.layAll xs, Bool.and_self]
theorem Enc.eqvAll {α : Type} [Enc α] : ∀ xs ys : List α, PyData.eqvAll (xs.map Enc.d) (ys.map Enc.d) = @decide (xs = ys) (@instDecidableEqList α Enc.dec xs ys)
  | [], [] => by simp [PyData.eqvAll]
  | x :: xs, [] => by simp [PyData.eqvAll]
  | [], y :: ys => by simp [PyData.eqvAll]
  | x :: xs, y :: ys => by
    rw [List.map_cons, List.map_cons, show PyData.eqvAll (Enc.d x :: xs.map Enc.d) (Enc.d y :: ys.map Enc.d) = (PyData.eqv (Enc.d x) (Enc.d y) && PyData.eqvAll (xs.map Enc.d) (ys.map Enc.d)) by simp only [PyData.eqvAll], Enc.eqv, Enc.eqvAll xs ys]
    have : ∀ (A B C : Prop) (a : Decidable A) (b : Decidable B) (c : Decidable C), (C ↔ A ∧ B) → (@decide A a && @decide B b) = @decide C c := by
      intro A B C a b c h
      by_cases ha : A <;> by_cases hb : B <;> simp [ha, hb, h]
    exact this _ _ _ _ _ _ (by simp)
instance : Enc Int := ⟨inferInstance, .int, 0, fun _ => by simp [PyData.canLay0], fun _ => by simp [PyData.depth], fun x y => by by_cases h : x = y <;> simp [PyData.eqv, h]⟩
instance : Enc Bool := ⟨inferInstance, .bool, 0, fun _ => by simp [PyData.canLay0], fun _ => by simp [PyData.depth], fun x y => by by_cases h : x = y <;> simp [PyData.eqv, h]⟩
instance : Enc Nat := ⟨inferInstance, fun n => .int n, 0, fun _ => by simp [PyData.canLay0], fun _ => by simp [PyData.depth], fun x y => by
  rw [show PyData.eqv (.int (x : Int)) (.int (y : Int)) = ((x : Int) == (y : Int)) by simp only [PyData.eqv]]
  by_cases h : x = y
  · subst h; simp
  · rw [decide_eq_false h]
    exact beq_eq_false_iff_ne.mpr (by omega)⟩
instance {α : Type} [e : Enc α] : Enc (List α) := ⟨@instDecidableEqList α e.dec, fun xs => .list (xs.map Enc.d), Enc.n α + 1, fun xs => by simp only [PyData.canLay0]; exact Enc.layAll xs,
  fun xs => by simp only [PyData.depth]; exact Nat.succ_le_succ (Enc.deepAll xs), fun xs ys => by simp only [PyData.eqv]; exact Enc.eqvAll xs ys⟩
instance {α : Type} [e : Enc α] : Enc (Tu α) := ⟨fun a b => @decidable_of_iff _ (a.l = b.l) (by cases a; cases b; simp) (@instDecidableEqList α e.dec a.l b.l), fun xs => .tuple (xs.l.map Enc.d), Enc.n α + 1, fun xs => by simp only [PyData.canLay0]; exact Enc.layAll xs.l,
  fun xs => by simp only [PyData.depth]; exact Nat.succ_le_succ (Enc.deepAll xs.l), fun xs ys => by
    simp only [PyData.eqv]
    rw [Enc.eqvAll xs.l ys.l]
    cases xs; cases ys
    simp⟩
instance {α β : Type} [e : Enc α] [f : Enc β] : Enc (α × β) := ⟨@instDecidableEqProd α β e.dec f.dec, fun x => .tuple [Enc.d x.1, Enc.d x.2], max (Enc.n α) (Enc.n β) + 1,
  fun x => by simp only [PyData.canLay0, PyData.canLayAll0, Enc.lay]; rfl,
  fun x => by
    have h1 := Enc.deep x.1
    have h2 := Enc.deep x.2
    simp only [PyData.depth, PyData.depthAll]; omega, fun x y => by
    simp only [PyData.eqv, PyData.eqvAll, Enc.eqv, Bool.and_true]
    obtain ⟨a, b⟩ := x
    obtain ⟨c, d⟩ := y
    by_cases ha : a = c <;> by_cases hb : b = d <;> simp [ha, hb]⟩
/-- three in a tuple -/
structure T3 (α β γ : Type) where
  a : α
  b : β
  c : γ
deriving DecidableEq
instance {α β γ : Type} [e : Enc α] [f : Enc β] [g : Enc γ] : Enc (T3 α β γ) := ⟨@instDecidableEqT3 α β γ e.dec f.dec g.dec, fun x => .tuple [Enc.d x.a, Enc.d x.b, Enc.d x.c], max (Enc.n α) (max (Enc.n β) (Enc.n γ)) + 1,
  fun x => by simp only [PyData.canLay0, PyData.canLayAll0, Enc.lay]; rfl,
  fun x => by
    have h1 := Enc.deep x.a
    have h2 := Enc.deep x.b
    have h3 := Enc.deep x.c
    simp only [PyData.depth, PyData.depthAll]; omega, fun x y => by
    simp only [PyData.eqv, PyData.eqvAll, Enc.eqv, Bool.and_true]
    obtain ⟨a, b, c⟩ := x
    obtain ⟨a', b', c'⟩ := y
    by_cases ha : a = a' <;> by_cases hb : b = b' <;> by_cases hc : c = c' <;> simp [ha, hb, hc]⟩

/-- a text of plain signs -/
abbrev SOk := { s : Str // PyData.canLay0 (.str s) = true }
instance : Enc SOk := ⟨inferInstance, fun s => .str s.1, 0, fun s => s.2, fun _ => by simp [PyData.depth], fun x y => by
  rw [show PyData.eqv (.str x.1) (.str y.1) = (x.1 == y.1) by simp only [PyData.eqv]]
  by_cases h : x = y
  · subst h; simp
  · rw [decide_eq_false h]
    exact beq_eq_false_iff_ne.mpr fun z => h (Subtype.ext z)⟩

mutual
theorem dp_stp {K : PySem.W.Frag} {H H' : Hp} (S : Stp [] H H') : ∀ (d : PyData) (v : V), Dp K H v d → Dp K H' v d
  | .none, _, h => by cases h; exact .non
  | .bool _, _, h => by cases h; exact .bl _
  | .int _, _, h => by cases h; exact .int _
  | .str _, _, h => by cases h; exact .str _
  | .list ds, _, h => by
    cases h with
    | lst hs ha => exact .lst (S.sql0 hs) (dp_stpAll S ds _ ha)
  | .tuple ds, _, h => by
    cases h with
    | tup hs ha => exact .tup (S.sqt0 hs) (dp_stpAll S ds _ ha)
  | .dict _, _, h => by cases h
theorem dp_stpAll {K : PySem.W.Frag} {H H' : Hp} (S : Stp [] H H') : ∀ (ds : List PyData) (vs : List V), DpAll K H vs ds → DpAll K H' vs ds
  | [], _, h => by cases h; exact .nil
  | d :: ds, _, h => by
    cases h with
    | cons h1 h2 => exact .cons (dp_stp S d _ h1) (dp_stpAll S ds _ h2)
end

mutual
/-- no list in it -/
def noL : PyData → Bool
  | .none | .bool _ | .int _ | .str _ => true
  | .tuple xs => noLs xs
  | .list _ => false
  | .dict _ => false
def noLs : List PyData → Bool
  | [] => true
  | x :: xs => noL x && noLs xs
end
mutual
theorem dp_stpM {K : PySem.W.Frag} {M : List Addr} {H H' : Hp} (S : Stp M H H') : ∀ (d : PyData) (v : V), noL d = true → Dp K H v d → Dp K H' v d
  | .none, _, _, h => by cases h; exact .non
  | .bool _, _, _, h => by cases h; exact .bl _
  | .int _, _, _, h => by cases h; exact .int _
  | .str _, _, _, h => by cases h; exact .str _
  | .list _, _, n, _ => by simp [noL] at n
  | .tuple ds, _, n, h => by
    cases h with
    | tup hs ha => exact .tup (S.sqtM hs) (dp_stpMs S ds _ (by simpa [noL] using n) ha)
  | .dict _, _, _, h => by cases h
theorem dp_stpMs {K : PySem.W.Frag} {M : List Addr} {H H' : Hp} (S : Stp M H H') : ∀ (ds : List PyData) (vs : List V), noLs ds = true → DpAll K H vs ds → DpAll K H' vs ds
  | [], _, _, h => by cases h; exact .nil
  | d :: ds, _, n, h => by
    have n' : noL d = true ∧ noLs ds = true := by simpa [noLs] using n
    cases h with
    | cons h1 h2 => exact .cons (dp_stpM S d _ n'.1 h1) (dp_stpMs S ds _ n'.2 h2)
end
class Flat (α : Type) [Enc α] : Prop where
  fl : ∀ x : α, noL (Enc.d x) = true
instance : Flat Int := ⟨fun _ => by simp [Enc.d, noL]⟩
instance : Flat Nat := ⟨fun _ => by simp [Enc.d, noL]⟩
instance : Flat Bool := ⟨fun _ => by simp [Enc.d, noL]⟩
instance : Flat SOk := ⟨fun _ => by simp [Enc.d, noL]⟩
instance {α β : Type} [Enc α] [Enc β] [Flat α] [Flat β] : Flat (α × β) := ⟨fun x => by simp only [Enc.d, noL, noLs, Flat.fl]; rfl⟩
instance {α β γ : Type} [Enc α] [Enc β] [Enc γ] [Flat α] [Flat β] [Flat γ] : Flat (T3 α β γ) := ⟨fun x => by simp only [Enc.d, noL, noLs, Flat.fl]; rfl⟩
theorem noLs_map {α : Type} [Enc α] [Flat α] : ∀ xs : List α, noLs (xs.map Enc.d) = true
  | [] => by simp [noLs]
  | x :: xs => by simp only [List.map_cons, noLs, Flat.fl, noLs_map xs, Bool.and_self]
instance {α : Type} [Enc α] [Flat α] : Flat (Tu α) := ⟨fun x => by simp only [Enc.d, noL]; exact noLs_map x.l⟩

/-- v is x, in the heap H -/
def Is {α : Type} [Enc α] (K : PySem.W.Frag) (H : Hp) (v : V) (x : α) : Prop := Dp K H v (Enc.d x)
def IsL {α : Type} [Enc α] (K : PySem.W.Frag) (H : Hp) (vs : List V) (xs : List α) : Prop := DpAll K H vs (xs.map Enc.d)
section
variable {K : PySem.W.Frag} {H H' : Hp} {α β γ : Type} [Enc α] [Enc β] [Enc γ] {p : Addr} {vs : List V} {xs : List α} {v u t : V} {x y : α} {b : β} {c : γ} {Q : VK}
theorem is_int {n : Int} : Is K H (.int n) n := .int n
theorem is_nat {n : Nat} : Is K H (.int n) n := .int n
theorem is_str {s : Str} (h : PyData.canLay0 (.str s) = true) : Is K H (.str s) (⟨s, h⟩ : SOk) := .str s
theorem is_stp (S : Stp [] H H') (h : Is K H v x) : Is K H' v x := dp_stp S _ _ h
theorem isl_stp (S : Stp [] H H') (h : IsL K H vs xs) : IsL K H' vs xs := dp_stpAll S _ _ h
theorem is_stpM [Flat α] {M : List Addr} (S : Stp M H H') (h : Is K H v x) : Is K H' v x := dp_stpM S _ _ (Flat.fl x) h
theorem isl_stpM [Flat α] {M : List Addr} (S : Stp M H H') (h : IsL K H vs xs) : IsL K H' vs xs := dp_stpMs S _ _ (noLs_map xs) h
theorem is_bl {b : Bool} : Is K H (.bl b) b := .bl b
theorem is_lst (h : SqL K H p vs) (k : IsL K H vs xs) : Is K H (.ref p) xs := .lst h k
theorem is_tu (h : SqT K H p vs) (k : IsL K H vs xs) : Is K H (.ref p) (Tu.mk xs) := .tup h k
theorem is_pr (h : SqT K H p [v, u]) (k : Is K H v x) (l : Is K H u b) : Is K H (.ref p) (x, b) := .tup h (.cons k (.cons l .nil))
theorem is_t3 (h : SqT K H p [v, u, t]) (k : Is K H v x) (l : Is K H u b) (m : Is K H t c) : Is K H (.ref p) (T3.mk x b c) := .tup h (.cons k (.cons l (.cons m .nil)))
theorem isl_nil : IsL K H [] ([] : List α) := .nil
theorem isl_cons (h : Is K H v x) (k : IsL K H vs xs) : IsL K H (v :: vs) (x :: xs) := .cons h k
theorem isl_map {f : α → V} (h : ∀ x ∈ xs, Is K H (f x) x) : IsL K H (xs.map f) xs := by
  induction xs with
  | nil => exact .nil
  | cons x xs ih => exact .cons (h x (by simp)) (ih fun y hy => h y (by simp [hy]))
theorem isl_map2 {β : Type} {l : List β} {f : β → V} {g : β → α} (h : ∀ b ∈ l, Is K H (f b) (g b)) : IsL K H (l.map f) (l.map g) := by
  induction l with
  | nil => exact .nil
  | cons x xs ih => exact .cons (h x (by simp)) (ih fun y hy => h y (by simp [hy]))
theorem isl_ints {ns : List Int} : IsL K H (ns.map V.int) ns := isl_map fun _ _ => is_int
theorem isl_nats {ns : List Nat} : IsL K H (ns.map fun n : Nat => V.int n) ns := isl_map fun _ _ => is_nat
theorem isl_bls {ns : List Bool} : IsL K H (ns.map V.bl) ns := isl_map fun _ _ => is_bl
theorem isl_app {vs' : List V} {xs' : List α} (h : IsL K H vs xs) (k : IsL K H vs' xs') : IsL K H (vs ++ vs') (xs ++ xs') := by
  induction vs generalizing xs with
  | nil => cases xs with
    | nil => exact k
    | cons x xs => cases h
  | cons v vs ih => cases xs with
    | nil => cases h
    | cons x xs => cases h with | cons h1 h2 => exact .cons h1 (ih (xs := xs) h2)
theorem isl_len (h : IsL K H vs xs) : vs.length = xs.length := by
  induction vs generalizing xs with
  | nil => cases xs with
    | nil => rfl
    | cons x xs => cases h
  | cons v vs ih => cases xs with
    | nil => cases h
    | cons x xs => cases h with | cons h1 h2 => simp [ih (xs := xs) h2]
theorem isl_at {i : Nat} {v : V} (h : IsL K H vs xs) (e : vs[i]? = some v) : ∃ x, xs[i]? = some x ∧ Is K H v x := by
  induction vs generalizing xs i with
  | nil => cases e
  | cons w vs ih => cases xs with
    | nil => cases h
    | cons x xs => cases h with | cons h1 h2 => cases i with
      | zero => cases e; exact ⟨x, rfl, h1⟩
      | succ i => exact ih (xs := xs) h2 e
theorem isl_get {i : Nat} {x : α} (h : IsL K H vs xs) (e : xs[i]? = some x) : ∃ v, vs[i]? = some v ∧ Is K H v x := by
  induction vs generalizing xs i with
  | nil => cases xs with
    | nil => cases e
    | cons x xs => cases h
  | cons w vs ih => cases xs with
    | nil => cases h
    | cons y xs => cases h with | cons h1 h2 => cases i with
      | zero => cases e; exact ⟨w, rfl, h1⟩
      | succ i => exact ih (xs := xs) h2 e
theorem is_shaped (hn : Enc.n α ≤ 64) : SeqAt.shaped (Enc.d x) = true := by
  unfold SeqAt.shaped
  rw [Enc.lay]
  exact decide_eq_true (Nat.le_trans (Enc.deep x) hn)
theorem v_eqE (h1 : Is K H v x) (h2 : Is K H u y) (k : Q (.bl (@decide (x = y) (Enc.dec x y))) H) (hn : Enc.n α ≤ 64 := by decide) : aEq K v u H Q :=
  v_eqD h1 h2 (is_shaped hn) (is_shaped hn) (by rw [Enc.eqv]; exact k)
theorem v_neE (h1 : Is K H v x) (h2 : Is K H u y) (k : Q (.bl (!@decide (x = y) (Enc.dec x y))) H) (hn : Enc.n α ≤ 64 := by decide) : aNe K v u H Q :=
  v_neD h1 h2 (is_shaped hn) (is_shaped hn) (by rw [Enc.eqv]; exact k)
theorem v_eqL {ns ms : List Int} {q : Addr} (h1 : SqL K H p (ns.map V.int)) (h2 : SqL K H q (ms.map V.int)) (k : Q (.bl (decide (ns = ms))) H) : aEq K (.ref p) (.ref q) H Q :=
  v_eqE (is_lst h1 isl_ints) (is_lst h2 isl_ints) (by rw [show @decide (ns = ms) (Enc.dec ns ms) = decide (ns = ms) by congr]; exact k)
theorem v_neL {ns ms : List Int} {q : Addr} (h1 : SqL K H p (ns.map V.int)) (h2 : SqL K H q (ms.map V.int)) (k : Q (.bl (!decide (ns = ms))) H) : aNe K (.ref p) (.ref q) H Q :=
  v_neE (is_lst h1 isl_ints) (is_lst h2 isl_ints) (by rw [show @decide (ns = ms) (Enc.dec ns ms) = decide (ns = ms) by congr]; exact k)
theorem v_neL0 {ns : List Int} {q : Addr} (h1 : SqL K H p (ns.map V.int)) (h2 : SqL K H q []) (k : Q (.bl (!decide (ns = []))) H) : aNe K (.ref p) (.ref q) H Q := v_neL (ms := []) h1 h2 k
theorem v_ixLast {ys : List V} (h : SqL K H p (ys ++ [v])) (k : Q v H) : aIx K (.ref p) (.int (-1)) H Q := ⟨_, v, .inl h, atI_last ys v, k⟩
theorem v_neN0 {ns : List Nat} {q : Addr} (h1 : SqL K H p (ns.map fun n : Nat => V.int n)) (h2 : SqL K H q []) (k : Q (.bl (!decide (ns = []))) H) : aNe K (.ref p) (.ref q) H Q :=
  v_neE (y := []) (is_lst h1 isl_nats) (is_lst h2 isl_nil) (by rw [show @decide (ns = []) (Enc.dec ns []) = decide (ns = []) by congr]; exact k)
theorem v_ixMod {vs : List V} {c : Int} {m : Nat} (h : SqL K H p vs) (hl : vs.length = m) (hm : 0 < m) (k : ∀ v ∈ vs, Q v H) : aIx K (.ref p) (.int (c % (m : Int))) H Q := by
  have h0 := Int.emod_nonneg c (show (m : Int) ≠ 0 by omega)
  have h1 := Int.emod_lt_of_pos c (show (0 : Int) < m by omega)
  have e : c % (m : Int) = ((c % (m : Int)).toNat : Int) := by omega
  have hlt : (c % (m : Int)).toNat < vs.length := by omega
  exact v_ixLn h e (List.getElem?_eq_getElem hlt) (k _ (List.getElem_mem hlt))
theorem v_ixAny {vs : List V} {i : Int} {n : Nat} (h : SqL K H p vs) (e : i = n) (hn : n < vs.length) (k : ∀ v ∈ vs, Q v H) : aIx K (.ref p) (.int i) H Q := v_ixLn h e (List.getElem?_eq_getElem hn) (k _ (List.getElem_mem hn))
/-- all are ints -/
def Ints (vs : List V) : Prop := ∀ v ∈ vs, ∃ n : Int, v = .int n
theorem ints_nil : Ints [] := fun _ h => by cases h
theorem ints_cons {n : Int} {vs : List V} (h : Ints vs) : Ints (.int n :: vs) := fun v hv => by
  rcases List.mem_cons.mp hv with rfl | hv
  · exact ⟨n, rfl⟩
  · exact h v hv
/-- a place of a list of ints -/
def getE (es : List Int) (i : Nat) : Int := es.getD i 0
theorem getE_at {es : List Int} {i : Nat} (h : i < es.length) : (es.map V.int)[i]? = some (V.int (getE es i)) := by simp [getE, h]
theorem getE_app {es : List Int} {i : Nat} {y : Int} (h : i < es.length) : getE (es ++ [y]) i = getE es i := by simp [getE, List.getElem?_append, h]
theorem getE_last {es : List Int} {i : Nat} {y : Int} (h : es.length = i) : getE (es ++ [y]) i = y := by subst h; simp [getE]
theorem v_ixE {es : List Int} {i : Int} {n : Nat} (h : SqL K H p (es.map V.int)) (e : i = n) (hn : n < es.length) (k : Q (.int (getE es n)) H) : aIx K (.ref p) (.int i) H Q := v_ixLn h e (getE_at hn) k
theorem v_ixTE {es : List Int} {i : Int} {n : Nat} (h : SqT K H p (es.map V.int)) (e : i = n) (hn : n < es.length) (k : Q (.int (getE es n)) H) : aIx K (.ref p) (.int i) H Q := v_ixTn h e (getE_at hn) k
theorem v_ixEl {es : List Int} {n : Nat} (h : SqL K H p (es.map V.int)) (e : es.length = n + 1) (k : Q (.int (getE es n)) H) : aIx K (.ref p) (.int (-1)) H Q := by
  rcases List.eq_nil_or_concat es with z | ⟨ys, y, z⟩
  · subst z; cases e
  · have hz : es = ys ++ [y] := by simpa using z
    subst hz
    rw [List.map_append] at h
    have hl : ys.length = n := by simpa using e
    rw [getE_last hl] at k
    exact v_ixLast h k
theorem v_eqLL {ns ms : List Int} {q : Addr} (h1 : SqL K H p (ns.map V.int)) (h2 : SqL K H q (ms.map V.int)) (e : ns = ms) (k : Q (.bl true) H) : aEq K (.ref p) (.ref q) H Q := v_eqL h1 h2 (by rw [decide_eq_true e]; exact k)
theorem v_lenQ {n : Nat} (h : SqL K H p vs) (e : vs.length = n) (k : Q (.int n) H) : aLen K [.ref p] H Q := ⟨_, .inl h, by rw [e]; exact k⟩
theorem v_lenU {n : Nat} (h : SqT K H p vs) (e : vs.length = n) (k : Q (.int n) H) : aLen K [.ref p] H Q := ⟨_, .inr h, by rw [e]; exact k⟩
/-- tuple(xs) -/
theorem v_tuL (h : SqL K H p vs) (k : ∀ l, H l = none → Q (.ref l) (upd H l (.tup vs))) : ∃ p' ys, [V.ref p] = [.ref p'] ∧ ((SqL K H p' ys ∧ ∀ l, H l = none → Q (.ref l) (upd H l (.tup ys))) ∨ (SqT K H p' ys ∧ Q (.ref p') H)) := ⟨p, vs, rfl, .inl ⟨h, k⟩⟩
/-- xs.pop(i) -/
theorem v_popAt {i : Int} {n : Nat} (h : H p = some (.lst vs)) (e : i = n) (hn : n < 1000000) (hv : vs[n]? = some v) (k : Q v (upd H p (.lst (vs.eraseIdx n)))) : rPopAt (.ref p) [.int i] H Q := by
  refine ⟨p, vs, i, n, v, rfl, rfl, h, by omega, by omega, ?_, hv, k⟩
  subst e
  exact (ixN_seq (ixN_n (List.getElem?_eq_some_iff.mp hv).1)).1
/-- sorted(xs), ints -/
theorem v_sortI {ns : List Int} (h : SqL K H p (ns.map V.int)) (k : ∀ (ns' : List Int) (q : Addr), ns'.Perm ns → ns'.Pairwise (· ≤ ·) → H q = none → Q (.ref q) (upd H q (.lst (ns'.map V.int)))) : rSortedI K [.ref p] H Q := ⟨p, ns, rfl, h, k⟩
/-- list(range(n)) -/
def kLrg1 (Q : VK) : VK := fun x H1 => ∃ n : Int, x = .int n ∧ RgOk 0 n ∧ ∀ q, H1 q = none → Q (.ref q) (upd H1 q (.lst (rgV 0 n)))
theorem r_lrg1 {ta : TE} {σ : L2.St} (h : ta σ H (kLrg1 Q)) : tLstRg (tRg1 ta) σ H Q := h
theorem rgV_nat (n : Nat) : rgV 0 (n : Int) = (List.range n).map fun i : Nat => V.int i := by unfold rgV; simp
theorem v_lrg1 {i : Int} {n : Nat} (e : i = n) (hn : n ≤ 1000000) (k : ∀ q, H q = none → Q (.ref q) (upd H q (.lst ((List.range n).map fun i : Nat => V.int i)))) : kLrg1 Q (.int i) H := by
  refine ⟨i, rfl, RgOk.of_le (by omega) (by omega) (by omega) (by omega), ?_⟩
  rw [e, rgV_nat]
  exact k
def kLrg2 (Q : VK) (x : V) : VK := fun y H2 => ∃ i j : Int, x = .int i ∧ y = .int j ∧ RgOk i j ∧ ∀ q, H2 q = none → Q (.ref q) (upd H2 q (.lst (rgV i j)))
theorem r_lrg2 {ta tb : TE} {σ : L2.St} (h : ta σ H fun x H1 => tb σ H1 (kLrg2 Q x)) : tLstRg (tRg2 ta tb) σ H Q := h
theorem rgV_nats (n m : Nat) : rgV (n : Int) (m : Int) = (List.range' n (m - n)).map fun i : Nat => V.int i := by
  unfold rgV
  rw [show ((m : Int) - (n : Int)).toNat = m - n by omega, List.range'_eq_map_range, List.map_map]
  exact List.map_congr_left fun i _ => by simp
theorem v_lrg2 {i j : Int} {n m : Nat} (e : i = n) (e2 : j = m) (hn : n ≤ 1000000) (hm : m ≤ 1000000) (k : ∀ q, H q = none → Q (.ref q) (upd H q (.lst ((List.range' n (m - n)).map fun i : Nat => V.int i)))) : kLrg2 Q (.int i) (.int j) H := by
  refine ⟨i, j, rfl, rfl, RgOk.of_le (by omega) (by omega) (by omega) (by omega), ?_⟩
  rw [e, e2, rgV_nats]
  exact k
end
section
variable {X : Cx} {a b : Expr} {ta tb : TE} {p p2 pos pos2 : Pos}
theorem pe_listrange (hg : Gl X "list") (hm : X.mg "list" = none) (hg2 : Gl X "range") (hm2 : X.mg "range" = none) (ha : PE X a ta) (hc : X.calm = true := by rfl) (na : starEach [a] X.env = (false, eval a X.env) :: starEach [] X.env := by rfl)
    (na2 : starEach [.Call (.Name "range" p2) [a] [] pos2] X.env = (false, eval (.Call (.Name "range" p2) [a] [] pos2) X.env) :: starEach [] X.env := by rfl) : PE X (.Call (.Name "list" p) [.Call (.Name "range" p2) [a] [] pos2] [] pos) (tLstRg (tRg1 ta)) :=
  pe_listRg hc hg hm (prg_1 hg2 hm2 ha na) na2
theorem pe_listrange2 (hg : Gl X "list") (hm : X.mg "list" = none) (hg2 : Gl X "range") (hm2 : X.mg "range" = none) (ha : PE X a ta) (hb : PE X b tb) (hc : X.calm = true := by rfl) (na : starEach [a, b] X.env = (false, eval a X.env) :: starEach [b] X.env := by rfl)
    (nb : starEach [b] X.env = (false, eval b X.env) :: starEach [] X.env := by rfl) (hp : (backTo pos2 (starEach [b] X.env)).any (·.1) = false := by rfl)
    (na2 : starEach [.Call (.Name "range" p2) [a, b] [] pos2] X.env = (false, eval (.Call (.Name "range" p2) [a, b] [] pos2) X.env) :: starEach [] X.env := by rfl) : PE X (.Call (.Name "list" p) [.Call (.Name "range" p2) [a, b] [] pos2] [] pos) (tLstRg (tRg2 ta tb)) :=
  pe_listRg hc hg hm (prg_2 hg2 hm2 ha hb na nb hp) na2
end
section
variable {C : Addr} {m : Str} {sp : Sp} {dvs vs : List V} {E : XK} {ta : TE} {t : TA} {σ : L2.St} {H : Hp} {Q : VK} {a dx : Addr} {fs : List (Str × V)}
def kMeth (C : Addr) (m : Str) (sp : Sp) (dvs : List V) (E : XK) (t : TA) (σ : L2.St) (Q : VK) : VK := fun x H1 => ∃ a dx fs, x = .ref a ∧ H1 a = some (.ins C dx fs) ∧ fs.lookup m = none ∧ t σ H1 fun vs H2 => sp (x :: (vs ++ dvs)) H2 Q E
theorem r_meth (h : ta σ H (kMeth C m sp dvs E t σ Q)) : tMeth C m sp dvs E ta t σ H Q := h
theorem v_meth (h : H a = some (.ins C dx fs)) (l : fs.lookup m = none) (k : t σ H fun vs H2 => sp (.ref a :: (vs ++ dvs)) H2 Q E) : kMeth C m sp dvs E t σ Q (.ref a) H := ⟨a, dx, fs, rfl, h, l, k⟩
def kMake (C : Addr) (sp : Sp) (dvs : List V) (E : XK) (Q : VK) : List V → Hp → Prop := fun vs H1 => ∀ x dx, H1 x = none → H1 dx = none → dx ≠ x → sp (.ref x :: (vs ++ dvs)) (upd (upd H1 dx (.own x)) x (.ins C dx [])) (fun v H2 => v = .non ∧ Q (.ref x) H2) E
theorem r_make (h : t σ H (kMake C sp dvs E Q)) : tMake C sp dvs E t σ H Q := h
theorem v_make (k : ∀ x dx, H x = none → H dx = none → dx ≠ x → sp (.ref x :: (vs ++ dvs)) (upd (upd H dx (.own x)) x (.ins C dx [])) (fun v H2 => v = .non ∧ Q (.ref x) H2) E) : kMake C sp dvs E Q vs H := k
theorem isi_bl_int {K : PySem.W.Frag} {b : Bool} (k : Q (.bl true) H) : rIsi K [.bl b, .ty "int"] H Q := ⟨.bl b, .ty "int", .type "bool", .type "int", true, rfl, .ty _, .base (.bl b), by rfl, k⟩
theorem isi_bl_bool {K : PySem.W.Frag} {b : Bool} (k : Q (.bl true) H) : rIsi K [.bl b, .ty "bool"] H Q := ⟨.bl b, .ty "bool", .type "bool", .type "bool", true, rfl, .ty _, .base (.bl b), by rfl, k⟩
theorem isi_L {K : PySem.W.Frag} {xs : List V} (h : H a = some (.lst xs)) (k : Q (.bl true) H) : rIsi K [.ref a, .ty "list"] H Q := ⟨.ref a, .ty "list", .type "list", .type "list", true, rfl, .ty _, .base (.lst h), by rfl, k⟩
theorem isi_T {K : PySem.W.Frag} {xs : List V} (h : H a = some (.tup xs)) (k : Q (.bl true) H) : rIsi K [.ref a, .ty "tuple"] H Q := ⟨.ref a, .ty "tuple", .type "tuple", .type "tuple", true, rfl, .ty _, .base (.tup h), by rfl, k⟩
end
section
variable {f g : Str} {v x : V} {r r' : List (Str × V)} {a1 a2 a3 a4 a5 a6 : Str × V}
theorem pf_nil : putF f v [] = [(f, v)] := rfl
theorem pf_hit : putF f v ((f, x) :: r) = (f, v) :: r := by simp [putF]
theorem pf_miss (h : g ≠ f) (k : putF f v r = r') : putF f v ((g, x) :: r) = (g, x) :: r' := by simp [putF, h, k]
theorem few0 : ([] : List (Str × V)).length < 1000 := by simp
theorem few1 : [a1].length < 1000 := by simp
theorem few2 : [a1, a2].length < 1000 := by simp
theorem few3 : [a1, a2, a3].length < 1000 := by simp
theorem few4 : [a1, a2, a3, a4].length < 1000 := by simp
theorem few5 : [a1, a2, a3, a4, a5].length < 1000 := by simp
theorem few6 : [a1, a2, a3, a4, a5, a6].length < 1000 := by simp
end
theorem mul64 {i j : Int} (h : -18446744073709551616 < i ∧ i < 18446744073709551616) (k : -18446744073709551616 < j ∧ j < 18446744073709551616) : IntMulOk i j :=
  (mulx_ok (a := 64) (b := 64) (by have : (2 : Nat) ^ 64 = 18446744073709551616 := by decide
                                   omega) (by have : (2 : Nat) ^ 64 = 18446744073709551616 := by decide
                                              omega) (by decide)).ok
theorem ne_of_none' {H : Hp} {a p : Addr} {o : HO} (hp : H p = none) (h : H a = some o) : a ≠ p := ne_of_none h hp
theorem r_ty {K : PySem.W.Frag} {H : Hp} {p : Addr} {xs : List V} {B : Prop} (h : H p = some (.lst xs)) (k : B) : tyV K "list" (.ref p) H ∧ B := ⟨ty_list h, k⟩
/-! built-ins by names of their own -/
def rListOf (K : PySem.W.Frag) : List V → Hp → VK → Prop := fun xs H Q => ∃ p ys, xs = [.ref p] ∧ (SqL K H p ys ∨ SqT K H p ys) ∧ ∀ l, H l = none → Q (.ref l) (upd H l (.lst ys))
def rTupOf (K : PySem.W.Frag) : List V → Hp → VK → Prop := fun xs H Q => ∃ p ys, xs = [.ref p] ∧ ((SqL K H p ys ∧ ∀ l, H l = none → Q (.ref l) (upd H l (.tup ys))) ∨ (SqT K H p ys ∧ Q (.ref p) H))
def rMax2 : List V → Hp → VK → Prop := fun xs H Q => ∃ i j, xs = [.int i, .int j] ∧ Q (.int (if j > i then j else i)) H
def rMin2 : List V → Hp → VK → Prop := fun xs H Q => ∃ i j, xs = [.int i, .int j] ∧ Q (.int (if j < i then j else i)) H
def rIns : V → List V → Hp → VK → Prop := fun x vs H Q => ∃ (l : Addr) (xs : List V) (i : Int) (y : V), x = .ref l ∧ vs = [.int i, y] ∧ H l = some (.lst xs) ∧ xs.length < sizeLine ∧ 0 ≤ i ∧ i < 2 ^ 63 ∧ Q .non (upd H l (.lst (xs.take i.toNat ++ [y] ++ xs.drop i.toNat)))
section
variable {X : Cx} {K : PySem.W.Frag} {H : Hp} {Q : VK} {p : Addr} {vs : List V} {v : V} {i j : Int}
theorem cListOf : CallR X (.type "list") (rListOf X.K) := call_list_of
theorem cTupOf : CallR X (.type "tuple") (rTupOf X.K) := call_tuple_of
theorem cMax2 (hc : X.calm = true) : CallR X (.builtin "max") rMax2 := call_max2 hc
theorem cMin2 (hc : X.calm = true) : CallR X (.builtin "min") rMin2 := call_min2 hc
theorem mIns : MtR X "list.insert" rIns := mt_insert
theorem w_listL (h : SqL K H p vs) (k : ∀ l, H l = none → Q (.ref l) (upd H l (.lst vs))) : rListOf K [.ref p] H Q := ⟨p, vs, rfl, .inl h, k⟩
theorem w_listT (h : SqT K H p vs) (k : ∀ l, H l = none → Q (.ref l) (upd H l (.lst vs))) : rListOf K [.ref p] H Q := ⟨p, vs, rfl, .inr h, k⟩
theorem w_tupL (h : SqL K H p vs) (k : ∀ l, H l = none → Q (.ref l) (upd H l (.tup vs))) : rTupOf K [.ref p] H Q := ⟨p, vs, rfl, .inl ⟨h, k⟩⟩
theorem w_tupT (h : SqT K H p vs) (k : Q (.ref p) H) : rTupOf K [.ref p] H Q := ⟨p, vs, rfl, .inr ⟨h, k⟩⟩
theorem w_max (k : Q (.int (if j > i then j else i)) H) : rMax2 [.int i, .int j] H Q := ⟨i, j, rfl, k⟩
theorem w_min (k : Q (.int (if j < i then j else i)) H) : rMin2 [.int i, .int j] H Q := ⟨i, j, rfl, k⟩
theorem w_ins {n : Nat} (h : H p = some (.lst vs)) (e : i = n) (hn : n < 1000000) (hl : vs.length < 1000000) (k : Q .non (upd H p (.lst (vs.take n ++ [v] ++ vs.drop n)))) : rIns (.ref p) [.int i, v] H Q :=
  ⟨p, vs, i, v, rfl, rfl, h, Nat.lt_trans hl (by decide), by omega, by omega, by rw [e]; exact k⟩
theorem w_insI (h : H p = some (.lst vs)) (h0 : 0 ≤ i) (h1 : i < 1000000) (hl : vs.length < 1000000) (k : Q .non (upd H p (.lst (vs.take i.toNat ++ [v] ++ vs.drop i.toNat)))) : rIns (.ref p) [.int i, v] H Q :=
  ⟨p, vs, i, v, rfl, rfl, h, Nat.lt_trans hl (by decide), h0, by omega, k⟩
end
/-! one layer of a heap taken off -/
section
variable {K : PySem.W.Frag} {H : Hp} {a p : Addr} {xs : List V} {o u : HO}
theorem off_old (hp : H p = none) (h : H a = some o) : upd H p u a = some o := upd_old h hp
theorem off_far (n : a ≠ p) (h : H a = some o) : upd H p u a = some o := upd_far n h
theorem sql_off (hp : H p = none) (h : SqL K H a xs) : SqL K (upd H p u) a xs := sql_upd h hp
theorem sql_offar (n : a ≠ p) (h : SqL K H a xs) : SqL K (upd H p u) a xs := sql_far h n
theorem sqt_off (hp : H p = none) (h : SqT K H a xs) : SqT K (upd H p u) a xs := sqt_upd h hp
theorem sqt_offar (n : a ≠ p) (h : SqT K H a xs) : SqT K (upd H p u) a xs := sqt_far h n
end
/-! x is True, for a truth x -/
def aIsB : R2 := fun x y H Q => ∃ b c, x = .bl b ∧ y = .bl c ∧ Q (.bl (decide (b = c))) H
def aNotB : R2 := fun x y H Q => ∃ b c, x = .bl b ∧ y = .bl c ∧ Q (.bl (!decide (b = c))) H
section
variable {X : Cx} {K : PySem.W.Frag} {H : Hp} {Q : VK} {b c : Bool} {x y : V} {d : PyData}
theorem oIsB : OpR X (compareOp .Is) aIsB := by
  intro pins s σ H x y v u Q I rx ry h
  obtain ⟨b, c, rfl, rfl, q⟩ := h
  cases rx
  cases ry
  show wpAny _ _ ((isSame (Value.bool b) (Value.bool c)) >>= fun z => pure (Value.bool z)) _ _ s
  exact wpAny_bind (wpAny_isSame_plain (by rfl) (wpAny_pure (fin_bl I q (by cases b <;> cases c <;> rfl))))
theorem oNotB : OpR X (compareOp .IsNot) aNotB := by
  intro pins s σ H x y v u Q I rx ry h
  obtain ⟨b, c, rfl, rfl, q⟩ := h
  cases rx
  cases ry
  show wpAny _ _ ((isSame (Value.bool b) (Value.bool c)) >>= fun z => pure (Value.bool (!z))) _ _ s
  exact wpAny_bind (wpAny_isSame_plain (by rfl) (wpAny_pure (fin_bl I q (by cases b <;> cases c <;> rfl))))
theorem w_isB (k : Q (.bl (decide (b = c))) H) : aIsB (.bl b) (.bl c) H Q := ⟨b, c, rfl, rfl, k⟩
theorem w_notB (k : Q (.bl (!decide (b = c))) H) : aNotB (.bl b) (.bl c) H Q := ⟨b, c, rfl, rfl, k⟩
mutual
theorem eqv_refl : ∀ d : PyData, d.canLay0 = true → PyData.eqv d d = true
  | .none, _ => by simp [PyData.eqv]
  | .bool _, _ => by simp [PyData.eqv]
  | .int _, _ => by simp [PyData.eqv]
  | .str _, _ => by simp [PyData.eqv]
  | .list ds, h => by simp only [PyData.eqv]; exact eqvAll_refl ds (by simpa [PyData.canLay0] using h)
  | .tuple ds, h => by simp only [PyData.eqv]; exact eqvAll_refl ds (by simpa [PyData.canLay0] using h)
  | .dict _, h => by simp [PyData.canLay0] at h
theorem eqvAll_refl : ∀ ds : List PyData, PyData.canLayAll0 ds = true → PyData.eqvAll ds ds = true
  | [], _ => by simp [PyData.eqvAll]
  | d :: ds, h => by
    have h' : d.canLay0 = true ∧ PyData.canLayAll0 ds = true := by simpa [PyData.canLayAll0] using h
    simp only [PyData.eqvAll, eqv_refl d h'.1, eqvAll_refl ds h'.2, Bool.and_self]
end
/-- the same data -/
theorem v_eqR (h1 : Dp K H x d) (h2 : Dp K H y d) (hs : SeqAt.shaped d = true) (k : Q (.bl true) H) : aEq K x y H Q :=
  v_eqD h1 h2 hs hs (by rw [eqv_refl d (SeqAt.canLay_of_shaped hs)]; exact k)
theorem v_neR (h1 : Dp K H x d) (h2 : Dp K H y d) (hs : SeqAt.shaped d = true) (k : Q (.bl false) H) : aNe K x y H Q :=
  v_neD h1 h2 hs hs (by rw [eqv_refl d (SeqAt.canLay_of_shaped hs)]; exact k)
end
/-- an if whose two ways meet again -/
theorem r_wJ {c : Prop} [Decidable c] {t1 t2 : TS} {D : Ends} {σ : L2.St} {H : Hp} (W : L2.St → Hp → Prop) (hk : ∀ σ' H', W σ' H' → D.nx σ' H')
    (h1 : c → ∀ N : L2.St → Hp → Prop, (∀ σ' H', W σ' H' → N σ' H') → t1 { D with nx := N } σ H) (h2 : ¬ c → ∀ N : L2.St → Hp → Prop, (∀ σ' H', W σ' H' → N σ' H') → t2 { D with nx := N } σ H) :
    if decide c = true then t1 D σ H else t2 D σ H := r_w (fun h => h1 h D.nx hk) fun h => h2 h D.nx hk
theorem r_nwJ {c : Prop} [Decidable c] {t1 t2 : TS} {D : Ends} {σ : L2.St} {H : Hp} (W : L2.St → Hp → Prop) (hk : ∀ σ' H', W σ' H' → D.nx σ' H')
    (h1 : ¬ c → ∀ N : L2.St → Hp → Prop, (∀ σ' H', W σ' H' → N σ' H') → t1 { D with nx := N } σ H) (h2 : c → ∀ N : L2.St → Hp → Prop, (∀ σ' H', W σ' H' → N σ' H') → t2 { D with nx := N } σ H) :
    if (!decide c) = true then t1 D σ H else t2 D σ H := r_nw (fun h => h1 h D.nx hk) fun h => h2 h D.nx hk
/-! a heap without one address -/
def wo (D : Addr) (H : Hp) : Hp := fun b => if b = D then none else H b
theorem wo_at {D b : Addr} {H : Hp} {o : HO} (n : b ≠ D) (h : H b = some o) : wo D H b = some o := by unfold wo; rw [if_neg n]; exact h
theorem wo_upd {D : Addr} {H : Hp} {o : HO} : wo D (upd H D o) = wo D H := by
  funext b
  unfold wo
  by_cases h : b = D
  · rw [if_pos h, if_pos h]
  · rw [if_neg h, if_neg h, upd_ne h]
theorem wo_stp {D : Addr} {H : Hp} : Stp [] (wo D H) H := ⟨fun b o e _ => by
  unfold wo at e
  by_cases h : b = D
  · rw [if_pos h] at e; cases e
  · rw [if_neg h] at e; exact e, fun b e => by
  unfold wo
  by_cases h : b = D
  · rw [if_pos h]
  · rw [if_neg h]; exact e⟩
theorem wo_mono {D : Addr} {H H' : Hp} (S : Stp [] H H') : Stp [] (wo D H) (wo D H') := ⟨fun b o e _ => by
  unfold wo at e ⊢
  by_cases h : b = D
  · rw [if_pos h] at e; cases e
  · rw [if_neg h] at e ⊢; exact S.keep0 e, fun b e => by
  unfold wo at e ⊢
  by_cases h : b = D
  · rw [if_pos h]
  · rw [if_neg h] at e ⊢; exact S.dom b e⟩
/-- data gathered in the list at D -/
theorem dp_gather {K : PySem.W.Frag} {D : Addr} {H1 H2 : Hp} {us : List V} {ds : List PyData} {x : V} {d : PyData} {o : HO} (S : Stp [] H1 H2) (h : DpAll K (wo D H1) us ds) (k : Dp K (wo D H2) x d) : DpAll K (wo D (upd H2 D o)) (us ++ [x]) (ds ++ [d]) := by
  rw [wo_upd]
  have h2 := dp_stpAll (wo_mono S) _ _ h
  clear h
  induction us generalizing ds with
  | nil => cases h2; exact .cons k .nil
  | cons u us ih => cases h2 with | cons h1 h2 => exact .cons h1 (ih h2)
theorem st_new {M : List Addr} {H H1 : Hp} {p : Addr} {o : HO} (h : H1 p = none) (a : Stp M H H1) : Stp M H (upd H1 p o) := a.new h
theorem st_trans {M : List Addr} {H H1 H2 : Hp} (b : Stp [] H1 H2) (a : Stp M H H1) : Stp M H H2 := a.then0 b
theorem st_put {M : List Addr} {H H1 : Hp} {p : Addr} {o : HO} (h : H p = none) (a : Stp M H H1) : Stp M H (upd H1 p o) := a.putN h
theorem st_fr {H H' : Hp} {p : Addr} (h : H' p = none) (S : Stp [] H H') : H p = none := S.dom p h
theorem dpall_len {K : PySem.W.Frag} {H : Hp} : ∀ {us : List V} {ds : List PyData}, DpAll K H us ds → us.length = ds.length
  | [], _, h => by cases h; rfl
  | u :: us, _, h => by cases h with | cons h1 h2 => simp [dpall_len h2]
theorem dpall_get {K : PySem.W.Frag} {H : Hp} {us : List V} {ds : List PyData} {i : Nat} {d : PyData} (h : DpAll K H us ds) (e : ds[i]? = some d) : ∃ v, us[i]? = some v ∧ Dp K H v d := by
  induction us generalizing ds i with
  | nil => cases h; cases e
  | cons u us ih => cases h with | cons h1 h2 => cases i with
    | zero => cases e; exact ⟨u, rfl, h1⟩
    | succ i => exact ih h2 e
theorem dpall_map {K : PySem.W.Frag} {H : Hp} {β : Type} {l : List β} {f : β → V} {g : β → PyData} (h : ∀ b ∈ l, Dp K H (f b) (g b)) : DpAll K H (l.map f) (l.map g) := by
  induction l with
  | nil => exact .nil
  | cons x xs ih => exact .cons (h x (by simp)) (ih fun y hy => h y (by simp [hy]))
theorem shaped_list {ds : List PyData} (h : ∀ d ∈ ds, PyData.canLay0 d = true ∧ PyData.depth d ≤ 1) : SeqAt.shaped (.list ds) = true := by
  have h1 : PyData.canLayAll0 ds = true ∧ PyData.depthAll ds ≤ 1 := by
    induction ds with
    | nil => exact ⟨by simp [PyData.canLayAll0], by simp [PyData.depthAll]⟩
    | cons d ds ih =>
      obtain ⟨a, b⟩ := h d (by simp)
      obtain ⟨c, e⟩ := ih fun x hx => h x (by simp [hx])
      exact ⟨by simp only [PyData.canLayAll0, a, c, Bool.and_self], by simp only [PyData.depthAll]; omega⟩
  unfold SeqAt.shaped
  rw [show PyData.canLay0 (.list ds) = true by simp only [PyData.canLay0]; exact h1.1]
  exact decide_eq_true (by simp only [PyData.depth]; omega)
/-! defs with defaults -/
section
variable {P : Program} {w : World} {K : PySem.W.Frag} {mg : Str → Option Value} {base : Heap}
theorem funD_mk {x qual : Str} {st : Stmt} {f T : Addr} {oc oT : Value} {od an oU : Option Addr} {osl tsl : Array (Option Value)} {kV doc pm cdv ct : Value} {its : List Value} {n : Nat} {dvs : List V}
    (l : K.lookup f = some ⟨oc, od, .func (PySem.W.fnOf x qual (defArgs st) (defBody st) (defScope st) (.ref T) kV doc pm an cdv ct), osl⟩) (t : K.lookup T = some ⟨oT, oU, .seq its.toArray n, tsl⟩) (r : Vals dvs its) (hd : dvs ≠ [])
    (c : PySem.W.codeIn K cdv qual = true) (k : PySem.W.keepIn K (.ref f) = true) : FunD K x qual (defArgs st) (defBody st) (defScope st) dvs [] f (PySem.W.fnOf x qual (defArgs st) (defBody st) (defScope st) (.ref T) kV doc pm an cdv ct) :=
  ⟨⟨oc, od, _, kV, doc, pm, an, cdv, ct, osl, rfl, l, c, .inr ⟨hd, T, _, its, n, rfl, t, rfl, r⟩, .inl rfl⟩, k⟩
theorem funD_ok {x qual : Str} {st : Stmt} {dvs : List V} {f : Addr} {fd : FuncData} {N ps : List Str} {k : Nat} {sp : Sp} (F : FunD K x qual (defArgs st) (defBody st) (defScope st) dvs [] f fd) (S : FnScope N ps (defScope st)) (len : ∀ vs H Q E, sp vs H Q E → vs.length = ps.length)
    (hb : ∀ (cdv : Value) (A : Around) (outer : List Env) (s : Shared) (H : Hp) (vs : List V) (Q : VK) (E : XK), Room k (A.deeper (envOfC qual (defScope st) s.heap.objs.size f cdv)) → sp vs H Q E →
      ∃ t, PSs (cxOf CX0 P w K mg base N qual (defScope st) f cdv A outer s H E).nox (defBody st) t ∧ t { nx := fun _ H' => Q .non H', rt := Q } (start N vs) H) : FnOk P w K mg base CX0 (k + 1) f fd ps sp :=
  F.ok S len fun cdv A outer s H vs Q E hr h => by
    obtain ⟨t, h1, h2⟩ := hb cdv A outer s H vs Q E hr h
    exact ⟨t, h1.nox, h2⟩
end
theorem Stp.putI {M : List Addr} {H H1 : Hp} {p C d : Addr} {fs : List (Str × V)} {o : HO} (a : Stp M H H1) (h : p ∈ M) (h1 : H1 p = some (.ins C d fs)) : Stp M H (upd H1 p o) := a.putM h h1 (fun z => z)
theorem Stp.putL {M : List Addr} {H H1 : Hp} {p : Addr} {xs : List V} {o : HO} (a : Stp M H H1) (h : p ∈ M) (h1 : H1 p = some (.lst xs)) : Stp M H (upd H1 p o) := a.putM h h1 (fun z => z)
theorem v_tup1 {H : Hp} {Q : VK} {x : V} (h : ∀ p, H p = none → Q (.ref p) (upd H p (.tup [x]))) : SH.kTup Q [x] H := v_tup (by simp) h
/-- a statement of a def's body -/
def inDef (s : Stmt) (j : Nat) : Stmt := (defBody s).getD j (.Pass ⟨0, 0, 0, 0⟩)
/-- a table that tells nothing as yet -/
theorem tabN_empty {H : Hp} {P : Addr} {nm : Nat → Nat → Str} (h : H P = some (.tbl #[])) : NdefX.TabN H P nm := ⟨#[], h, by trivial, fun pos cv hc => by cases hc⟩
/-! rules with the frag by its name (in a comprehension the context is not to be seen from outside) -/
section
variable {X : Cx}
theorem opK {op : Value → Value → Sem Value} (r : PySem.W.Frag → R2) (K : PySem.W.Frag) (h : OpR X op (r X.K)) (e : X.K = K := by rfl) : OpR X op (r K) := e ▸ h
theorem ixK (r : PySem.W.Frag → R2) (K : PySem.W.Frag) (h : IxR X (r X.K)) (e : X.K = K := by rfl) : IxR X (r K) := e ▸ h
theorem crK {v : Value} (r : PySem.W.Frag → List V → Hp → VK → Prop) (K : PySem.W.Frag) (h : CallR X v (r X.K)) (e : X.K = K := by rfl) : CallR X v (r K) := e ▸ h
theorem slK (r : PySem.W.Frag → V → Option Int → Option Int → Hp → VK → Prop) (K : PySem.W.Frag) (h : SlR X (r X.K)) (e : X.K = K := by rfl) : SlR X (r K) := e ▸ h
theorem piK {tg e : Expr} (r : PySem.W.Frag → TI) (K : PySem.W.Frag) (h : PI X tg e (r X.K)) (e' : X.K = K := by rfl) : PI X tg e (r K) := e' ▸ h
theorem peK {e : Expr} (r : PySem.W.Frag → TE) (K : PySem.W.Frag) (h : PE X e (r X.K)) (e' : X.K = K := by rfl) : PE X e (r K) := e' ▸ h
end
end SH

set_option Elab.async false
set_option linter.all false
set_option maxRecDepth 100000
set_option maxHeartbeats 4000000
/-! SHF: list(reversed(xs)), a new list -/
namespace SH
open PySem PySem.Spec PyProof.Rows L2
section
variable {prog : Program} {w : World} {A : Around} {E : Value → Shared → Prop} {s : Shared}
theorem ext_lrev {R : Result → Shared → Prop} {it l : Addr} {items : Array Value} (hh : A.handled = none) (hit : s.heap.IsRevIter it l ((items.size : Int) - 1)) (hl : s.heap.IsList l items) (hne : l ≠ it) (hn : items.size ≤ sizeLine)
    (S : Addr) (c0 : Nat) (hS : s.heap.get? S = some { cls := .type "list", data := .seq #[] c0 }) (nSi : S ≠ it) (nSl : S ≠ l)
    (hR : ∀ h' tk acc c', (∀ b o, b ≠ S → b ≠ it → s.heap.get? b = some o → h'.get? b = some o) → h'.get? S = some { cls := .type "list", dict := none, data := .seq acc c', slots := #[] } →
      ItemsOf (fun i v => items[items.size - 1 - i]? = some v) acc items.size → R (.ok (.ret .none)) { s with heap := h', toks := tk }) :
    wpAny (model prog w) A.in1 (Builtin.List.listExtendWith (.ref S) (.ref it) .none)
      (fun z s' => match z with | .done u => R (.ok u) s' | .again c' => c'.quiet = true ∧ codeAny (model prog w) A c' R s') (fun e s' => R (.error e) s') s := by
  have W := (Walks.listRev (prog := prog) (w := w) (A := A.in1) hh it l hne items).toS
  have nf : S ∉ [it, l] := by simp only [List.mem_cons, List.not_mem_nil, or_false, not_or]; exact ⟨nSi, nSl⟩
  have ty : s.TypeIs (.ref it) "list_reverseiterator" := Heap.IsRevIter.typeIs (s := s) hit
  have same : Builtin.List.listSameRef (.ref S) (.ref it) = false := by simp [Builtin.List.listSameRef, nSi]
  unfold Builtin.List.listExtendWith; refine wpAny_bind (wpAny_typeOf ty ?_); rw [if_neg (by rw [same]; decide)]
  refine wpAny_bind (wpAny_pyIter_revIter (s := s) hit ?_); refine wpAny_bind (wpAny_holding ?_); unfold Builtin.List.listLengthHint
  refine wpAny_bind (wpAny_specialOf ty RT.nolen_lri ?_); show wpAny _ A.in1 (specialOf (Value.ref it) (Str.ofString "__length_hint__") >>= _) _ _ _
  refine wpAny_bind (wpAny_specialOf ty RT.hint_lri ?_); generalize hid : ("list_reverseiterator.__length_hint__" : String) = id0
  wp_delta; rw [show splitId id0 = some ("list_reverseiterator", "__length_hint__") from by subst hid; decide +kernel]; subst hid
  refine wpAny_bind (wpAny_isInstance (b := true) ty (by rw [isSubtype_type]; kernel_rfl) ?_); refine wpAny_pure ?_; rw [if_neg (by decide)]
  have z0 : ((items.size : Nat) : Int) - 1 - ((0 : Nat) : Int) = (items.size : Int) - 1 := by omega
  refine wpAny_pure ⟨plainId_quiet F.plain_extend_loop _, codeAny_extend_loopS W hn _ nf _ items.size 0 _ _ _ rfl (Nat.zero_le _) ⟨Nat.zero_le _, by rw [z0]; exact hit, hl⟩ hS (ItemsOf.nil _) fun s' acc c' hm hS' ha => ?_⟩
  rw [Moved.eq_with hm]; refine hR s'.heap s'.toks acc c' (fun b o n1 n2 e => hm.heap b o (fun hmem => ?_) e) hS' ha
  rcases List.mem_cons.mp hmem with e' | hmem
  · exact n1 e'
  · exact n2 (List.mem_singleton.mp hmem)
theorem call_list_rev {it l : Addr} {items : Array Value} {Q : Value → Shared → Prop} (hh : A.handled = none) (hit : s.heap.IsRevIter it l ((items.size : Int) - 1)) (hl : s.heap.IsList l items) (hne : l ≠ it) (hn : items.size ≤ sizeLine)
    (hQ : ∀ h' tk acc c', (∀ b o, b ≠ it → s.heap.get? b = some o → h'.get? b = some o) → h'.get? s.heap.objs.size = some { cls := .type "list", dict := none, data := .seq acc c', slots := #[] } →
      ItemsOf (fun i v => items[items.size - 1 - i]? = some v) acc items.size → Q (.ref s.heap.objs.size) { s with heap := h', toks := tk }) :
    wpAny (model prog w) A (call (.type "list") [.ref it]) Q E s := by
  refine callType_codes (Q₁ := fun ob s1 => ob = .ref s.heap.objs.size ∧ s1 = { s with heap := s.heap.push { cls := .type "list", data := .seq #[] } }) F.called_list (F.typeCall_list_1 _) F.entry_list_init (code_list_new _ ⟨rfl, rfl⟩) fun ob s1 h1 => ?_
  obtain ⟨e1, e2⟩ := h1; subst e1; subst e2
  have hS : (s.heap.push { cls := .type "list", data := .seq #[] }).get? s.heap.objs.size = some { cls := .type "list", data := .seq #[] } := by exact Heap.get?_push_size _ rfl
  obtain ⟨oi, hoi, _⟩ := id hit; obtain ⟨ol, hol, hol'⟩ := id hl
  have nSi : s.heap.objs.size ≠ it := Nat.ne_of_gt (Heap.lt_size hoi); have nSl : s.heap.objs.size ≠ l := Nat.ne_of_gt (Heap.lt_size hol)
  refine ⟨⟨_, hS, rfl⟩, F.args_list_init_2 _ _, ?_⟩
  show wpAny _ _ (do let old ← Builtin.List.listItems (.ref s.heap.objs.size); Builtin.List.listUpdate (.ref s.heap.objs.size) (fun _ => #[]); letGo old.toList.reverse; Builtin.List.listExtendWith (.ref s.heap.objs.size) (.ref it) .none) _ _ _
  refine wpAny_bind ?_; unfold Builtin.List.listItems; refine wpAny_bind (wpAny_seqItems hS rfl (wpAny_pure ?_))
  show wpAny _ _ (updateSeq s.heap.objs.size (fun _ => #[]) >>= fun _ => letGo (#[] : Array Value).toList.reverse >>= fun _ => Builtin.List.listExtendWith (.ref s.heap.objs.size) (.ref it) .none) _ _ _
  refine wpAny_bind (wpAny_updateSeq hS rfl ?_); have hS2 := Heap.get?_update_self (Obj.mapSeq (fun _ => (#[] : Array Value))) hS rfl
  have oth : ∀ b o, b ≠ s.heap.objs.size → s.heap.get? b = some o → ((s.heap.push { cls := .type "list", data := .seq #[] }).update s.heap.objs.size (Obj.mapSeq (fun _ => (#[] : Array Value)))).get? b = some o :=
    fun b o hb e => (Heap.get?_update_other _ _ (Ne.symm hb)).trans (Heap.get?_push_of_some _ e)
  refine wpAny_bind (wpAny_letGo ?_)
  refine ext_lrev (A := A.in1) (R := wants (fun r s2 => r = Value.none ∧ Q (.ref s.heap.objs.size) s2) E) (s := { s with heap := (s.heap.push { cls := .type "list", data := .seq #[] }).update s.heap.objs.size (Obj.mapSeq (fun _ => (#[] : Array Value))) }) hh (hit.at fun o e => oth it o (Ne.symm nSi) e) ?_ hne hn _ _ hS2 nSi nSl fun h' tk acc c' hk hS' ha => ?_
  · exact ⟨ol, oth l ol (Ne.symm nSl) hol, hol'⟩
  · exact ⟨rfl, hQ h' tk acc c' (fun b o n2 e => hk b o (Nat.ne_of_lt (Heap.lt_size e)) n2 (oth b o (Nat.ne_of_lt (Heap.lt_size e)) e)) hS' ha⟩
end
/-- list(reversed(xs)) -/
def kLstRev (K : PySem.W.Frag) (Q : VK) : VK := fun v H1 => ∃ (a : Addr) (xs : List V), v = .ref a ∧ SqL K H1 a xs ∧ ∀ q, H1 q = none → Q (.ref q) (upd H1 q (.lst xs.reverse))
def tLstRev (K : PySem.W.Frag) (te : TE) : TE := fun σ H Q => te σ H (kLstRev K Q)
theorem r_lrev {K : PySem.W.Frag} {te : TE} {σ : L2.St} {H : Hp} {Q : VK} (h : te σ H (kLstRev K Q)) : tLstRev K te σ H Q := h
theorem v_lrev {K : PySem.W.Frag} {H : Hp} {Q : VK} {a : Addr} {xs : List V} (h : SqL K H a xs) (k : ∀ q, H q = none → Q (.ref q) (upd H q (.lst xs.reverse))) : kLstRev K Q (.ref a) H := ⟨a, xs, rfl, h, k⟩
section
variable {X : Cx}
theorem pe_lstRev {e : Expr} {te : TE} {p p2 pos pos2 : Pos} (hg : Gl X "list") (hm : X.mg "list" = none) (hg2 : Gl X "reversed") (hm2 : X.mg "reversed" = none) (he : PE X e te) (hc : X.calm = true := by rfl)
    (hs : starEach [e] X.env = (false, eval e X.env) :: starEach [] X.env := by rfl)
    (hs2 : starEach [.Call (.Name "reversed" p2) [e] [] pos2] X.env = (false, eval (.Call (.Name "reversed" p2) [e] [] pos2) X.env) :: starEach [] X.env := by rfl) :
    PE X (.Call (.Name "list" p) [.Call (.Name "reversed" p2) [e] [] pos2] [] pos) (tLstRev X.K te) := by
  refine ⟨fun pins s σ H Q I h => ?_⟩
  refine Call_ (ld_blt I hg hm boot_list (PyProof.Rows.callWith_type1 (args_cons (Call_ (ld_blt I hg2 hm2 PyProof.Rows.boot_reversed (PyProof.Rows.callWith_type1 (args_cons (thn (he.run pins s σ H _ I h) fun u s1 ⟨v, H1, I1, r1, q1⟩ => args_nil ?_) hs) hs rfl))) hs2) hs2 rfl))
  obtain ⟨a, xs, ev, hq, q⟩ := q1; subst ev; obtain rfl : u = Value.ref a := r1; obtain ⟨its, rv, p', hz⟩ := I1.list hq
  refine call_reversed_list p'.isList (args_nil ?_)
  have I2 : Inv X pins σ H1 { s1 with heap := s1.heap.push (revObj a ((its.toArray.size : Int) - 1)) } := by exact I1.kept (t' := s1.toks) fun b o e => Heap.get?_push_of_some _ e
  obtain ⟨f0, f1, f2, f3, f4, f5⟩ := I1.fpOk (H' := H1) (b := s1.heap.objs.size) (Nat.le_refl _) (I1.hok.fresh (Nat.le_refl _)); have hl := p'.isList; obtain ⟨ol, hol, _⟩ := id hl
  have hne : a ≠ s1.heap.objs.size := by exact Nat.ne_of_lt (Heap.lt_size hol)
  have hn : its.toArray.size ≤ sizeLine := by rw [List.size_toArray, ← rv.length]; exact (by exact hz)
  refine call_list_rev (s := { s1 with heap := s1.heap.push (revObj a ((its.toArray.size : Int) - 1)) }) (I1.ok.hd hc) ⟨_, Heap.get?_push_size _ rfl, rfl, rfl⟩ (hl.push _) hne hn fun h' tk acc c' hk hS' hi => ?_
  have z : s1.heap.objs.size ≤ (s1.heap.push (revObj a ((its.toArray.size : Int) - 1))).objs.size := by simp [Heap.push]
  have k1 : ∀ b o, s1.heap.get? b = some o → h'.get? b = some o := fun b o e => hk b o (Nat.ne_of_lt (Heap.lt_size e)) (by exact Heap.get?_push_of_some _ e)
  refine ⟨.ref _, upd H1 (s1.heap.push (revObj a ((its.toArray.size : Int) - 1))).objs.size (.lst xs.reverse), I1.laid (t' := tk) k1 z (show ObjOk X.prog X.w _ _ _ (.lst xs.reverse) from ⟨by rw [List.length_reverse]; exact hz, acc.toList, c', RT.vals_rev rv hi, ?_⟩), rfl, q _ (I1.hok.fresh z)⟩
  rw [Array.toArray_toList]; exact (by exact hS')
end
theorem cutL_from_len {α : Type} (xs : List α) (i : Nat) (hi : Option Int) : (cutL xs (some (i : Int)) hi).length ≤ xs.length - i := by
  unfold cutL
  rw [HT.sIx_nat, List.length_take, List.length_drop]
  omega
theorem r_ckw2 {r : List V → List V → Hp → VK → Prop} {t tk : TA} {σ : L2.St} {H : Hp} {Q : VK} (h : t σ H fun vs H1 => tk σ H1 fun zs H2 => r vs zs H2 Q) : tCKw r t tk σ H Q := h
end SH

set_option Elab.async false
set_option linter.all false
set_option maxRecDepth 100000
set_option maxHeartbeats 4000000
/-! SHG: max(xs, default=d), ints -/
namespace SH
open PySem PySem.Spec PyProof.Rows L2
def rMaxDef (K : PySem.W.Frag) : List V → List V → Hp → VK → Prop := fun vs zs H Q => ∃ (a : Addr) (ns : List Int) (d : Int), vs = [V.ref a] ∧ zs = [V.int d] ∧ SqL K H a (ns.map V.int) ∧ (ns = [] → Q (.int d) H) ∧ ∀ m, m ∈ ns → (∀ y, y ∈ ns → y ≤ m) → Q (.int m) H
theorem foldl_max : ∀ (r : List Int) (n : Int), r.foldl max n ∈ n :: r ∧ ∀ y ∈ n :: r, y ≤ r.foldl max n
  | [], n => ⟨by simp, by simp⟩
  | k :: r, n => by
    obtain ⟨h1, h2⟩ := foldl_max r (max n k)
    rw [List.foldl_cons]
    constructor
    · rcases List.mem_cons.mp h1 with e | e
      · rw [e]
        by_cases z : n ≤ k
        · rw [Int.max_eq_right z]; simp
        · rw [Int.max_eq_left (by omega)]; simp
      · simp [e]
    · intro y hy
      have hm := h2 (max n k) (by simp)
      rcases List.mem_cons.mp hy with e | hy
      · omega
      · rcases List.mem_cons.mp hy with e | hy
        · omega
        · exact h2 y (by simp [hy])
theorem depth_ints : ∀ ns : List Int, PyData.depthAll (ns.map PyData.int) = 0
  | [] => by simp [PyData.depthAll]
  | n :: r => by simp [PyData.depthAll, PyData.depth, depth_ints r]
theorem dp_ints {K : PySem.W.Frag} {H : Hp} : ∀ ns : List Int, DpAll K H (ns.map V.int) (ns.map PyData.int)
  | [] => .nil
  | n :: r => .cons (.int n) (dp_ints r)
section
variable {X : Cx}
theorem cr_maxDef (hc : X.calm = true) (hu : X.A.units + 64 < cLine) : CallRK X (.builtin "max") [Str.ofString "default"] (rMaxDef X.K) := by
  intro pins s σ H vs zs us ws Q I r rz h
  obtain ⟨a, ns, d, rfl, rfl, hs, h0, h1⟩ := h
  obtain rfl := Vals.ref1 r
  obtain ⟨w1, rfl, e1⟩ := vals1 rz
  obtain ⟨t, rfl⟩ := e1
  obtain ⟨its, rv, hl, hz⟩ := I.list hs
  obtain ⟨as, hr⟩ := Dp.readsAll I (ns.map PyData.int) _ its (dp_ints ns) rv
  have al : PySem.W.AlikeAll (ns.map PyData.int) := ⟨fun x hx y hy => by
    obtain ⟨i, _, rfl⟩ := List.mem_map.mp hx
    obtain ⟨j, _, rfl⟩ := List.mem_map.mp hy
    rfl, fun x hx => by
    obtain ⟨i, _, rfl⟩ := List.mem_map.mp hx
    intro z; cases z⟩
  refine PySem.W.max_list_default (xs := ns.map PyData.int) (I.ok.hd hc) hl.isList (by simpa using hr) al (by rw [depth_ints]; omega) (fun e h' tk hk => ⟨.int d, H, I.kept hk, ⟨t, rfl⟩, h0 (by simpa using e)⟩) fun y ys i v h' tk bs e hv hR hk => ?_
  cases ns with
  | nil => cases e
  | cons n r =>
    rw [List.map_cons] at e
    cases e
    rw [PySem.W.maxD_ints] at hR
    obtain ⟨m1, m2⟩ := foldl_max r n
    generalize r.foldl max n = m at hR m1 m2
    cases hR
    exact ⟨.int m, H, I.kept hk, ⟨_, rfl⟩, h1 m m1 m2⟩
end
theorem r_ckw {r : List V → List V → Hp → VK → Prop} {t tk : TA} {σ : L2.St} {H : Hp} {Q : VK} (h : t σ H fun vs H1 => tk σ H1 fun zs H2 => r vs zs H2 Q) : tCKw r t tk σ H Q := h
end SH

set_option Elab.async false
set_option linter.all false
set_option maxRecDepth 100000
set_option maxHeartbeats 4000000
/-! SHI: xs[i] op= e, dicts with tuples as keys, int(truth) -/
namespace SH
open PySem PySem.Spec PyProof.Rows L2
section
variable {K : PySem.W.Frag} {σ : L2.St} {H : Hp} {Q : VK} {D : Ends} {to ti te td ty tv : TE} {tget : V → V → Hp → VK → Prop} {tip : TIp} {tset : TSet} {P : Hp → Prop} {d b : Addr} {kvs : List (List Key × V)} {ks : List Key} {v x y : V}
/-- a, b = x, y -/
def kPar2 (i j : Nat) (σ : L2.St) (P : L2.St → Hp → Prop) : List V → Hp → Prop := fun vs H1 => ∃ v w, vs = [v, w] ∧ P ((σ.set i (some v)).set j (some w)) H1
theorem r_par {i j : Nat} {ta : TA} (h : ta σ H (kPar2 i j σ D.nx)) : tPar i j ta D σ H := h
theorem v_par {i j : Nat} {w : V} {σ1 σ2 : L2.St} {R : L2.St → Hp → Prop} (e1 : σ.set i (some v) = σ1) (e2 : σ1.set j (some w) = σ2) (h : R σ2 H) : kPar2 i j σ R [v, w] H := ⟨v, w, rfl, by rw [e1, e2]; exact h⟩
def kPar3 (i j l : Nat) (σ : L2.St) (P : L2.St → Hp → Prop) : List V → Hp → Prop := fun vs H1 => ∃ u v w, vs = [u, v, w] ∧ P (((σ.set i (some u)).set j (some v)).set l (some w)) H1
theorem r_par3 {i j l : Nat} {ta : TA} (h : ta σ H (kPar3 i j l σ D.nx)) : tPar3 i j l ta D σ H := h
theorem v_par3 {i j l : Nat} {u w : V} {σ1 σ2 σ3 : L2.St} {R : L2.St → Hp → Prop} (e1 : σ.set i (some u) = σ1) (e2 : σ1.set j (some v) = σ2) (e3 : σ2.set l (some w) = σ3) (h : R σ3 H) : kPar3 i j l σ R [u, v, w] H := ⟨u, v, w, rfl, by rw [e1, e2, e3]; exact h⟩
theorem r_augS (h : to σ H fun o H1 => ti σ H1 fun i H2 => tget o i H2 fun x H3 => te σ H3 fun y H4 => tip x y H4 fun z H5 => tset o i z H5 fun H6 => D.nx σ H6) : tAugS to ti te tget tip tset D σ H := h
theorem r_dnewT (h : ∀ p, H p = none → Q (.ref p) (upd H p (.dT []))) : tDNewT σ H Q := h
theorem r_dnewK (h : ∀ p, H p = none → Q (.ref p) (upd H p (.dK []))) : tDNewK σ H Q := h
def kDPut (x y v : V) (H3 : Hp) (P : Hp → Prop) : Prop := ∃ a H4, x = .ref a ∧ DPut H3 a y v H4 ∧ P H4
theorem r_dput (h : tv σ H fun v H1 => td σ H1 fun x H2 => ty σ H2 fun y H3 => kDPut x y v H3 (D.nx σ)) : sDPut td ty tv D σ H := h
theorem v_dputT (hd : H d = some (.dT kvs)) (hk : H b = some (.tup (ks.map kV))) (hl : kvs.length < 1000000) (k : P (upd H d (.dT (putK kvs ks v)))) : kDPut (.ref d) (.ref b) v H P := ⟨d, _, rfl, DPut.t hd hk (Nat.lt_trans hl (by decide)), k⟩
def kDGet1 (ty : TE) (σ : L2.St) (Q : VK) : VK := fun x H1 => ∃ a, x = .ref a ∧ IsD H1 a ∧ ty σ H1 fun y H2 => ∃ o, DGet H2 a y o ∧ Q (o.getD .non) H2
theorem r_dget1 (h : td σ H (kDGet1 ty σ Q)) : tDGet1 td ty σ H Q := h
theorem v_dget1 (hd : H d = some (.dT kvs)) (h : ty σ H fun y H2 => ∃ o, DGet H2 d y o ∧ Q (o.getD .non) H2) : kDGet1 ty σ Q (.ref d) H := ⟨d, rfl, .inr ⟨kvs, .inl hd⟩, h⟩
theorem v_dgetT {R : Option V → Prop} (hd : H d = some (.dT kvs)) (hk : H b = some (.tup (ks.map kV))) (q : R (valV kvs ks)) : ∃ o, DGet H d (.ref b) o ∧ R o := ⟨_, DGet.t hd hk, q⟩
def kDGet (x y : V) (H2 : Hp) (Q : VK) : Prop := ∃ a v, x = .ref a ∧ DGet H2 a y (some v) ∧ Q v H2
theorem r_dgetI (h : td σ H fun x H1 => ty σ H1 fun y H2 => kDGet x y H2 Q) : tDGet td ty σ H Q := h
theorem v_dgetI (hd : H d = some (.dT kvs)) (hk : H b = some (.tup (ks.map kV))) (e : valV kvs ks = some v) (q : Q v H) : kDGet (.ref d) (.ref b) H Q := ⟨d, v, rfl, by rw [← e]; exact DGet.t hd hk, q⟩
def kDIn (y x : V) (H2 : Hp) (Q : VK) : Prop := ∃ a o, x = .ref a ∧ DGet H2 a y o ∧ Q (.bl o.isSome) H2
def kDNi (y x : V) (H2 : Hp) (Q : VK) : Prop := ∃ a o, x = .ref a ∧ DGet H2 a y o ∧ Q (.bl (!o.isSome)) H2
theorem r_din (h : ty σ H fun y H1 => td σ H1 fun x H2 => kDIn y x H2 Q) : tDIn ty td σ H Q := h
theorem r_dnotin (h : ty σ H fun y H1 => td σ H1 fun x H2 => kDNi y x H2 Q) : tDNotIn ty td σ H Q := h
theorem v_din (hd : H d = some (.dT kvs)) (hk : H b = some (.tup (ks.map kV))) (q : Q (.bl (valV kvs ks).isSome) H) : kDIn (.ref b) (.ref d) H Q := ⟨d, _, rfl, DGet.t hd hk, q⟩
theorem v_dnotin (hd : H d = some (.dT kvs)) (hk : H b = some (.tup (ks.map kV))) (q : Q (.bl (!(valV kvs ks).isSome)) H) : kDNi (.ref b) (.ref d) H Q := ⟨d, _, rfl, DGet.t hd hk, q⟩
end
/-- int(truth) or int(int) -/
def rInt1 : List V → Hp → VK → Prop := fun xs H Q => (∃ i, xs = [.int i] ∧ Q (.int i) H) ∨ ∃ k, xs = [.bl k] ∧ Q (.int (if k then 1 else 0)) H
section
variable {X : Cx} {H : Hp} {Q : VK} {i : Int} {b : Bool}
theorem cInt1 : CallR X (.type "int") rInt1 := call_int1
theorem w_intI (k : Q (.int i) H) : rInt1 [.int i] H Q := .inl ⟨i, rfl, k⟩
theorem w_intB (k : Q (.int (b.toNat : Nat)) H) : rInt1 [.bl b] H Q := .inr ⟨b, rfl, by cases b <;> exact k⟩
end
/-! a dict of answers -/
def pk (a b : Nat) : List Key := [.inl (a : Int), .inl (b : Int)]
theorem pk_map {a b : Nat} : (pk a b).map kV = [.int (a : Nat), .int (b : Nat)] := rfl
theorem pk_inj {a b c d : Nat} : pk a b = pk c d ↔ a = c ∧ b = d := by
  unfold pk
  constructor
  · intro h
    injection h with h1 h2
    injection h2 with h2 _
    injection h1 with h1
    injection h2 with h2
    exact ⟨by omega, by omega⟩
  · rintro ⟨rfl, rfl⟩; rfl
/-- what is known behind so many answers -/
def kn (es : List (T3 Nat Nat Bool)) : List (List Key × V) := es.foldl (fun acc e => putK acc (pk e.a e.b) (.bl e.c)) []
theorem kn_app {es : List (T3 Nat Nat Bool)} {e : T3 Nat Nat Bool} : kn (es ++ [e]) = putK (kn es) (pk e.a e.b) (.bl e.c) := by simp [kn]
theorem kn_len (es : List (T3 Nat Nat Bool)) : (kn es).length ≤ es.length := by
  have : ∀ (es : List (T3 Nat Nat Bool)) (acc : List (List Key × V)), (es.foldl (fun acc e => putK acc (pk e.a e.b) (.bl e.c)) acc).length ≤ acc.length + es.length := by
    intro es
    induction es with
    | nil => intro acc; simp
    | cons e es ih => intro acc; have := ih (putK acc (pk e.a e.b) (.bl e.c)); have := length_putK acc (pk e.a e.b) (.bl e.c); simp only [List.foldl_cons, List.length_cons]; omega
  simpa [kn] using this es []
theorem kn_val {es : List (T3 Nat Nat Bool)} {f : Nat → Nat → Bool} (h : ∀ e ∈ es, e.c = f e.a e.b) (a b : Nat) [Decidable (∃ e ∈ es, e.a = a ∧ e.b = b)] : valV (kn es) (pk a b) = if (∃ e ∈ es, e.a = a ∧ e.b = b) then some (.bl (f a b)) else none := by
  have key : ∀ (es : List (T3 Nat Nat Bool)), (∀ e ∈ es, e.c = f e.a e.b) → ((∃ e ∈ es, e.a = a ∧ e.b = b) → valV (kn es) (pk a b) = some (.bl (f a b))) ∧ ((¬ ∃ e ∈ es, e.a = a ∧ e.b = b) → valV (kn es) (pk a b) = none) := by
    intro es h
    obtain ⟨n, hn⟩ : ∃ n, n = es.length := ⟨_, rfl⟩
    induction n generalizing es with
    | zero =>
      have : es = [] := List.length_eq_zero_iff.mp hn.symm
      subst this
      exact ⟨fun ⟨e, he, _⟩ => by simp at he, fun _ => rfl⟩
    | succ n ih =>
      obtain ⟨fs, e, rfl⟩ : ∃ fs e, es = fs ++ [e] := ⟨es.dropLast, es.getLast (by intro z; subst z; simp at hn), (List.dropLast_concat_getLast _).symm⟩
      obtain ⟨i1, i2⟩ := ih fs (fun x hx => h x (by simp [hx])) (by simp at hn; omega)
      rw [kn_app, valV_put]
      have he := h e (by simp)
      by_cases z : pk a b = pk e.a e.b
      · obtain ⟨z1, z2⟩ := pk_inj.mp z
        subst z1; subst z2
        simp only [if_true]
        exact ⟨fun _ => by rw [he], fun n => (n ⟨e, by simp, rfl, rfl⟩).elim⟩
      · rw [if_neg z]
        have z' : ¬ (e.a = a ∧ e.b = b) := fun ⟨p, q⟩ => z (pk_inj.mpr ⟨p.symm, q.symm⟩)
        refine ⟨fun ⟨x, hx, q⟩ => i1 ?_, fun n => i2 fun ⟨x, hx, q⟩ => n ⟨x, by simp [hx], q⟩⟩
        rcases List.mem_append.mp hx with hx | hx
        · exact ⟨x, hx, q⟩
        · rw [List.mem_singleton] at hx; subst hx; exact (z' q).elim
  by_cases c : ∃ e ∈ es, e.a = a ∧ e.b = b
  · rw [if_pos c]; exact (key es h).1 c
  · rw [if_neg c]; exact (key es h).2 c
theorem kn_get {es : List (T3 Nat Nat Bool)} {f : Nat → Nat → Bool} (h : ∀ e ∈ es, e.c = f e.a e.b) {a b : Nat} (hm : ∃ e ∈ es, e.a = a ∧ e.b = b) : valV (kn es) (pk a b) = some (.bl (f a b)) := by
  classical
  rw [kn_val h, if_pos hm]
theorem kn_none {es : List (T3 Nat Nat Bool)} {f : Nat → Nat → Bool} (h : ∀ e ∈ es, e.c = f e.a e.b) {a b : Nat} (hm : ¬ ∃ e ∈ es, e.a = a ∧ e.b = b) : valV (kn es) (pk a b) = none := by
  classical
  rw [kn_val h, if_neg hm]
end SH

set_option Elab.async false
set_option linter.all false
set_option maxRecDepth 100000
set_option maxHeartbeats 4000000
/-! SHJ: (k, p) >= (k', q); t[:2] -/
namespace SH
open PySem PySem.Spec PySem.W PyProof.Rows L2
theorem dataLt_pair {k p k' p' : Int} : dataLt (.tuple [.int k, .int p]) (.tuple [.int k', .int p']) = decide (k < k' ∨ (k = k' ∧ p < p')) := by
  unfold dataLt
  simp only [keyToks, keyToksAll, List.cons_append, List.nil_append]
  rw [lex_self (O := itemOrd)]
  by_cases e : k = k'
  · subst e
    rw [lex_self (O := itemOrd), lex_self (O := itemOrd)]
    by_cases e2 : p = p'
    · subst e2
      rw [lex_self (O := itemOrd), lex_self (O := itemOrd)]
      simp [PyProof.Rows.lexLt]
    · rw [lex_diff (O := itemOrd) (by simpa using e2)]
      show decide (p < p') = _
      exact decide_eq_decide.mpr (by omega)
  · rw [lex_diff (O := itemOrd) (by simpa using e)]
    show decide (k < k') = _
    exact decide_eq_decide.mpr (by omega)
def aGeT (K : PySem.W.Frag) : R2 := fun x y H Q => ∃ a b k p k' p', x = .ref a ∧ y = .ref b ∧ SqT K H a [.int k, .int p] ∧ SqT K H b [.int k', .int p'] ∧ Q (.bl (decide (¬ (k < k' ∨ (k = k' ∧ p < p'))))) H
theorem oGeT {X : Cx} (hu : X.A.units + 64 < cLine) : OpR X (compareOp .GtE) (aGeT X.K) := by
  intro pins s σ H x y v u Q I rx ry h
  obtain ⟨a, b, k, p, k', p', rfl, rfl, h1, h2, q⟩ := h
  obtain ⟨as, r1⟩ := Dp.reads I (.tuple [.int k, .int p]) _ v (.tup h1 (.cons (.int k) (.cons (.int p) .nil))) rx
  obtain ⟨bs, r2⟩ := Dp.reads I (.tuple [.int k', .int p']) _ u (.tup h2 (.cons (.int k') (.cons (.int p') .nil))) ry
  refine ge_data r1 r2 rfl (fun z => by cases z) ?_ ⟨.bl _, H, I, rfl, ?_⟩
  · have : (PyData.tuple [.int k, .int p]).depth ≤ 64 := by show 1 ≤ 64; decide
    omega
  · rw [dataLt_pair]
    have e : (!decide (k < k' ∨ (k = k' ∧ p < p'))) = decide (¬ (k < k' ∨ (k = k' ∧ p < p'))) := decide_not.symm
    rw [e]
    exact q
theorem v_geT {K : PySem.W.Frag} {H : Hp} {Q : VK} {a b : Addr} {k p k' p' : Int} (h1 : SqT K H a [.int k, .int p]) (h2 : SqT K H b [.int k', .int p']) (q : Q (.bl (decide (¬ (k < k' ∨ (k = k' ∧ p < p'))))) H) : aGeT K (.ref a) (.ref b) H Q := ⟨a, b, k, p, k', p', rfl, rfl, h1, h2, q⟩
def aGtT (K : PySem.W.Frag) : R2 := fun x y H Q => ∃ a b k p k' p', x = .ref a ∧ y = .ref b ∧ SqT K H a [.int k, .int p] ∧ SqT K H b [.int k', .int p'] ∧ Q (.bl (decide (k' < k ∨ (k' = k ∧ p' < p)))) H
theorem oGtT {X : Cx} (hu : X.A.units + 64 < cLine) : OpR X (compareOp .Gt) (aGtT X.K) := by
  intro pins s σ H x y v u Q I rx ry h
  obtain ⟨a, b, k, p, k', p', rfl, rfl, h1, h2, q⟩ := h
  obtain ⟨as, r1⟩ := Dp.reads I (.tuple [.int k, .int p]) _ v (.tup h1 (.cons (.int k) (.cons (.int p) .nil))) rx
  obtain ⟨bs, r2⟩ := Dp.reads I (.tuple [.int k', .int p']) _ u (.tup h2 (.cons (.int k') (.cons (.int p') .nil))) ry
  refine gt_data r1 r2 rfl (fun z => by cases z) ?_ ⟨.bl _, H, I, rfl, ?_⟩
  · have : (PyData.tuple [.int k, .int p]).depth ≤ 64 := by show 1 ≤ 64; decide
    omega
  · rw [dataLt_pair]
    exact q
theorem v_gtT {K : PySem.W.Frag} {H : Hp} {Q : VK} {a b : Addr} {k p k' p' : Int} (h1 : SqT K H a [.int k, .int p]) (h2 : SqT K H b [.int k', .int p']) (q : Q (.bl (decide (k' < k ∨ (k' = k ∧ p' < p)))) H) : aGtT K (.ref a) (.ref b) H Q := ⟨a, b, k, p, k', p', rfl, rfl, h1, h2, q⟩
/-- t[:2] of three -/
theorem v_slT2 {K : PySem.W.Frag} {H : Hp} {Q : VK} {a : Addr} {x y z : V} (h : SqT K H a [x, y, z]) (q : ∀ p, H p = none → Q (.ref p) (upd H p (.tup [x, y]))) : rSlT K (.ref a) none (some 2) H Q :=
  ⟨a, _, rfl, h, by rintro ⟨_, h⟩; exact absurd (show (2 : Nat) = 3 from h) (by decide), q⟩
end SH

set_option Elab.async false
set_option linter.all false
set_option maxRecDepth 100000
set_option maxHeartbeats 4000000
/-! SHK: d.update(d2), keys that are tuples; a method whose class is known at the run alone -/
namespace SH
open PySem PySem.Spec PyProof.Rows L2
/-- d.update(d2) -/
def mergK (kvs more : List (List Key × V)) : List (List Key × V) := more.foldl (fun acc p => putK acc p.1 p.2) kvs
theorem mergK_len : ∀ (more kvs : List (List Key × V)), (mergK kvs more).length ≤ kvs.length + more.length
  | [], kvs => by simp [mergK]
  | p :: ps, kvs => by
    have h1 := mergK_len ps (putK kvs p.1 p.2)
    have h2 := length_putK kvs p.1 p.2
    show (mergK (putK kvs p.1 p.2) ps).length ≤ _
    rw [List.length_cons]; omega
theorem mergK_val : ∀ (more kvs : List (List Key × V)) (k : List Key), (∃ p ∈ more, p.1 = k ∧ valV (mergK kvs more) k = some p.2) ∨ ((∀ p ∈ more, p.1 ≠ k) ∧ valV (mergK kvs more) k = valV kvs k)
  | [], kvs, k => .inr ⟨by simp, rfl⟩
  | p :: ps, kvs, k => by
    show (∃ q ∈ p :: ps, q.1 = k ∧ valV (mergK (putK kvs p.1 p.2) ps) k = some q.2) ∨ ((∀ q ∈ p :: ps, q.1 ≠ k) ∧ valV (mergK (putK kvs p.1 p.2) ps) k = valV kvs k)
    rcases mergK_val ps (putK kvs p.1 p.2) k with ⟨q, hq, e1, e2⟩ | ⟨h1, h2⟩
    · exact .inl ⟨q, List.mem_cons_of_mem _ hq, e1, e2⟩
    · rw [valV_put] at h2
      by_cases e : k = p.1
      · rw [if_pos e] at h2
        exact .inl ⟨p, List.mem_cons_self .., e.symm, h2⟩
      · rw [if_neg e] at h2
        refine .inr ⟨fun q hq => ?_, h2⟩
        rcases List.mem_cons.mp hq with rfl | hq
        · exact fun z => e z.symm
        · exact h1 q hq
theorem mem_putK {kvs : List (List Key × V)} {k : List Key} {v : V} {p : List Key × V} (h : p ∈ putK kvs k v) : p = (k, v) ∨ p ∈ kvs := by
  unfold putK at h
  split at h
  · obtain ⟨q, hq, e⟩ := List.mem_map.mp h
    by_cases z : q.1 = k
    · rw [if_pos z] at e
      exact .inl (by rw [← e, z])
    · rw [if_neg z] at e
      exact .inr (by rw [← e]; exact hq)
  · rcases List.mem_append.mp h with h | h
    · exact .inr h
    · exact .inl (List.mem_singleton.mp h)
theorem putK_same {kvs : List (List Key × V)} {k : List Key} {v : V} : (k, v) ∈ putK kvs k v := by
  unfold putK
  split
  · rename_i h
    obtain ⟨q, hq, e⟩ := List.any_eq_true.mp h
    exact List.mem_map.mpr ⟨q, hq, by rw [if_pos (of_decide_eq_true e), of_decide_eq_true e]⟩
  · exact List.mem_append_right _ (List.mem_singleton.mpr rfl)
theorem putK_other {kvs : List (List Key × V)} {k : List Key} {v : V} {p : List Key × V} (h : p ∈ kvs) (n : p.1 ≠ k) : p ∈ putK kvs k v := by
  unfold putK
  split
  · exact List.mem_map.mpr ⟨p, h, by rw [if_neg n]⟩
  · exact List.mem_append_left _ h
theorem KT_all {H : Hp} : ∀ {more : List (List Key × V)} {ps : List (List Key × Addr × Value)} {kvs : List (List Key × V)} {xs : List (List Key × Addr × Value)}, KT H kvs xs → KT H more ps → KT H (mergK kvs more) (storedAllH xs ps)
  | _, _, kvs, xs, h, .nil => h
  | _, _, kvs, xs, h, .cons (a := p) (b := q) (l₁ := more) (l₂ := ps) hq t => by
    obtain ⟨e1, e2, e3⟩ := hq
    show KT H (mergK (putK kvs p.1 p.2) more) (storedAllH (storedH xs q.1 q.2.1 q.2.2) ps)
    exact KT_all (by rw [← e1]; exact h.put p.1 e2 e3) t
def rUpdT : V → List V → Hp → VK → Prop := fun x xs H Q => ∃ (a b : Addr) (kvs more : List (List Key × V)), x = .ref a ∧ xs = [.ref b] ∧ H a = some (.dT kvs) ∧ H b = some (.dT more) ∧ a ≠ b ∧ kvs ≠ [] ∧ kvs.length + more.length ≤ 1000000 ∧ Q .non (upd H a (.dT (mergK kvs more)))
theorem mt_updT {X : Cx} (hu : X.A.units + 1 < cLine) : MtR X "dict.update" rUpdT := by
  intro pins s σ H x xs v us Q I rx rxs h
  obtain ⟨a, b, kvs, more, rfl, rfl, ha, hb, hab, hne, hl, q⟩ := h
  cases rx
  obtain rfl := Vals.ref1 rxs
  obtain ⟨z, hd, xs', rel, dd⟩ := dt_of I.hok ha
  obtain ⟨z2, hd2, ps, rel2, dd2⟩ := dt_of I.hok hb
  have e1 := Paired.length rel
  have e2 := Paired.length rel2
  have hz : xs'.length + ps.length ≤ sizeLine := by rw [← e1, ← e2]; exact Nat.le_trans hl (by decide)
  refine call_update_dictH (knd := tupleKind (mixKind X.prog X.w)) (tupleKind_room_in1 hu) hab hd2 dd dd2 (.inl fun e => hne ?_) hz fun h' dd' _ hs => ?_
  · rw [e] at e1
    exact List.length_eq_zero_iff.mp e1
  · obtain ⟨o, es, ep, hq, h2, h3, h4, _, h5⟩ := dd'
    have hml : (mergK kvs more).length ≤ sizeLine := Nat.le_trans (mergK_len more kvs) (Nat.le_trans hl (by decide))
    have I2 : Inv X pins σ (upd H a (.dT (mergK kvs more))) { s with heap := h' } :=
      d_write (t' := s.toks) I (by rw [ha]; exact True.intro) hs ⟨o, hq⟩ ⟨hml, hd, _, (KT_all rel rel2).keeps (fun c ys ec => (by rw [upd_ne (ne_of ec ha (fun z => nomatch z))]; exact ec)), o, es, ep, hq, h2, h3, h4, h5⟩
    exact ⟨.non, _, I2, rfl, q⟩
theorem w_upd {H : Hp} {Q : VK} {a b : Addr} {kvs more : List (List Key × V)} (ha : H a = some (.dT kvs)) (hb : H b = some (.dT more)) (hab : a ≠ b) (hne : kvs ≠ []) (hl : kvs.length + more.length ≤ 1000000) (q : Q .non (upd H a (.dT (mergK kvs more)))) : rUpdT (.ref a) [.ref b] H Q :=
  ⟨a, b, kvs, more, rfl, rfl, ha, hb, hab, hne, hl, q⟩
theorem ty_dT {K : PySem.W.Frag} {H : Hp} {a : Addr} {kvs : List (List Key × V)} (ha : H a = some (.dT kvs)) : tyV K "dict" (.ref a) H := .inr (.inr (.inl ⟨rfl, .inr ⟨kvs, ha⟩⟩))
/-- either rule will do -/
theorem peOr {X : Cx} {e : Expr} {t u : TE} (h : PE X e t) (k : PE X e u) : PE X e (fun σ H Q => t σ H Q ∨ u σ H Q) := ⟨fun pins s σ H Q I q => q.elim (h.run pins s σ H Q I) (k.run pins s σ H Q I)⟩
/-- either rule will do, by name -/
def tOrE (t u : TE) : TE := fun σ H Q => t σ H Q ∨ u σ H Q
theorem peOrE {X : Cx} {e : Expr} {t u : TE} (h : PE X e t) (k : PE X e u) : PE X e (tOrE t u) := peOr h k
theorem r_orL {t u : TE} {σ : L2.St} {H : Hp} {Q : VK} (h : t σ H Q) : tOrE t u σ H Q := .inl h
theorem r_orR {t u : TE} {σ : L2.St} {H : Hp} {Q : VK} (h : u σ H Q) : tOrE t u σ H Q := .inr h
/-- an if by two tests, whose ways meet again -/
theorem r_waJ {c : Prop} [Decidable c] {te : TT} {t1 t2 : TS} {D : Ends} {σ : L2.St} {H : Hp} (W : L2.St → Hp → Prop) (hk : ∀ σ' H', W σ' H' → D.nx σ' H')
    (h1 : c → ∀ N : L2.St → Hp → Prop, (∀ σ' H', W σ' H' → N σ' H') → te σ H fun b H1 => if b = true then t1 { D with nx := N } σ H1 else t2 { D with nx := N } σ H1) (h2 : ¬ c → ∀ N : L2.St → Hp → Prop, (∀ σ' H', W σ' H' → N σ' H') → t2 { D with nx := N } σ H) :
    if decide c = true then te σ H (fun b H1 => if b = true then t1 D σ H1 else t2 D σ H1) else if false = true then t1 D σ H else t2 D σ H := r_w (fun h => h1 h D.nx hk) fun h => r_F (h2 h D.nx hk)
theorem r_naJ {c : Prop} [Decidable c] {te : TT} {t1 t2 : TS} {D : Ends} {σ : L2.St} {H : Hp} (W : L2.St → Hp → Prop) (hk : ∀ σ' H', W σ' H' → D.nx σ' H')
    (h1 : ¬ c → ∀ N : L2.St → Hp → Prop, (∀ σ' H', W σ' H' → N σ' H') → te σ H fun b H1 => if b = true then t1 { D with nx := N } σ H1 else t2 { D with nx := N } σ H1) (h2 : c → ∀ N : L2.St → Hp → Prop, (∀ σ' H', W σ' H' → N σ' H') → t2 { D with nx := N } σ H) :
    if (!decide c) = true then te σ H (fun b H1 => if b = true then t1 D σ H1 else t2 D σ H1) else if false = true then t1 D σ H else t2 D σ H := r_nw (fun h => h1 h D.nx hk) fun h => r_F (h2 h D.nx hk)
theorem inV_nats {p : Nat} {xs : List Nat} : inV (.int (p : Nat)) (xs.map fun n : Nat => V.int n) = decide (p ∈ xs) := by
  unfold inV
  rw [List.any_map]
  induction xs with
  | nil => simp
  | cons x xs ih =>
    rw [List.any_cons, ih]
    by_cases e : p = x
    · subst e; simp [eqV]
    · have e2 : ¬ ((x : Int) = (p : Int)) := by omega
      simp [eqV, e, e2]
theorem flat_nats {xs : List Nat} : (xs.map fun n : Nat => V.int n).all flatV = true := by
  rw [List.all_map]
  exact List.all_eq_true.mpr fun _ _ => rfl
section
variable {K : PySem.W.Frag} {H : Hp} {Q : VK} {a : Addr} {xs : List Nat} {p : Nat}
theorem v_inN (h : SqL K H a (xs.map fun n : Nat => V.int n)) (k : Q (.bl (decide (p ∈ xs))) H) : rIn K false (.int (p : Nat)) (.ref a) H Q := ⟨a, _, rfl, .inl h, rfl, flat_nats, by rw [inV_nats]; exact k⟩
theorem v_niN (h : SqL K H a (xs.map fun n : Nat => V.int n)) (k : Q (.bl (!decide (p ∈ xs))) H) : rIn K true (.int (p : Nat)) (.ref a) H Q := ⟨a, _, rfl, .inl h, rfl, flat_nats, by rw [inV_nats]; exact k⟩
end
/-! dicts of numbers -/
theorem v_dputK {H : Hp} {P : Hp → Prop} {d : Addr} {kvs : List (Key × V)} {i : Int} {v : V} (hd : H d = some (.dK kvs)) (hl : kvs.length < 1000000) (k : P (upd H d (.dK (putK kvs (.inl i) v)))) : kDPut (.ref d) (.int i) v H P := ⟨d, _, rfl, DPut.k (k := .inl i) hd (Nat.lt_trans hl (by decide)), k⟩
theorem v_dgetK {H : Hp} {Q : VK} {d : Addr} {kvs : List (Key × V)} {i : Int} {v : V} (hd : H d = some (.dK kvs)) (e : valV kvs (.inl i) = some v) (q : Q v H) : kDGet (.ref d) (.int i) H Q := ⟨d, v, rfl, by rw [← e]; exact DGet.k (k := .inl i) hd, q⟩
/-! isinstance of an own class -/
structure IsiC (K : PySem.W.Frag) (C : Addr) : Prop where
  ca : PySem.W.findIn K (.ref C) "__class__" = some (some (.builtin "object.__class__"))
  cn : PySem.W.specialIn K (.builtin "object.__class__") "__get__" = some (some (.builtin "getset_descriptor.__get__"))
  ct : PySem.W.takesIn K (.builtin "object.__class__") = some true
  cm : PySem.W.mroIn K C (.type "object") = some true
theorem isi_ins {K : PySem.W.Frag} {H : Hp} {Q : VK} {a C D dx : Addr} {fs : List (Str × V)} {b : Bool} (ho : H a = some (.ins C dx fs)) (cl : Cls K C) (i : IsiC K C) (kt : PySem.W.kitOne K (.ref C) (.ref D) = some b) (k : Q (.bl b) H) : rIsi K [.ref a, .ref D] H Q :=
  v_isi (.own D) (.base (.ins ho cl i.ca i.cn i.ct i.cm)) kt k
end SH

set_option Elab.async false
set_option linter.all false
set_option maxRecDepth 100000
set_option maxHeartbeats 4000000
/-! SHN: C(e, .., k = v): an instance made with keywords -/
namespace SH
open PySem PySem.Spec PyProof.Rows L2
structure CalCK (P : Program) (w : World) (K : PySem.W.Frag) (mg : Str → Option Value) (base : Heap) (CX : CXT) (k : Nat) (x : Str) (C : Addr) (n : Nat) (ks : List Str) (gV : List V → List V → List V) (sp : Sp) : Prop where
  ex : ∃ (f : Addr) (fd : FuncData) (ps : List Str) (g : List Value → List Value → List Value), mg x = some (.ref C) ∧ L2.Mk K C f ∧ KBn K fd ps (n + 1) ks g gV ∧ FnOk P w K mg base CX k f fd ps sp
section
variable {X : Cx} {CX : CXT} {k j n : Nat} {C : Addr} {sp : Sp} {gV : List V → List V → List V} {ks : List Str} {E : XK} {x : Str} {p pos : Pos} {e : Expr} {es : List Expr} {kws : List Keyword} {t tk : TA}
theorem pe_makeKF (c : CalCK X.prog X.w X.K X.mg X.base CX j x C n ks gV sp) (hr : Room k X.A) (hg : Gl X x) (hx : Passes CX X E) (ha : PA X (e :: es) t) (hkw : PK X kws tk) (hk : j + 1 ≤ k := by decide)
    (hall : (backToKw pos (keywordEach kws X.env)).all (·.1.isSome) = true := by rfl) (hks : (backToKw pos (keywordEach kws X.env)).filterMap (·.1) = ks := by rfl)
    (hdb : (x == ("__debug__" : Str)) = false := by decide) (he : starEach (e :: es) X.env = (false, eval e X.env) :: starEach es X.env := by rfl)
    (hpl : ((backTo pos (starEach (e :: es) X.env)).any (·.1) || (backToKw pos (keywordEach kws X.env)).any (·.1.isNone)) = false := by rfl) :
    PE X (.Call (.Name x p) (e :: es) kws pos) (tMakeN C n ks.length sp gV E t tk) := by
  obtain ⟨f, fd, ps, g, h1, h2, h3, h5⟩ := c.ex
  exact pe_makeN h2 h5 (hr.mono hk) hg h1 h3 hx ha hkw hall hks hdb he hpl
def kMakeN (C : Addr) (n m : Nat) (sp : Sp) (gV : List V → List V → List V) (E : XK) (Q : VK) (vs zs : List V) (H2 : Hp) : Prop := vs.length = n ∧ zs.length = m ∧
  ∀ x dx, H2 x = none → H2 dx = none → dx ≠ x → sp (gV (.ref x :: vs) zs) (upd (upd H2 dx (.own x)) x (.ins C dx [])) (fun v H3 => v = .non ∧ Q (.ref x) H3) E
theorem r_makeN {C : Addr} {n m : Nat} {σ : L2.St} {H : Hp} {Q : VK} (h : t σ H fun vs H1 => tk σ H1 fun zs H2 => kMakeN C n m sp gV E Q vs zs H2) : tMakeN C n m sp gV E t tk σ H Q := h
end
/-! a name of one's own that holds a def of the module -/
section
variable {X : Cx} {k j i : Nat} {f : Addr} {sp : Sp} {x : Str} {p pos : Pos} {e : Expr} {es : List Expr} {t : TA}
theorem pe_callLF (c : Held X.prog X.w X.K X.mg X.base j f sp) (hr : Room k X.A) (hN : X.N[i]? = some x) (hv : Vis X.env.scope x) (ha : PA X (e :: es) t) (hk : j ≤ k := by decide)
    (hdb : (x == ("__debug__" : Str)) = false := by decide) (hcd : (x == ("__classdict__" : Str)) = false := by decide)
    (he : starEach (e :: es) X.env = (false, eval e X.env) :: starEach es X.env := by rfl) (hpl : (backTo pos (starEach es X.env)).any (·.1) = false := by rfl) : PE X (.Call (.Name x p) (e :: es) [] pos) (tCallL i f sp [] (fun _ _ _ => False) t) := by
  obtain ⟨fd, ps, F, h1, h2⟩ := c.ex
  exact pe_callL F (hr.mono hk) hN hv h1 h2 .nil (fun _ _ _ _ _ _ _ z => z.elim) ha hdb hcd he hpl
theorem r_callL {σ : L2.St} {H : Hp} {Q : VK} {E : XK} (hs : σ[i]? = some (some (.ref f))) (k : t σ H fun vs H1 => sp (vs ++ []) H1 Q E) : tCallL i f sp [] E t σ H Q := ⟨hs, k⟩
end
end SH

set_option Elab.async false
set_option linter.all false
set_option maxRecDepth 100000
set_option maxHeartbeats 4000000
/-! SHR: C() where C has no __init__ but object's -/
namespace SH
open PySem PySem.Spec PyProof.Rows L2
structure MkP (K : PySem.W.Frag) (C : Addr) : Prop where
  makes : PySem.W.makesIn K C = true
  init : PySem.W.findIn K (.ref C) "__init__" = some (some (.builtin "object.__init__"))
  kp : PySem.W.keepIn K (.ref C) = true
def tMakeP (C : Addr) : TE := fun σ H Q => ∀ x dx, H x = none → H dx = none → dx ≠ x → Q (.ref x) (upd (upd H dx (.own x)) x (.ins C dx []))
theorem pe_makeP {X : Cx} {C : Addr} {x : Str} {p pos : Pos} (M : MkP X.K C) (hg : Gl X x) (hm : X.mg x = some (.ref C)) (hdb : (x == ("__debug__" : Str)) = false := by decide) : PE X (.Call (.Name x p) [] [] pos) (tMakeP C) := by
  refine ⟨fun pins s σ H Q I h => ?_⟩
  refine wpAny_Call_Name_kw (ld_glob I hg hm ?_ hdb)
  refine PySem.W.callWith_K0 I.kIn M.kp ?_
  have hq := h (s.heap.objs.size + 1) s.heap.objs.size (I.hok.fresh (Nat.le_succ _)) (I.hok.fresh (Nat.le_refl _)) (Nat.ne_of_lt (Nat.lt_succ_self _))
  have I2 := Inv.made (C := C) I
  refine wpAny_call (make_map0 I.kIn M.makes M.init (fun self => PySem.W.Looks.of_pure (PySem.W.oi_bind self)) ?_)
  have hx : ((s.heap.push PySem.W.emptyDict).push (PySem.W.instObj C s.heap.objs.size)).get? (s.heap.objs.size + 1) = some (PySem.W.instObj C s.heap.objs.size) := by heap_get
  refine codeAny_call_builtin PySem.W.oi_plain PySem.W.entry_oi (PySem.W.check_slot PySem.W.oi_kind PySem.W.oi_split ?_ (PySem.W.oi_args _) ?_)
  · have LT : PySem.W.Looks (model X.prog X.w) ((s.heap.push PySem.W.emptyDict).push (PySem.W.instObj C s.heap.objs.size)) (typeOf (.ref (s.heap.objs.size + 1))) (.ref C) := fun A Q E s k q => wpAny_typeOf_ref (k _ _ hx) q
    exact LT.andThen (PySem.W.looks_mroIn I2.kIn (mro_obj M.makes))
  · rw [PySem.W.oi_run]
    exact wpAny_pure ⟨rfl, ⟨V.ref (s.heap.objs.size + 1), _, I2, rfl, hq⟩⟩
/-! membership of data in a list of data -/
def rInD (K : PySem.W.Frag) (neg : Bool) : R2 := fun x y H Q => ∃ d ds, Dp K H x d ∧ Dp K H y (.list ds) ∧ d.canLay0 = true ∧ PyData.canLayAll0 ds = true ∧ d.depth ≤ 8 ∧ Q (.bl (if neg then !(ds.any fun e => PyData.eqv e d) else ds.any fun e => PyData.eqv e d)) H
theorem op_inD {X : Cx} (hu : X.A.units + 64 < cLine) : OpR X (compareOp .In) (rInD X.K false) := by
  intro pins s σ H x y v u Q I rx ry h
  obtain ⟨d, ds, hd, he, sd, se, hdp, q⟩ := h
  obtain ⟨as, r1⟩ := Dp.reads I d x v hd rx
  obtain ⟨bs, r2⟩ := Dp.reads I _ y u he ry
  refine SeqAt.in_list_reads r2 r1 se sd ?_ ⟨.bl _, H, I, rfl, q⟩
  have := Nat.min_le_right (PyData.depthAll ds) d.depth
  omega
theorem op_notInD {X : Cx} (hu : X.A.units + 64 < cLine) : OpR X (compareOp .NotIn) (rInD X.K true) := by
  intro pins s σ H x y v u Q I rx ry h
  obtain ⟨d, ds, hd, he, sd, se, hdp, q⟩ := h
  obtain ⟨as, r1⟩ := Dp.reads I d x v hd rx
  obtain ⟨bs, r2⟩ := Dp.reads I _ y u he ry
  refine SeqAt.notIn_list_reads r2 r1 se sd ?_ ⟨.bl _, H, I, rfl, q⟩
  have := Nat.min_le_right (PyData.depthAll ds) d.depth
  omega
section
variable {K : PySem.W.Frag} {H : Hp} {α : Type} [Enc α] {p : Addr} {vs : List V} {xs : List α} {v : V} {x : α} {Q : VK}
theorem v_notInE (h1 : Is K H v x) (h2 : SqL K H p vs) (h3 : IsL K H vs xs) (k : ∀ b : Bool, (b = true ↔ x ∈ xs) → Q (.bl (!b)) H) (hn : Enc.n α ≤ 8 := by decide) : rInD K true v (.ref p) H Q := by
  refine ⟨Enc.d x, xs.map Enc.d, h1, .lst h2 h3, Enc.lay x, Enc.layAll xs, Nat.le_trans (Enc.deep x) hn, ?_⟩
  rw [if_pos rfl]
  refine k _ ?_
  rw [List.any_map, List.any_eq_true]
  constructor
  · rintro ⟨y, hy, e⟩
    have e' : PyData.eqv (Enc.d y) (Enc.d x) = true := e
    rw [Enc.eqv] at e'
    obtain rfl := @of_decide_eq_true _ (Enc.dec y x) e'
    exact hy
  · intro h
    refine ⟨x, h, ?_⟩
    show PyData.eqv (Enc.d x) (Enc.d x) = true
    rw [Enc.eqv]
    exact @decide_eq_true _ (Enc.dec x x) rfl
end
end SH

set_option Elab.async false
set_option linter.all false
set_option maxRecDepth 100000
set_option maxHeartbeats 4000000
/-! SHT: set(xs), xs a list of ints -/
namespace SH
open PySem PySem.Spec PyProof.Rows L2
section
variable {P : Program} {w : World} {A : Around} {E : Value → Shared → Prop} {s : Shared}
abbrev set0O (w : World) : Obj := { cls := .type "set", dict := none, data := .set #[] 0 (.fresh 0 0 (!w.params.followText "set-order")) }
set_option maxHeartbeats 8000000 in
theorem call_set_lst {l : Addr} {items : Array Value} (ns : List Int) {Q : Value → Shared → Prop} (hh : A.handled = none) (hl : s.heap.IsList l items) (hit : IntsAre items.toList ns) (hb : ns.length + 1 < scanBound)
    (k : ∀ (h' : Heap) (tk c : Nat), SetR w h' s.heap.objs.size (fun j => decide (j ∈ ns)) c → c ≤ ns.length → (∀ b o, s.heap.get? b = some o → h'.get? b = some o) → Q (.ref s.heap.objs.size) { s with heap := h', toks := tk }) :
    wpAny (model P w) A (call (.type "set") [.ref l]) Q E s := by
  have hisz : items.size = ns.length := by have q := IntsAre.length hit; rw [Array.length_toList] at q; exact q
  obtain ⟨c, tl, hmro⟩ := F.called_set.mro; have hmade := F.called_set.made; have hsub := F.called_set.sub
  refine wpAny_call (codeAny_of_tree ?_); show wpAny _ _ (callAny (.type "set") _) _ _ _
  refine wpAny_pure ⟨Code.quiet_builtin _ (by decide +kernel), codeAny_builtin F.entry_type_call ?_⟩; rw [Around.under_plain (weight_type_call_type "set" [.ref l] []) rfl]
  have h1 := F.called_set.notType; have h2 := F.called_set.canCreate; have hct := F.typeCall_set_1 (.ref l)
  (repeat (any_goals (first | assumption | wp_step)))
  refine codeAny_mono (code_set_led1 (.ref l) (E := E) (Q₁ := fun obj s1 => obj = .ref s.heap.objs.size ∧ s1 = { s with heap := s.heap.push (set0O w) }) ⟨rfl, rfl⟩) fun r s1 hr => ?_
  match r, hr with
  | .error e, hr => exact hr
  | .ok .next, hr => exact hr.elim
  | .ok .brk, hr => exact hr.elim
  | .ok .cont, hr => exact hr.elim
  | .ok (.ret obj), hr =>
    obtain ⟨e1, e2⟩ := hr; subst e1; subst e2
    have hS : (s.heap.push (set0O w)).get? s.heap.objs.size = some (set0O w) := Heap.get?_push_size _ rfl
    have hT : Shared.TypeIs { s with heap := s.heap.push (set0O w) } (.ref s.heap.objs.size) "set" := ⟨_, hS, rfl⟩
    have hli := F.called_set.init.lookup; have hbi := F.called_set.init.bind (.ref s.heap.objs.size)
    (repeat (any_goals (first | assumption | wp_step)))
    refine codeAny_mono (codeAny_call_builtin (R := wants (fun r s2 => r = .none ∧ ∃ h' tk c, s2 = { s with heap := h', toks := tk } ∧ SetR w h' s.heap.objs.size (fun j => decide (j ∈ ns)) c ∧ c ≤ ns.length ∧ (∀ b o, s.heap.get? b = some o → h'.get? b = some o)) E) F.called_set.init.plain F.entry_set_init (check_set_init_1 hT ?_)) fun r2 s2 hr2 => ?_
    · obtain ⟨⟨ocls, odict, odata, oslots⟩, hol, hcl, nl, hdl⟩ := id hl
      simp only at hcl hdl; subst hcl; subst hdl
      have hol' : (s.heap.push (set0O w)).get? l = some { cls := .type "list", dict := odict, data := .seq items nl, slots := oslots } := Heap.get?_push_of_some _ hol
      have hsls := F.sub_list_set; have hslf := F.sub_list_frozenset
      have hne : (Value.type "list" == Value.type "dict") = false := by decide
      have hl1 : (s.heap.push (set0O w)).IsList l items := ⟨_, hol', rfl, nl, rfl⟩
      unfold Builtin.«set.__init__» noKeywords; unfold Builtin.Frozenset.updateFrom
      generalize hPI : pyIter = PI
      wp_walk; subst hPI
      refine wpAny_pyIter_list hl1 ?_; refine wpAny_bind (wpAny_runValue ?_)
      have hlS : l < s.heap.objs.size := Heap.lt_size hol; have hh3 : A.in1.in1.in1.handled = none := by simp [hh]
      have hz1 : (s.heap.push (set0O w)).objs.size = s.heap.objs.size + 1 := Heap.size_push ..
      have hneI : (s.heap.push (set0O w)).objs.size ≠ l := by rw [hz1]; exact Nat.ne_of_gt (Nat.lt_succ_of_lt hlS)
      have hSf : s.heap.objs.size ∉ [(s.heap.push (set0O w)).objs.size, l] := by rw [hz1]; simp only [List.mem_cons, List.not_mem_nil, or_false, not_or]; exact ⟨Nat.ne_of_lt (Nat.lt_succ_self _), Nat.ne_of_gt hlS⟩
      have hval : ∀ (i : Nat) (v : Value), items[i]? = some v → ∃ k t, ns[i]? = some k ∧ v = .int k t := fun i v hv => by
        have hi : i < ns.length := by have := (Array.getElem?_eq_some_iff.mp hv).1; omega
        obtain ⟨t, e⟩ := PyProof.Rows.IntsAre.int_at hit i v (by rw [Array.getElem?_toList]; exact hv)
        exact ⟨ns[i], t, List.getElem?_eq_getElem hi, by rw [e, List.getD_eq_getElem?_getD, List.getElem?_eq_getElem hi] <;> rfl⟩
      refine set_update_ints ((Walks.list (prog := P) (w := w) hh3 _ l hneI.symm items).toS) s.heap.objs.size hSf ns hisz hb hval (items.size - 0) 0 _ (by omega) (Nat.zero_le _) ⟨⟨_, Heap.get?_push_size _ rfl, rfl, rfl⟩, hl1.push _⟩ ⟨0, Nat.le_refl 0, setR_new_at (Heap.get?_push_of_some _ hS)⟩ ?_
      intro s' c' hm hc' hS'
      obtain ⟨h', g2, d', tk', os'⟩ := s'
      obtain rfl : g2 = s.gens := hm.gens
      obtain rfl : d' = s.drawn := hm.drawn
      obtain rfl : os' = s.os := hm.os
      show wpAny _ _ _ _ _ _; refine wpAny_pure ?_; show wpAny _ _ (ret Value.none) _ _ _
      rw [hisz] at hc'
      refine wpAny_pure ⟨rfl, h', tk', c', rfl, hS', hc', fun b o e => hm.heap b o ?_ (Heap.get?_push_of_some _ (Heap.get?_push_of_some _ e))⟩
      have hb0 : b < s.heap.objs.size := Heap.lt_size e
      rw [hz1]; simp only [List.mem_cons, List.not_mem_nil, or_false, not_or]; exact ⟨Nat.ne_of_lt hb0, Nat.ne_of_lt (Nat.lt_succ_of_lt hb0)⟩
    · match r2, hr2 with
      | .error e, hr2 => exact hr2
      | .ok .next, hr2 => exact hr2.elim
      | .ok .brk, hr2 => exact hr2.elim
      | .ok .cont, hr2 => exact hr2.elim
      | .ok (.ret r), hr2 =>
        obtain ⟨e1, h', tk, c', e2, hS', hc', hk'⟩ := hr2
        subst e1; subst e2
        (repeat (any_goals (first | assumption | wp_step)))
        exact k _ _ _ hS' hc' hk'
end
/-- set(xs) -/
def rSetL (K : PySem.W.Frag) (w : World) : List V → Hp → VK → Prop := fun vs H Q => ∃ (a : Addr) (ns : List Int), vs = [V.ref a] ∧ SqL K H a (ns.map V.int) ∧ ns.length ≤ 1000 ∧
  ∀ (p : Addr) (c : Nat), H p = none → c ≤ ns.length → Q (.ref p) (upd H p (SetO w p (fun j => decide (j ∈ ns)) c))
theorem cr_setL {X : Cx} (hc : X.calm = true) : CallR X (.type "set") (rSetL X.K X.w) := by
  intro pins s σ H vs us Q I r h
  obtain ⟨a, ns, rfl, hq, hl, q⟩ := h
  rw [Vals.ref1 r]
  obtain ⟨its, rv, pt, hz⟩ := I.list hq
  have hi : IntsAre its.toArray.toList ns := ints_of_vals rv
  refine call_set_lst ns (I.ok.hd hc) pt.isList hi (by unfold scanBound; omega) fun h' tk c R1 hcn k => ?_
  exact ⟨.ref _, upd H s.heap.objs.size (SetO X.w s.heap.objs.size (fun j => decide (j ∈ ns)) c), I.laid (t' := tk) k (Nat.le_refl _) (setO_new R1), rfl, q _ c (I.hok.fresh (Nat.le_refl _)) hcn⟩
/-- sorted(set(xs)), xs ints -/
def kSortSet (K : PySem.W.Frag) (w : World) (Q : VK) : VK := fun v H1 => ∃ (a : Addr) (ns : List Int), v = .ref a ∧ SqL K H1 a (ns.map V.int) ∧ ns.length < 64 ∧
  ∀ (ms : List Int) (p q : Addr) (o : HO), ms.Pairwise (· < ·) → (∀ k, k ∈ ms ↔ k ∈ ns) → ms.length ≤ ns.length → H1 p = none → (upd H1 p o) q = none → Q (.ref q) (upd (upd H1 p o) q (.lst (ms.map V.int)))
end SH

set_option Elab.async false
set_option linter.all false
set_option maxRecDepth 100000
set_option maxHeartbeats 4000000
/-! SHX: defs that raise, try, what is caught -/
namespace SH
open PySem PySem.Spec PyProof.Rows L2
section
variable {X : Cx} {CX : CXT} {k j : Nat} {sp : Sp} {dvs : List V} {E : L2.St → XK} {x : Str} {p pos : Pos} {e : Expr} {es : List Expr} {t : TA}
/-- a call in a try: what is raised is wished for at the slots -/
theorem pe_callX (c : Cal X.prog X.w X.K X.mg X.base CX j x dvs sp) (hr : Room k X.A) (hg : Gl X x) (hx : ∀ σ, PassesAt CX X σ (E σ)) (ha : PA X (e :: es) t) (hk : j ≤ k := by decide)
    (hdb : (x == ("__debug__" : Str)) = false := by decide) (he : starEach (e :: es) X.env = (false, eval e X.env) :: starEach es X.env := by rfl) (hpl : (backTo pos (starEach es X.env)).any (·.1) = false := by rfl) :
    PE X (.Call (.Name x p) (e :: es) [] pos) (tCallSD sp dvs E t) := by
  obtain ⟨f, fd, ps, ds, h1, h2, h3, h4, h5⟩ := c.ex
  exact pe_callSD h5 (hr.mono hk) hg h1 h2 h3 h4 hx ha hdb he hpl
theorem r_callX {σ : L2.St} {H : Hp} {Q : VK} (h : t σ H fun vs H1 => sp (vs ++ dvs) H1 Q (E σ)) : tCallSD sp dvs E t σ H Q := h
/-- isinstance of what a suite holds, an error without a dict -/
def rIsX (K : PySem.W.Frag) (cls : Value) (d : Option Addr) (a : Addr) : List V → Hp → VK → Prop := fun xs H Q => ∃ D, cls = .ref D ∧ d = none ∧ ExcC K D ∧ rIsE K D a xs H Q
theorem call_isX {a : Addr} {oe : Obj} {cls : Value} {d : Option Addr} {pn : List (Addr × Obj)} (hz : Zc cls d oe) (hf : ∃ vs, oe.data = .fields vs) : CallR (X.suite a ((a, oe) :: pn)) (.builtin "isinstance") (rIsX X.K cls d a) := by
  intro pins s σ H xs us Q I r h
  obtain ⟨D, rfl, rfl, C, h⟩ := h
  exact call_isE C hz hf pins s σ H xs us Q I r h
theorem v_isX {K : PySem.W.Frag} {D C a : Addr} {H : Hp} {Q : VK} {b : Bool} (hc : ExcC K D) (h : PySem.W.kitOne K (.ref D) (.ref C) = some b) (k : Q (.bl b) H) : rIsX K (.ref D) none a [.ref a, .ref C] H Q :=
  ⟨D, rfl, rfl, hc, .ref C, .ref C, b, rfl, fun _ r => r, h, k⟩
theorem v_isXT {K : PySem.W.Frag} {D a : Addr} {n : String} {H : Hp} {Q : VK} {b : Bool} (hc : ExcC K D) (h : PySem.W.kitOne K (.ref D) (.type n) = some b) (k : Q (.bl b) H) : rIsX K (.ref D) none a [.ref a, .ty n] H Q :=
  ⟨D, rfl, rfl, hc, .ty n, .type n, b, rfl, fun _ r => r, h, k⟩
/-- what an except clause asks: the class is caught -/
theorem r_catch {K : PySem.W.Frag} {c cls : Value} {d : Option Addr} {i : Nat} {ts : Addr → Value → Option Addr → TS} {Wo : WX} {D : Ends} {σ : L2.St} {H : Hp} (h : PySem.W.exmOne K cls c = some true)
    (k : ∀ a, H a = none → ts a cls d { nx := fun σ' H' => D.nx (σ'.set i none) H', rt := D.rt, bk := fun σ' H' => D.bk (σ'.set i none) H', ct := fun σ' H' => D.ct (σ'.set i none) H' } (σ.set i (some (.ref a))) H) : wAs K c i ts Wo D cls d σ H :=
  ⟨true, h, fun _ => k, fun z => by cases z⟩
end
end SH

set_option Elab.async false
set_option linter.all false
set_option maxRecDepth 100000
set_option maxHeartbeats 4000000
/-! SHS: texts -/
namespace SH
open PySem PySem.Spec PyProof.Rows L2
theorem v_isiSS {K : PySem.W.Frag} {H : Hp} {Q : VK} {s : Str} (k : Q (.bl true) H) : rIsi K [.str s, .ty "str"] H Q := ⟨.str s, .ty "str", .type "str", .type "str", true, rfl, .ty _, .base (.str s), by rfl, k⟩
theorem ty_str {K : PySem.W.Frag} {H : Hp} {s : Str} : tyV K "str" (.str s) H := rfl
/-! zip of two tuples -/
section
variable {K : PySem.W.Frag} {a b : Addr} {xs ys : List V}
theorem walk_zipT {n : Nat} (hn : n = min xs.length ys.length) : Walk (RZ.ItzT K a b) n (fun H => SqT K H a xs ∧ SqT K H b ys) (YPair (fun i => xs[i]?) (fun i => ys[i]?)) := by
  subst hn
  refine ⟨fun i _ hi q => ?_, fun _ q => ⟨xs, ys, q.1, q.2, by omega⟩, fun i H v H' _ q y => ?_⟩
  · have h1 : i < xs.length := by omega
    have h2 : i < ys.length := by omega
    exact ⟨xs, ys, xs[i], ys[i], q.1, q.2, by simp [h1], by simp [h2]⟩
  · obtain ⟨T, x, z, h1, h2, h3, h4, h5⟩ := y
    exact ⟨T, x, z, h1, h2, h3, h4 xs q.1, h5 ys q.2⟩
def kZipA (K : PySem.W.Frag) (R : It → Hp → Prop) : List V → Hp → Prop := fun vs H1 => ∃ a b xs ys, vs = [.ref a, .ref b] ∧ ((SqL K H1 a xs ∧ SqL K H1 b ys ∧ R (Itz K a b) H1) ∨ (SqT K H1 a xs ∧ SqT K H1 b ys ∧ R (RZ.ItzT K a b) H1))
theorem r_iZipA {as : TA} {σ : L2.St} {H : Hp} {R : It → Hp → Prop} (h : as σ H (kZipA K R)) : RZ.iZipA K as σ H R := h
theorem v_zipAT {H : Hp} {R : It → Hp → Prop} (h1 : SqT K H a xs) (h2 : SqT K H b ys) (k : R (RZ.ItzT K a b) H) : kZipA K R [.ref a, .ref b] H := ⟨a, b, xs, ys, rfl, .inr ⟨h1, h2, k⟩⟩
end
end SH

set_option Elab.async false
set_option linter.all false
set_option maxRecDepth 100000
set_option maxHeartbeats 4000000
/-! SHY: exceptions with fields: made by an own __init__, raised, caught, read; methods and makes that raise in a try -/
namespace SH
open PySem PySem.Spec PyProof.Rows L2
/-- the exception class at C, by its name x, made by an __init__ that keeps sp -/
structure CalE (P : Program) (w : World) (K : PySem.W.Frag) (mg : Str → Option Value) (base : Heap) (k : Nat) (x : Str) (C : Addr) (sp : Sp) : Prop where
  ox : OexC K C
  ex : ∃ (f : Addr) (fd : FuncData) (ps : List Str), mg x = some (.ref C) ∧ PySem.W.findIn K (.ref C) "__init__" = some (some (.ref f)) ∧ PySem.W.typeIn K (.ref f) = some (.type "function") ∧ Binds K fd ps [] ∧ FnOk P w K mg base CX0 k f fd ps sp
section
variable {X : Cx} {CX : CXT} {k j : Nat} {C : Addr} {sp : Sp} {dvs : List V} {E : L2.St → XK} {x m : Str} {p pos apos : Pos} {e o : Expr} {es : List Expr} {ta : TE} {t : TA}
theorem pmk_oexF (c : CalE X.prog X.w X.K X.mg X.base j x C sp) (hr : Room k X.A) (hg : Gl X x) (ha : PA X (e :: es) t) (hk : j + 1 ≤ k := by decide)
    (hdb : (x == ("__debug__" : Str)) = false := by decide) (he : starEach (e :: es) X.env = (false, eval e X.env) :: starEach es X.env := by rfl) (hpl : (backTo pos (starEach es X.env)).any (·.1) = false := by rfl) :
    PMk X (.Call (.Name x p) (e :: es) [] pos) (tMkO C sp [] t) := by
  obtain ⟨f, fd, ps, h1, h2, h3, h4, h5⟩ := c.ex
  exact pmk_oex c.ox h2 h3 h5 (hr.mono hk) h4 .nil pass0 hg h1 ha hdb he hpl
def tMethSD (C : Addr) (m : Str) (sp : Sp) (dvs : List V) (E : L2.St → XK) (ta : TE) (t : TA) : TE := fun σ H Q => ta σ H fun x H1 => ∃ a dx fs, x = .ref a ∧ H1 a = some (.ins C dx fs) ∧ fs.lookup m = none ∧ t σ H1 fun vs H2 => sp (x :: (vs ++ dvs)) H2 Q (E σ)
theorem pe_methX {pl : Sem Bool} (he : PE X o ta) (c : CalM X.prog X.w X.K X.mg X.base CX j C m dvs sp) (hr : Room k X.A) (hx : ∀ σ, PassesAt CX X σ (E σ)) (ha : PA X (e :: es) t) (hk : j ≤ k := by decide)
    (hst : starEach (e :: es) X.env = (false, eval e X.env) :: starEach es X.env := by rfl) (hpl : (backTo pos (starEach es X.env)).any (·.1) = false := by rfl)
    (ht : eval (.Call (.Attribute o m apos) (e :: es) [] pos) X.env = (do
      let ov ← eval o X.env; standAt apos.atName
      let (f, first) ← holding [ov] (getMethod ov m pl); callWith pos f first (backTo pos (starEach (e :: es) X.env)) (backToKw pos (keywordEach [] X.env))) := by rfl) :
    PE X (.Call (.Attribute o m apos) (e :: es) [] pos) (tMethSD C m sp dvs E ta t) := by
  obtain ⟨f, fd, ps, ds, h1, h3, h4, h5⟩ := c.ex
  refine ⟨fun pins s σ H Q I h => PySem.W.methodCall_KW (pl := pl) (thn (he.run pins s σ H _ I h) fun u s1 ⟨x, H1, I1, rx, a, dx, fs, ex, ea, l, q⟩ => ?_) ht⟩
  subst ex; obtain rfl : u = Value.ref a := rx
  refine getmeth_ok I1 ea c.cl h1 l (PySem.W.callWith_K (first := [.ref a]) (h₀ := X.base) I.ok.mod.kin h1.kp (thn (ha.run pos pins s1 σ H1 _ I1 q) fun us s2 ⟨vs, H2, I2, r, q2⟩ => ⟨I2.kIn, ?_⟩) hst hpl)
  exact run_fnSD (us := .ref a :: us) (vs := .ref a :: vs) h5 (hr.mono hk) h3 h4 (hx σ) I2 (.cons rfl r) q2
theorem pe_methX0 {pl : Sem Bool} (he : PE X o ta) (c : CalM X.prog X.w X.K X.mg X.base CX j C m dvs sp) (hr : Room k X.A) (hx : ∀ σ, PassesAt CX X σ (E σ)) (hk : j ≤ k := by decide)
    (ht : eval (.Call (.Attribute o m apos) [] [] pos) X.env = (do
      let ov ← eval o X.env; standAt apos.atName
      let (f, first) ← holding [ov] (getMethod ov m pl); callWith pos f first (backTo pos (starEach [] X.env)) (backToKw pos (keywordEach [] X.env))) := by rfl) :
    PE X (.Call (.Attribute o m apos) [] [] pos) (tMethSD C m sp dvs E ta tNil) := by
  obtain ⟨f, fd, ps, ds, h1, h3, h4, h5⟩ := c.ex
  refine ⟨fun pins s σ H Q I h => PySem.W.methodCall_KW (pl := pl) (thn (he.run pins s σ H _ I h) fun u s1 ⟨x, H1, I1, rx, a, dx, fs, ex, ea, l, q⟩ => ?_) ht⟩
  subst ex; obtain rfl : u = Value.ref a := rx
  exact getmeth_ok I1 ea c.cl h1 l (PySem.W.callWith_K0 (first := [.ref a]) I1.kIn h1.kp (run_fnSD (us := [.ref a]) (vs := [.ref a]) h5 (hr.mono hk) h3 h4 (hx σ) I1 (.cons rfl .nil) q))
def tMakeSD (C : Addr) (sp : Sp) (dvs : List V) (E : L2.St → XK) (t : TA) : TE := fun σ H Q => t σ H fun vs H1 => ∀ x dx, H1 x = none → H1 dx = none → dx ≠ x → sp (.ref x :: (vs ++ dvs)) (upd (upd H1 dx (.own x)) x (.ins C dx [])) (fun v H2 => v = .non ∧ Q (.ref x) H2) (E σ)
theorem run_makeSD {f : Addr} {fd : FuncData} {ps : List Str} {ds : List Value} {pins : List (Addr × Obj)} {σ : L2.St} {H : Hp} {s : Shared} {Q : VK} {us : List Value} {vs : List V} (M : L2.Mk X.K C f) (F : FnOk X.prog X.w X.K X.mg X.base CX k f fd ps sp) (hr : Room (k + 1) X.A) (hb : Binds X.K fd ps ds) (hd : Vals dvs ds)
    (hx : PassesAt CX X σ (E σ)) (I : Inv X pins σ H s) (r : Vals vs us) (h : ∀ x dx, H x = none → H dx = none → dx ≠ x → sp (.ref x :: (vs ++ dvs)) (upd (upd H dx (.own x)) x (.ins C dx [])) (fun v H2 => v = .non ∧ Q (.ref x) H2) (E σ)) :
    wpAny (model X.prog X.w) X.A (call (.ref C) us) (EP X pins σ Q) X.xe s := by
  have hq := h (s.heap.objs.size + 1) s.heap.objs.size (I.hok.fresh (Nat.le_succ _)) (I.hok.fresh (Nat.le_refl _)) (Nat.ne_of_lt (Nat.lt_succ_self _)); have I2 := Inv.made (C := C) I
  have r2 : Vals (V.ref (s.heap.objs.size + 1) :: (vs ++ dvs)) (Value.ref (s.heap.objs.size + 1) :: (us ++ ds)) := .cons rfl (r.append hd); have hl : (Value.ref (s.heap.objs.size + 1) :: us ++ ds).length = ps.length := by have e := r2.length; rw [F.len _ _ _ _ hq] at e; exact e.symm
  refine wpAny_call (make_map (f := f) I.kIn M.makes M.init (beq_iff_eq.mp M.fn) (codeAny_mono (F.run _ X.stack _ _ ⟨Value.ref (s.heap.objs.size + 1) :: us, []⟩ (Value.ref (s.heap.objs.size + 1) :: (us ++ ds)) _ _ (E σ) (hr.make C us []) (I2.env0.make C us []) (hb _ (Value.ref (s.heap.objs.size + 1) :: us) I2.kIn hl) r2 hq) fun r s' hq' => ?_))
  match r, hq' with
  | .error e, hq' => exact hx pins _ _ e s' I2 hq'
  | .ok (.ret u), hq' => obtain ⟨v, H', I3, rv, ev, q3⟩ := I2.after hq'; subst ev; exact ⟨rv, ⟨V.ref (s.heap.objs.size + 1), H', I3, rfl, q3⟩⟩
  | .ok .next, hq' => exact False.elim hq'
  | .ok .brk, hq' => exact False.elim hq'
  | .ok .cont, hq' => exact False.elim hq'
theorem pe_makeX (c : CalC X.prog X.w X.K X.mg X.base CX j x C dvs sp) (hr : Room k X.A) (hg : Gl X x) (hx : ∀ σ, PassesAt CX X σ (E σ)) (ha : PA X (e :: es) t) (hk : j + 1 ≤ k := by decide)
    (hdb : (x == ("__debug__" : Str)) = false := by decide) (he : starEach (e :: es) X.env = (false, eval e X.env) :: starEach es X.env := by rfl) (hpl : (backTo pos (starEach es X.env)).any (·.1) = false := by rfl) :
    PE X (.Call (.Name x p) (e :: es) [] pos) (tMakeSD C sp dvs E t) := by
  obtain ⟨f, fd, ps, ds, h1, h2, h3, h4, h5⟩ := c.ex
  refine ⟨fun pins s σ H Q I h => wpAny_Call_Name_kw (ld_glob I hg h1 (PySem.W.callWith_K (h₀ := X.base) I.ok.mod.kin h2.kp (thn (ha.run pos pins s σ H _ I h) fun us s1 ⟨vs, H1, I1, r, q⟩ => ⟨I1.kIn, ?_⟩) he hpl) hdb)⟩
  exact run_makeSD h2 h5 (hr.mono hk) h3 h4 (hx σ) I1 r q
end
section
variable {K : PySem.W.Frag} {σ : L2.St} {H : Hp} {Q : VK} {C : Addr} {f : Str} {v : V}
/-- what is asked of the own __init__ of a class with one field -/
def sp1 (f : Str) (C : Addr) : Sp := fun vs H Q _ => ∃ (a : Addr) (v : V), vs = [.ref a, v] ∧ H a = some (exo a C none) ∧ ∀ dx, H dx = none → dx ≠ a → Q .non (upd (upd H dx (exd dx [(f, v)])) a (exo a C (some dx)))
def kMkO (C : Addr) (sp : Sp) (dvs : List V) (R : XK) : List V → Hp → Prop := fun vs H1 => vs.length ≤ 1000 ∧ ∀ a, H1 a = none → sp (.ref a :: (vs ++ dvs)) (upd H1 a (exo a C none))
  (fun v H2 => v = .non ∧ ∃ (d : Addr) (fs : List (Str × V)), H2 a = some (exo a C (some d)) ∧ H2 d = some (exd d fs) ∧ H1 d = none ∧ R (.ref C) (some d) (upd (del H2 a) d (.xd fs))) (fun _ _ _ => False)
theorem r_mkO {sp : Sp} {dvs : List V} {t : TA} {R : XK} (h : t σ H (kMkO C sp dvs R)) : tMkO C sp dvs t σ H R := h
theorem v_raise1 {R : XK} (q : ∀ d, H d = none → R (.ref C) (some d) (upd H d (.xd [(f, v)]))) : kMkO C (sp1 f C) [] R [v] H := by
  refine ⟨by simp, fun a ha => ⟨a, v, rfl, upd_same, fun dx hdx hne => ⟨rfl, dx, _, upd_same, by rw [upd_ne hne]; exact upd_same, (upd_free hdx).1, ?_⟩⟩⟩
  have hd := (upd_free hdx).1
  have e : upd (del (upd (upd (upd H a (exo a C none)) dx (exd dx [(f, v)])) a (exo a C (some dx))) a) dx (.xd [(f, v)]) = upd H dx (.xd [(f, v)]) := by
    funext b
    by_cases c1 : b = dx
    · rw [c1, upd_same, upd_same]
    · rw [upd_ne c1, upd_ne c1]
      by_cases c2 : b = a
      · rw [c2, del_same, ha]
      · rw [del_ne c2, upd_ne c2, upd_ne c1, upd_ne c2]
  rw [e]
  exact q dx hd
end
section
variable {σ : L2.St} {H : Hp} {Q : VK} {C a dx : Addr} {m : Str} {sp : Sp} {dvs : List V} {ta : TE} {t : TA} {fs : List (Str × V)} {vs : List V}
def kMethX (C : Addr) (m : Str) (sp : Sp) (dvs : List V) (E : XK) (t : TA) (σ : L2.St) (Q : VK) : VK := fun x H1 => ∃ a dx fs, x = .ref a ∧ H1 a = some (.ins C dx fs) ∧ fs.lookup m = none ∧ t σ H1 fun vs H2 => sp (x :: (vs ++ dvs)) H2 Q E
theorem r_methX {E : L2.St → XK} (h : ta σ H (kMethX C m sp dvs (E σ) t σ Q)) : tMethSD C m sp dvs E ta t σ H Q := h
theorem v_methX {E : XK} (h : H a = some (.ins C dx fs)) (l : fs.lookup m = none) (k : t σ H fun vs H2 => sp (.ref a :: (vs ++ dvs)) H2 Q E) : kMethX C m sp dvs E t σ Q (.ref a) H := ⟨a, dx, fs, rfl, h, l, k⟩
def kMakeX (C : Addr) (sp : Sp) (dvs : List V) (E : XK) (Q : VK) : List V → Hp → Prop := fun vs H1 => ∀ x dx, H1 x = none → H1 dx = none → dx ≠ x → sp (.ref x :: (vs ++ dvs)) (upd (upd H1 dx (.own x)) x (.ins C dx [])) (fun v H2 => v = .non ∧ Q (.ref x) H2) E
theorem r_makeX {E : L2.St → XK} (h : t σ H (kMakeX C sp dvs (E σ) Q)) : tMakeSD C sp dvs E t σ H Q := h
theorem v_makeX {E : XK} (k : ∀ x dx, H x = none → H dx = none → dx ≠ x → sp (.ref x :: (vs ++ dvs)) (upd (upd H dx (.own x)) x (.ins C dx [])) (fun v H2 => v = .non ∧ Q (.ref x) H2) E) : kMakeX C sp dvs E Q vs H := k
end
/-! isinstance of what a suite holds -/
def rIsY (K : PySem.W.Frag) (cls : Value) (d : Option Addr) (a : Addr) : List V → Hp → VK → Prop := fun xs H Q => ∃ D, cls = .ref D ∧ (∀ dd, d = some dd → ∃ fs, H dd = some (.xd fs)) ∧ ExcC K D ∧ rIsE K D a xs H Q
theorem call_isY {X : Cx} {a : Addr} {oe : Obj} {cls : Value} {d : Option Addr} {pn : List (Addr × Obj)} (hz : Zc cls d oe) (hf : ∃ vs, oe.data = .fields vs) : CallR (X.suite a ((a, oe) :: pn)) (.builtin "isinstance") (rIsY X.K cls d a) := by
  intro pins s σ H xs us Q I r h
  obtain ⟨D, rfl, hdd, C, c, cv, b, rfl, hcv, e, q⟩ := h
  cases r with
  | cons rx rr =>
    cases rr with
    | cons rt rr =>
      cases rr; cases rx
      have ec := hcv _ rt; subst ec
      obtain ⟨hget, _⟩ := I.pin (a, oe) (List.mem_append.mpr (.inl List.mem_cons_self)); obtain ⟨vs, hv⟩ := hf
      have hcl : (PySem.W.clsIn X.K D).isSome = true := by
        obtain ⟨cd, hc, _⟩ := PySem.W.any_some C.hd
        rw [hc]; rfl
      have J : ∃ od, PySem.W.InstAt s.heap a oe D od := by
        cases d with
        | none => exact ⟨none, hget, hz.1, by unfold PySem.W.notCls; rw [hv] <;> rfl, by rw [hz.2]; trivial⟩
        | some dd =>
          obtain ⟨fs, hfs⟩ := hdd dd rfl
          obtain ⟨mA, hns, _⟩ := (show ObjOk X.prog X.w H s.heap dd (.xd fs) from I.hok dd _ hfs)
          obtain ⟨od, ho, hl⟩ := lookIn_ns hns
          exact ⟨some od, hget, hz.1, by unfold PySem.W.notCls; rw [hv] <;> rfl, by rw [hz.2]; exact ho⟩
      obtain ⟨od, J⟩ := J
      exact PySem.W.kia_one (PySem.W.kitx_exc (od := od) hcl C.hg C.hk C.hs C.ha C.hn C.ht C.hm) I.kIn J e (fun z => nomatch z) fun tk => ⟨.bl b, H, I.kept (t' := tk) fun _ _ z => z, rfl, q⟩
section
variable {K : PySem.W.Frag} {D C a : Addr} {n : String} {H : Hp} {Q : VK} {b : Bool} {σ : L2.St}
theorem v_isY {d : Option Addr} (hd : ∀ dd, d = some dd → ∃ fs, H dd = some (.xd fs)) (hc : ExcC K D) (h : PySem.W.kitOne K (.ref D) (.ref C) = some b) (k : Q (.bl b) H) : rIsY K (.ref D) d a [.ref a, .ref C] H Q := ⟨D, rfl, hd, hc, .ref C, .ref C, b, rfl, fun _ r => r, h, k⟩
theorem v_isYT {d : Option Addr} (hd : ∀ dd, d = some dd → ∃ fs, H dd = some (.xd fs)) (hc : ExcC K D) (h : PySem.W.kitOne K (.ref D) (.type n) = some b) (k : Q (.bl b) H) : rIsY K (.ref D) d a [.ref a, .ty n] H Q := ⟨D, rfl, hd, hc, .ty n, .type n, b, rfl, fun _ r => r, h, k⟩
theorem xfOf (c : ExcC K D) : XfC K D := ⟨c.hg, c.hk, c.hs, c.hd⟩
theorem nodict : ∀ dd : Addr, (none : Option Addr) = some dd → ∃ fs, H dd = some (.xd fs) := fun _ z => nomatch z
theorem adict {d : Addr} {fs : List (Str × V)} (h : H d = some (.xd fs)) : ∀ dd : Addr, some d = some dd → ∃ fs, H dd = some (.xd fs) := fun _ z => by cases z; exact ⟨fs, h⟩
/-- e.f in a suite -/
def kXf (a : Addr) (cls : Value) (d : Option Addr) (C : Addr) (f : Str) (Q : VK) : VK := fun x H1 => x = .ref a ∧ cls = .ref C ∧ ∃ (dd : Addr) (fs : List (Str × V)) (v : V), d = some dd ∧ H1 dd = some (.xd fs) ∧ fs.lookup f = some v ∧ Q v H1
theorem r_xf {cls : Value} {d : Option Addr} {f : Str} {te : TE} (h : te σ H (kXf a cls d C f Q)) : tXf a cls d C f te σ H Q := h
theorem v_xf {d : Addr} {f : Str} {fs : List (Str × V)} {v : V} (h : H d = some (.xd fs)) (l : fs.lookup f = some v) (k : Q v H) : kXf a (.ref C) (some d) C f Q (.ref a) H := ⟨rfl, rfl, d, fs, v, rfl, h, l, k⟩
/-- self.f = e in an exception's __init__ -/
def kOst (K : PySem.W.Frag) (f : Str) (y : V) (R : Hp → Prop) : VK := fun x H2 => ∃ a C : Addr, x = .ref a ∧ OexC K C ∧ PySem.W.findIn K (.ref C) f = some none ∧
  ((H2 a = some (exo a C none) ∧ ∀ dx, H2 dx = none → dx ≠ a → R (upd (upd H2 dx (exd dx [(f, y)])) a (exo a C (some dx)))) ∨ ∃ (dx : Addr) (fs : List (Str × V)), H2 a = some (exo a C (some dx)) ∧ H2 dx = some (exd dx fs) ∧ fs.length ≤ 900 ∧ R (upd H2 dx (exd dx ((f, y) :: fs))))
theorem r_ost {D : Ends} {f : Str} {to te : TE} (h : te σ H fun y H1 => to σ H1 (kOst K f y (D.nx σ))) : tOst K f to te D σ H := h
end
end SH

set_option Elab.async false
set_option linter.all false
set_option maxRecDepth 100000
set_option maxHeartbeats 4000000
/-! SHZ: the same for exceptions whose context is None (L2N), and defs called within an except suite -/
namespace SH
open PySem PySem.Spec PyProof.Rows L2
section
variable {P : Program} {w : World} {K : PySem.W.Frag} {mg : Str → Option Value} {base : Heap}
theorem okN {x qual : Str} {st : Stmt} {f : Addr} {fd : FuncData} {N ps : List Str} {k : Nat} {sp : Sp} (F : Fun K x qual st f fd) (S : FnScope N ps (defScope st)) (len : ∀ vs H Q E, sp vs H Q E → vs.length = ps.length)
    (hb : ∀ (cdv : Value) (A : Around) (outer : List Env) (s : Shared) (H : Hp) (vs : List V) (Q : VK) (E : XK), Room k (A.deeper (envOfC qual (defScope st) s.heap.objs.size f cdv)) → sp vs H Q E →
      ∃ t, PSs (cxOf (L2N.CX P w) P w K mg base N qual (defScope st) f cdv A outer s H E) (defBody st) t ∧ t { nx := fun _ H' => Q .non H', rt := Q } (start N vs) H) : FnOk P w K mg base (L2N.CX P w) (k + 1) f fd ps sp := by
  obtain ⟨oc, od, kV, doc, pm, an, cdv, ct, osl, rfl, lk, hcd⟩ := F.ex
  exact fn_of lk hcd S len fun A outer s H vs Q E hr h => hb cdv A outer s H vs Q E hr h
theorem okND {x qual : Str} {st : Stmt} {dvs : List V} {f : Addr} {fd : FuncData} {N ps : List Str} {k : Nat} {sp : Sp} (F : FunD K x qual (defArgs st) (defBody st) (defScope st) dvs [] f fd) (S : FnScope N ps (defScope st)) (len : ∀ vs H Q E, sp vs H Q E → vs.length = ps.length)
    (hb : ∀ (cdv : Value) (A : Around) (outer : List Env) (s : Shared) (H : Hp) (vs : List V) (Q : VK) (E : XK), Room k (A.deeper (envOfC qual (defScope st) s.heap.objs.size f cdv)) → sp vs H Q E →
      ∃ t, PSs (cxOf (L2N.CX P w) P w K mg base N qual (defScope st) f cdv A outer s H E) (defBody st) t ∧ t { nx := fun _ H' => Q .non H', rt := Q } (start N vs) H) : FnOk P w K mg base (L2N.CX P w) (k + 1) f fd ps sp :=
  F.ok S len hb
theorem passLN {X : Cx} : Passes (L2N.CX X.prog X.w) X E0 := fun _ _ _ _ _ _ _ h => by
  obtain ⟨_, _, _, _, _, _, _, _, _, _, _, _, z⟩ := h
  exact z.elim
theorem takes0N {X : Cx} : L2N.Takes X (fun _ _ _ _ => False) := fun _ _ x => by
  obtain ⟨_, _, _, _, _, _, _, _, _, _, _, _, _, _, _, _, z⟩ := x
  exact z.elim
/-- a def that is called while an exception is handled; it raises nothing -/
theorem okH {x qual : Str} {st : Stmt} {f : Addr} {fd : FuncData} {N ps : List Str} {k : Nat} {sp : Sp} (F : Fun K x qual st f fd) (S : FnScope N ps (defScope st)) (len : ∀ vs H Q E, sp vs H Q E → vs.length = ps.length)
    (hb : ∀ (cdv : Value) (A : Around) (outer : List Env) (s : Shared) (H : Hp) (vs : List V) (Q : VK) (E : XK) (p : Addr × Obj), L2H.Hot1 A p → L2H.RoomH k (A.deeper (envOfC qual (defScope st) s.heap.objs.size f cdv)) → sp vs H Q E →
      ∃ t, PSs (L2H.cxH CX0 P w K mg base N qual (defScope st) f cdv A outer s H E p) (defBody st) t ∧ t { nx := fun _ H' => Q .non H', rt := Q } (start N vs) H) : L2H.FnH P w K mg base CX0 (k + 1) f fd ps sp := by
  obtain ⟨oc, od, kV, doc, pm, an, cdv, ct, osl, rfl, lk, hcd⟩ := F.ex
  exact L2H.fn_ofH lk hcd S len fun A outer s H vs Q E p hot hr h => hb cdv A outer s H vs Q E p hot hr h
end
structure CalH (P : Program) (w : World) (K : PySem.W.Frag) (mg : Str → Option Value) (base : Heap) (k : Nat) (x : Str) (sp : Sp) : Prop where
  ex : ∃ (f : Addr) (fd : FuncData) (ps : List Str), mg x = some (.ref f) ∧ PySem.W.keepIn K (.ref f) = true ∧ Binds K fd ps [] ∧ L2H.FnH P w K mg base CX0 k f fd ps sp
section
variable {X : Cx} {CX : CXT} {k j : Nat} {C : Addr} {sp : Sp} {x : Str} {p pos : Pos} {e : Expr} {es : List Expr} {t : TA}
theorem hotc {a : Addr} {oe : Obj} {cls : Value} {d : Option Addr} {pn : List (Addr × Obj)} (hz : L2N.Zn cls d oe) (hf : ∃ vs, oe.data = .fields vs) : L2H.HotC (X.suite a ((a, oe) :: pn)) := by
  obtain ⟨vs, hv⟩ := hf
  exact ⟨(a, oe), ⟨rfl, vs, hv, hz.2.2 vs hv⟩, List.mem_cons_self⟩
theorem pe_callHF (c : CalH X.prog X.w X.K X.mg X.base j x sp) (hr : L2H.RoomH k X.A) (hc : L2H.HotC X) (hg : Gl X x) (ha : PA X (e :: es) t) (hk : j ≤ k := by decide)
    (hdb : (x == ("__debug__" : Str)) = false := by decide) (he : starEach (e :: es) X.env = (false, eval e X.env) :: starEach es X.env := by rfl) (hpl : (backTo pos (starEach es X.env)).any (·.1) = false := by rfl) :
    PE X (.Call (.Name x p) (e :: es) [] pos) (tCallS sp (fun _ => E0) t) := by
  obtain ⟨f, fd, ps, h1, h2, h3, h4⟩ := c.ex
  exact L2H.pe_callH h4 (hr.mono hk) hc hg h1 h2 h3 (fun σ pins H s e s' _ z => z.elim) ha hdb he hpl
theorem r_callS {σ : L2.St} {H : Hp} {Q : VK} {E : L2.St → XK} (h : t σ H fun vs H1 => sp vs H1 Q (E σ)) : tCallS sp E t σ H Q := h
set_option maxHeartbeats 8000000 in
theorem pmk_oexN (c : CalE X.prog X.w X.K X.mg X.base j x C sp) (hr : Room k X.A) (hg : Gl X x) (ha : PA X (e :: es) t) (hk : j + 1 ≤ k := by decide)
    (hdb : (x == ("__debug__" : Str)) = false := by decide) (he : starEach (e :: es) X.env = (false, eval e X.env) :: starEach es X.env := by rfl) (hpl : (backTo pos (starEach es X.env)).any (·.1) = false := by rfl) :
    L2N.PMk X (.Call (.Name x p) (e :: es) [] pos) (tMkO C sp [] t) := by
  obtain ⟨fI, fd, ps, hm, iC, tI, hb, F1⟩ := c.ex; have T := c.ox
  intro pins s σ H Q I h
  obtain ⟨nm, q, N, bs, bm, sn, sub, ab, col, dd, k0, k1, k2, k3, k5, hC, hbm⟩ := c.ox.cls
  refine wpAny_Call_Name_kw (ld_glob I hg hm (PySem.W.callWith_K (h₀ := X.base) I.ok.mod.kin T.kC (thn (ha.run pos pins s σ H _ I h) fun us s1 ⟨vs, H1, I1, r1, hz, q1⟩ => ⟨I1.kIn, ?_⟩) he hpl) hdb)
  show wpAny _ _ (call (.ref C) us) _ _ _; obtain ⟨hp, g, dr, tk, os⟩ := s1
  have hsz : hp.objs.size ≤ hp.objs.size + 1 := Nat.le_succ _; have hn : H1 (hp.objs.size + 1) = none := I1.hok.fresh hsz
  have hq := q1 (hp.objs.size + 1) hn; rw [List.append_nil] at hq
  have kk : ∀ b o, hp.get? b = some o → ((hp.push (PySem.W.kdv_tup us)).push (PySem.HandSPX.excO C hp.objs.size)).get? b = some o := fun b o e => by exact Heap.get?_push_of_some _ (Heap.get?_push_of_some _ e)
  have hget : ((hp.push (PySem.W.kdv_tup us)).push (PySem.HandSPX.excO C hp.objs.size)).get? (hp.objs.size + 1) = some (PySem.HandSPX.excO C hp.objs.size) := by (heap_get)
  have I2 : Inv X pins σ (upd H1 (hp.objs.size + 1) (exo (hp.objs.size + 1) C none)) ⟨(hp.push (PySem.W.kdv_tup us)).push (PySem.HandSPX.excO C hp.objs.size), g, dr, tk, os⟩ := by
    exact I1.laid (t' := tk) (a := hp.objs.size + 1) (o := exo (hp.objs.size + 1) C none) (h' := (hp.push (PySem.W.kdv_tup us)).push (PySem.HandSPX.excO C hp.objs.size)) kk hsz (exo_ok hget)
  have r2 : Vals (V.ref (hp.objs.size + 1) :: vs) (Value.ref (hp.objs.size + 1) :: us) := .cons rfl r1
  have hl : (Value.ref (hp.objs.size + 1) :: us ++ []).length = ps.length := by have e := r2.length; rw [F1.len _ _ _ _ hq] at e; rw [List.append_nil]; exact e.symm
  have hus : us.length ≤ sizeLine := by rw [← Paired.length r1, sizeLine_eq]; omega
  have b2 := hb _ (Value.ref (hp.objs.size + 1) :: us) I2.kIn hl; rw [List.append_nil] at b2
  refine wpAny_call (PySem.HandSPX.call_own F.excBase_ValueError (fun Y => PySem.HandSPX.refsVE_contains Y bm hbm) (I1.kIn _ _ hC) (PySem.W.looks_findIn I1.kIn iC) (fun self => PySem.W.bind_fn I1.kIn self tI) hus
    (codeAny_mono (F1.run _ X.stack _ _ ⟨Value.ref (hp.objs.size + 1) :: us, []⟩ (Value.ref (hp.objs.size + 1) :: us) _ _ (fun _ _ _ => False) ((hr.mono hk).make C us []) (I2.env0.make C us []) b2 r2 hq) fun r s' hq' => ?_))
  match r, hq' with
  | .error er, hq' => exact False.elim hq'
  | .ok .next, hq' => exact False.elim hq'
  | .ok .brk, hq' => exact False.elim hq'
  | .ok .cont, hq' => exact False.elim hq'
  | .ok (.ret u), hq' =>
    obtain ⟨v, H2, os2, bare2, un2, hok2, rv, ev, d, fs, ea, ed, hd1, q2⟩ := hq'; subst ev
    obtain ⟨h2, g2, d2, t2, os'⟩ := s'; obtain ⟨t0, G, J, kG, ge, hoe, na⟩ := mk_end0 (d2 := d2) (t2 := t2) I1 hsz kk un2 hok2 os2 bare2 ea ed hd1
    exact ⟨rv, ⟨hp.objs.size + 1, _, _, ⟨G, g2, d2, t2, os'⟩, _, .ref C, some d, rfl, J, kG, ge, hoe, ⟨rfl, rfl, fun vs hv => by cases hv; rfl⟩, rfl, rfl, na, rfl, bare2, raises_own T.exC T.tyC, q2⟩⟩
end
theorem r_catchM {K : PySem.W.Frag} {c cls : Value} {d : Option Addr} {ts : Addr → Value → Option Addr → TS} {r : List (Value × (Addr → Value → Option Addr → TS))} {Wo : WX} {D : Ends} {σ : L2.St} {H : Hp} (h : PySem.W.exmOne K cls c = some true)
    (k : ∀ a, H a = none → ts a cls d D σ H) : L2.wMany K Wo D ((c, ts) :: r) cls d σ H := ⟨true, h, fun _ => k, fun z => by cases z⟩
theorem r_catchM2 {K : PySem.W.Frag} {c cls : Value} {d : Option Addr} {ts : Addr → Value → Option Addr → TS} {r : List (Value × (Addr → Value → Option Addr → TS))} {Wo : WX} {D : Ends} {σ : L2.St} {H : Hp} (h : PySem.W.exmOne K cls c = some false)
    (k : L2.wMany K Wo D r cls d σ H) : L2.wMany K Wo D ((c, ts) :: r) cls d σ H := ⟨false, h, (fun z => by cases z), fun _ => k⟩
section
variable {X : Cx} {o e : Expr} {es : List Expr} {to : TE} {t : TA} {name : Str} {apos cpos : Pos} {T id : String} {r : V → List V → Hp → VK → Prop}
theorem pe_bmK (K : PySem.W.Frag) (pa : PlainAttrs T) (slot : Slot T name id) (hty : typeOf (.builtin id) = pure (.type "method_descriptor")) (hm : MtR X id r) (ho : PE X o to) (ha : PA X (e :: es) t) (hK : X.K = K := by rfl)
    (hbase : attributeBase o name X.env (eval o X.env) = eval o X.env := by rfl)
    (hfew : ((backTo cpos (starEach (e :: es) X.env)).all (fun x => !x.1) && (backToKw cpos (keywordEach [] X.env)).all (fun x => x.1.isSome)
      && decide ((e :: es).length + ([] : List Keyword).length + (if ([] : List Keyword).isEmpty then 0 else 1) < 30)) = true := by rfl)
    (hline : (apos.endLine == cpos.line) = true := by rfl) (hs : starEach (e :: es) X.env = (false, eval e X.env) :: starEach es X.env := by rfl) (hplain : (backTo cpos (starEach es X.env)).any (·.1) = false := by rfl) :
    PE X (.Call (.Attribute o name apos) (e :: es) [] cpos) (tBM K T r to t) := by
  subst hK
  exact pe_bm pa slot hty hm ho ha hbase hfew hline hs hplain
end
end SH

set_option Elab.async false
set_option linter.all false
set_option maxRecDepth 100000
set_option maxHeartbeats 4000000
/-! SHU: list comprehensions whose element (or test) lets an exception out of a call (L2N) -/
namespace SH
open PySem PySem.Spec PyProof.Rows L2
/-- the block's context with a way for what is raised -/
abbrev blkX (X : Cx) (s : Shared) (H : Hp) (scope : Scope) (cenv : Env) (fp : List Addr) (xe : Value → Shared → Prop) : Cx := { X.blk s H scope cenv fp with xe := xe }
theorem blk_in {X : Cx} {s0 : Shared} {H0 : Hp} {scope : Scope} {ce : Env} {fp : List Addr} {xe : Value → Shared → Prop} {pins : List (Addr × Obj)} {σ : L2.St} {H : Hp} {s : Shared}
    (I : Inv (X.blk s0 H0 scope ce fp) pins σ H s) : Inv (blkX X s0 H0 scope ce fp xe) pins σ H s :=
  ⟨⟨I.ok.mod, I.ok.kind, I.ok.glob, I.ok.blt, I.ok.above, I.ok.inj, I.ok.has, I.ok.cab, I.ok.hd, I.ok.frames, I.ok.stk, I.ok.exf, I.ok.bs, I.ok.bsz, I.ok.noex, I.ok.exfs, I.ok.funs, I.ok.frf⟩, I.os, I.bare, I.base, I.loc, I.cell, I.free, I.freeC, I.pin, I.hok, I.len⟩
theorem blk_out {X : Cx} {s0 : Shared} {H0 : Hp} {scope : Scope} {ce : Env} {fp : List Addr} {xe : Value → Shared → Prop} {pins : List (Addr × Obj)} {σ : L2.St} {H : Hp} {s : Shared}
    (I : Inv (blkX X s0 H0 scope ce fp xe) pins σ H s) : Inv (X.blk s0 H0 scope ce fp) pins σ H s :=
  ⟨⟨I.ok.mod, I.ok.kind, I.ok.glob, I.ok.blt, I.ok.above, I.ok.inj, I.ok.has, I.ok.cab, I.ok.hd, I.ok.frames, I.ok.stk, I.ok.exf, I.ok.bs, I.ok.bsz, I.ok.noex, I.ok.exfs, I.ok.funs, I.ok.frf⟩, I.os, I.bare, I.base, I.loc, I.cell, I.free, I.freeC, I.pin, I.hok, I.len⟩

section
variable {X : Cx} {pins : List (Addr × Obj)} {σ : L2.St} {H H' : Hp} {s s' : Shared} {B : Heap} {W : WX} {a : Addr} {cls : Value} {d : Option Addr}
/-- an exception in our air from what a call left -/
theorem air (I : Inv X pins σ H s) (hok : HOk X.prog X.w H' B) (ub : UB (frs X.stack) H H' s.heap B s'.heap) (st : B.StaysIn s'.heap) (sky : Sky B X.stack a (L2N.Zn cls d) X.env.locals s'.heap)
    (na : H' a = none) (os : s'.os = s.os) (ag : AllBare s'.gens) (w : W cls d σ H') : L2N.XE X W (.ref a) s' := by
  obtain ⟨G, g1, g2⟩ := restrict s'.heap fun b => (B.get? b).isSome || decide (b ∈ frs X.stack)
  have gB : ∀ b o, B.get? b = some o → G.get? b = some o := fun b o e => (g1 b (by simp [e])).trans (st b o e)
  have gF : ∀ b, b ∈ frs X.stack → G.get? b = s'.heap.get? b := fun b hb => g1 b (by simp [hb])
  have og : ∀ b o, G.get? b = some o → s'.heap.get? b = some o ∧ (b ∉ frs X.stack → B.get? b = some o) := fun b o e => by
    cases q : ((B.get? b).isSome || decide (b ∈ frs X.stack)) with
    | false => rw [g2 b q] at e; cases e
    | true =>
      rw [g1 b q] at e
      refine ⟨e, fun nb => ?_⟩
      have q : (B.get? b).isSome = true := by simpa [nb] using q
      obtain ⟨o', q⟩ := Option.isSome_iff_exists.mp q
      rw [st b o' q] at e
      rw [q]; exact e
  refine ⟨a, B, { s with heap := G, gens := s'.gens, drawn := s'.drawn, toks := s'.toks }, pins, σ, H', cls, d, rfl, ?_, fun b o e hb => (og b o e).2 hb, Heap.UpToSlots.of_keeps fun b o e => (og b o e).1, sky, na, os, ag, w⟩
  refine I.call (ch := []) ⟨fun b o e n hb _ => gB b o (ub.keep b o e n hb), fun b o e n hb _ => ?_, fun b o e n _ => ub.free b o e n, fun b o e _ => ?_, ub.tups, ub.frzs, ub.tbls⟩ (hok.kept gB) ag (fun _ z => nomatch z)
  · obtain ⟨sl, q⟩ := ub.slot b o e hb
    exact ⟨sl, (gF b hb).trans q⟩
  · by_cases hb : b ∈ frs X.stack
    · obtain ⟨sl, q⟩ := ub.slot b o e hb
      exact ⟨_, (gF b hb).trans q⟩
    · obtain ⟨o', q⟩ := ub.there b o e hb
      exact ⟨o', gB b o' q⟩
end

theorem hid1_get {h : Heap} {C b : Addr} {o : Obj} (e : h.get? b = some o) (n : b ≠ C) : (PySem.W.hideAll h [C]).get? b = some o := PySem.W.hideAll_get _ e (by simpa using n)
theorem hid1_of {h : Heap} {C b : Addr} {o : Obj} (e : (PySem.W.hideAll h [C]).get? b = some o) : h.get? b = some o ∧ b ≠ C :=
  ⟨PySem.W.of_hideAll _ e, fun z => by rw [z, PySem.W.hideAll_none _ (List.mem_singleton.mpr rfl)] at e; cases e⟩
theorem hok_hid {P : Program} {w : World} {H : Hp} {h : Heap} {C : Addr} (x : HOk P w H h) (n : H C = none) : HOk P w H (PySem.W.hideAll h [C]) := fun b o q =>
  (x b o q).stay (fun c u hc r => hid1_get r fun z => by
    rcases hc with hc | hc
    · rw [← hc, z, n] at q; cases q
    · rw [z, n] at hc; cases hc) (fun _ r => r) fun _ _ r => r

section
variable {X : Cx} {pins : List (Addr × Obj)} {σ : L2.St} {W : WX}
theorem pass_blk {s3 : Shared} {H3 : Hp} {scope : Scope} {ce : Env} {fp : List Addr} (I3 : Inv X pins σ H3 s3) (hs : X.stack = X.env :: X.outer) (hf : X.env.frame = some X.env.locals) (hcf : ce.frame = X.env.frame) (tk : L2N.Takes X W)
    (hfp : ∀ b ∈ fp, (b ∈ X.ex ∨ X.s_0.heap.objs.size ≤ b) ∧ b ≠ X.env.locals ∧ (∀ x c, X.env.cells.lookup x = some c → c ≠ b) ∧ ∀ p ∈ X.pn ++ pins, p.1 ≠ b) (σ' : L2.St) :
    PassesAt (L2N.CX X.prog X.w) (blkX X s3 H3 scope ce fp (notedBy (model X.prog X.w) X.A ce (CompFails (model X.prog X.w) X.A X.xe ce))) σ' (fun cls d H => W cls d σ H) := by
  intro pins' Hc sc e s' J c
  have hfr : X.A.frames = some (X.env :: X.outer) := by rw [I3.ok.frames, hs]
  obtain ⟨a, B, H', cls, d, rfl, fl, hok, ub, na, os, ag, hE⟩ := c
  have hC : s3.heap.objs.size ≤ ce.locals := J.ok.above
  have nC : Hc ce.locals = none := J.free
  have fC : ce.locals ∉ frs X.stack := fun hb => by
    obtain ⟨_, o, e, _⟩ := I3.stack.mem hb
    exact absurd (Nat.lt_of_lt_of_le (Heap.lt_size e) hC) (Nat.lt_irrefl _)
  obtain ⟨m, hn, _⟩ := J.loc
  have hn : sc.heap.Ns ce.locals m := hn
  have hn' : s'.heap.Ns ce.locals m := by
    obtain ⟨o, es, ep, ho, r⟩ := hn
    exact ⟨o, es, ep, fl.1 _ _ (ub.keep _ _ ho nC fC), r⟩
  have nC' : H' ce.locals = none := by
    obtain ⟨o, es, ep, ho, r⟩ := hn
    exact ub.free _ _ ho nC
  -- the call as the def's own, the block's names left out
  have Ic : Inv X pins σ Hc { sc with heap := PySem.W.hideAll sc.heap [ce.locals] } := by
    refine I3.call' (ch := fp) J.os ⟨fun b o e n hb hx => hid1_get (J.base.keep b o e n hb hx) (Nat.ne_of_lt (Nat.lt_of_lt_of_le (Heap.lt_size e) hC)), fun b o e n hb hx => ?_, J.base.free, fun b o e hx => ?_, J.base.tups, J.base.frzs, J.base.tbls⟩ (hok_hid J.hok nC) J.bare hfp
    · obtain ⟨sl, q⟩ := J.base.slot b o e n hb hx
      exact ⟨sl, hid1_get q (Nat.ne_of_lt (Nat.lt_of_lt_of_le (Heap.lt_size e) hC))⟩
    · obtain ⟨o', q⟩ := J.base.there b o e hx
      exact ⟨o', hid1_get q (Nat.ne_of_lt (Nat.lt_of_lt_of_le (Heap.lt_size e) hC))⟩
  have fl2 : HandSPX.FlyingZ (PySem.W.hideAll B [ce.locals]) (X.env :: X.outer) a (L2N.Zn cls d) s'.heap := by
    rw [← hs]
    obtain ⟨f1, f2, f3, oe, vs, T, oT, ts, he, hz, hd, h1, hnT, r⟩ := fl
    have no : ∀ b, B.get? b = none → (PySem.W.hideAll B [ce.locals]).get? b = none := fun b h => by
      cases q : (PySem.W.hideAll B [ce.locals]).get? b with
      | none => rfl
      | some o => rw [(hid1_of q).1] at h; cases h
    refine ⟨fun b o e => f1 b o (hid1_of e).1, no _ f2, ?_, oe, vs, T, oT, ts, he, hz, hd, h1, no _ hnT, r⟩
    have go : ∀ l, s'.heap.FunFrames B l → s'.heap.FunFrames (PySem.W.hideAll B [ce.locals]) l := by
      intro l
      induction l with
      | nil => intro _; trivial
      | cons x r ih => exact fun ⟨k, ⟨L, o, h1, h2, h3⟩, q⟩ => ⟨k, ⟨L, o, h1, no _ h2, h3⟩, ih q⟩
    exact go _ f3
  show wpAny (model X.prog X.w) X.A (noteFrame (.ref a) ce) _ _ s'
  rw [noteFrame_env _ hcf]
  refine PXN.looks_onZ L2N.Zn.steady hfr hf fl2 fun h1 hh1 up1 => ?_
  refine ⟨m, hn'.upToSlots up1, fun h2 m2 hn2 sb2 => ?_⟩
  have sb : ∀ b, b ≠ ce.locals → ∀ o, h1.get? b = some o → h2.get? b = some o := fun b hb o e => (sb2.2 b hb).trans e
  have hnf : ∀ b o vs, h1.get? b = some o → o.data = .fields vs → b ≠ ce.locals := fun b o vs e hd z => by
    obtain ⟨o', es, ep, e', hd', _⟩ := hn'.upToSlots up1
    rw [z] at e; rw [show h1.get? ce.locals = some o' from e'] at e; cases e
    rw [hd'] at hd; cases hd
  have hh2 : HandSPX.HeldZ (PySem.W.hideAll B [ce.locals]) (X.env :: X.outer) a (L2N.Zn cls d) X.env.locals h2 := by
    obtain ⟨f1, f2, f3, oe, vs, T, oT, ts, he, hz, hd, h1', hnT, hTe, hT, hdT, h3⟩ := hh1
    exact ⟨fun b o e => sb b (hid1_of e).2 o (f1 b o e), f2, Heap.FunFrames.sameBut sb2 hn2 f3, oe, vs, T, oT, ts, sb _ (hnf _ _ _ he hd) _ he, hz, hd, h1', hnT, hTe, sb _ (hnf _ _ _ hT hdT) _ hT, hdT, h3⟩
  obtain ⟨k1, k2, k3, oe, vs, T, oT, ts, he, hz, hd, hv1, hr⟩ := id hh2
  unfold PySem.passOn
  refine wpAny_bind (wpAny_field he hd hv1 ?_)
  rw [if_neg (show ¬ ((Value.ref T == Value.none) = true) from by simp)]
  have fin : wpAny (model X.prog X.w) X.A (setFlight (.ref a) ce.frame) (fun _ s4 => wpAny (model X.prog X.w) X.A (throw (.ref a) : Sem Value) (fun _ _ => False) X.xe s4) X.xe { s' with heap := h2 } := by
    rw [hcf, hf]
    refine HandSPX.setFlight_onZ hh2 fun h3 hh3 up3 => wpAny_throw (tk _ _ ?_)
    refine air (s := { sc with heap := PySem.W.hideAll sc.heap [ce.locals] }) (s' := { s' with heap := h3 }) (B := PySem.W.hideAll B [ce.locals]) Ic (hok_hid hok nC') ⟨fun b o e n hb => hid1_get (ub.keep b o (hid1_of e).1 n hb) (hid1_of e).2, fun b o e hb => ?_, fun b o e => ub.free b o (hid1_of e).1, fun b o e hb => ?_, ub.tups, ub.frzs, ub.tbls⟩
      hh3.1 (.inr (.inr (by rw [hs]; exact hh3))) na os ag hE
    · obtain ⟨_, o₀, e₀, nf⟩ := Ic.stack.mem hb
      have e₀ : (PySem.W.hideAll sc.heap [ce.locals]).get? b = some o₀ := e₀
      rw [e] at e₀; cases e₀
      obtain ⟨sl, q⟩ := ub.slot b o (hid1_of e).1 hb
      obtain ⟨sl1, q1⟩ := up1 b _ q nf
      obtain ⟨sl3, q3⟩ := up3 b _ (sb b (hid1_of e).2 _ q1) nf
      exact ⟨sl3, q3⟩
    · obtain ⟨o', q⟩ := ub.there b o (hid1_of e).1 hb
      exact ⟨o', hid1_get q (hid1_of e).2⟩
  first
    | exact wpAny_bind (wpAny_pure (wpAny_bind fin))
    | exact wpAny_bind fin
end

section
variable {X : Cx}
/-- as tLc; what a test or an element lets out is wished for with the def's slots -/
def tLcX (W : WX) (wi : TI) (g : TG) (tt : WX → TT) (te : WX → TE) (vs : List Nat) : TE := fun σ H Q => tLc wi g (tt fun c d _ H' => W c d σ H') (te fun c d _ H' => W c d σ H') vs σ H Q
/-- a block that may let an exception out -/
def HotBlk (X' : Cx) (W : WX) : Prop := ∀ σ, PassesAt (L2N.CX X'.prog X'.w) X' σ (WE W σ)
theorem lcX_core {pins : List (Addr × Obj)} {s : Shared} {σ : L2.St} {H : Hp} {Q : VK} {elt tg iter : Expr} {ifs : List Expr} {scope : Scope} {own : List (Str × Nat)} {pos pos' : Pos} {wi : TI} {g : TG} {tt : WX → TT} {te : WX → TE} {W : WX} {use : Option (Value → Sem Unit)} {Qf : Value → Shared → Prop}
    (hc : X.calm = true) (hN : X.N.Nodup) (hs : X.stack = X.env :: X.outer) (hf : X.env.frame = some X.env.locals) (tk : L2N.Takes X W) (I : Inv X pins σ H s) (hi : PI X tg iter wi) (ok : BlkOk X.N X.env.scope scope own)
    (hg : ∀ (s : Shared) (H : Hp) (C : Addr) (cl : List (Str × Addr)) (fp : List Addr), PG (X.blk s H scope (compEnvC scope cl C X.env) fp) tg g)
    (ht : ∀ (s : Shared) (H : Hp) (C : Addr) (cl : List (Str × Addr)) (fp : List Addr) (xe : Value → Shared → Prop) (Wb : WX), HotBlk (blkX X s H scope (compEnvC scope cl C X.env) fp xe) Wb → PTs (blkX X s H scope (compEnvC scope cl C X.env) fp xe) ifs (tt Wb))
    (he : ∀ (s : Shared) (H : Hp) (C : Addr) (cl : List (Str × Addr)) (fp : List Addr) (xe : Value → Shared → Prop) (Wb : WX), HotBlk (blkX X s H scope (compEnvC scope cl C X.env) fp xe) Wb → PE (blkX X s H scope (compEnvC scope cl C X.env) fp xe) elt (te Wb))
    (hfs : ∀ x, foldedSetIterable iter X.env x = pure x) (h : tLcX W wi g tt te (own.map (·.2)) σ H Q)
    (hRR : ∀ D C s' m H', Inv X pins σ H' s' → Q (.ref D) H' → s'.heap.Ns C m → FpOk X pins H' C → compPost (model X.prog X.w) X.A X.xe use Qf (.ref D) C (.ok .next) s') :
    wpAny (model X.prog X.w) X.A (comprehension (.ListComp elt [⟨tg, iter, ifs, 0⟩] scope pos) scope X.env pos' (newList []) false (eval iter X.env) use) Qf X.xe s := by
  have hfree : ∀ y ∈ scope.names, y.2 = .free → ∃ c, X.env.cells.lookup y.1 = some c := fun y hy e => by
    rcases ok.free y hy e with k | k
    · exact I.ok.has _ (.inl k)
    · exact I.ok.has _ (.inr k)
  refine comprehension_at (use := use) rfl hfs (closure_ok hfree) ok.kind (fun y hy e => by rw [ok.uniq y hy, e]) (thn (hi.run pins s σ H _ I h) fun xv s1 hx => thn hx fun itv s2 h2 => ?_)
  obtain ⟨it, fp, tn, J, H2, e, I2, T, st2, f2, q⟩ := h2
  subst e
  refine wpAny_newObj_type (newEnv_comp ?_) (by show 0 ≤ sizeLine; decide)
  generalize hD : s2.heap.objs.size = D
  have hDn : H2 D = none := I2.hok.fresh (Nat.le_of_eq hD)
  obtain ⟨Wt, ⟨m0, w0⟩, turn⟩ := q D hDn
  generalize hs3 : ({ s2 with heap := s2.heap.push { cls := .type "list", data := .seq ([] : List Value).toArray } } : Shared) = s3
  have I3 : Inv X pins σ (upd H2 D (.lst [])) s3 := by
    rw [← hs3]
    refine I2.laid (t' := s2.toks) (fun b o e => Heap.get?_push_of_some _ e) (Nat.le_of_eq hD) ⟨Nat.zero_le _, [], 0, .nil, ?_⟩
    rw [← hD]
    exact Heap.get?_push_size _ rfl
  have h3 : s3.heap = s2.heap.push { cls := .type "list", data := .seq ([] : List Value).toArray } := by rw [← hs3]
  have f3 : ∀ b ∈ fp, FpOk X pins (upd H2 D (.lst [])) b ∧ b < s3.heap.objs.size := fun b hb => by
    obtain ⟨o, e, _⟩ := T.obj _ _ st2 b hb
    have hlt := Heap.lt_size e
    refine ⟨⟨?_, (f2 b hb).2⟩, by rw [h3, Heap.size_push]; exact Nat.lt_succ_of_lt hlt⟩
    rw [upd_ne (by rw [← hD]; exact Nat.ne_of_lt hlt)]
    exact (f2 b hb).1
  have st3 : tn 0 s3.heap := T.keep _ _ _ st2 fun b _ o e => by rw [h3]; exact Heap.get?_push_of_some _ e
  have I4 := block_start I3 ok hN f3
  have hch : ∀ b ∈ fp, (b ∈ X.ex ∨ X.s_0.heap.objs.size ≤ b) ∧ b ≠ X.env.locals ∧ (∀ x c, X.env.cells.lookup x = some c → c ≠ b) ∧ ∀ p ∈ X.pn ++ pins, p.1 ≠ b :=
    fun b hb => ⟨(f3 b hb).1.2.2.2.1, (f3 b hb).1.2.1, (f3 b hb).1.2.2.2.2.1, (f3 b hb).1.2.2.2.2.2⟩
  have pg := hg s3 (upd H2 D (.lst [])) s3.heap.objs.size (cellsFrom (s3.heap.objs.size + 1) scope.names (cloFrom X.env.cells scope.names [])) fp
  have hot := pass_blk (scope := scope) (ce := compEnvC scope (cellsFrom (s3.heap.objs.size + 1) scope.names (cloFrom X.env.cells scope.names [])) s3.heap.objs.size X.env) (W := W) I3 hs hf rfl tk hch
  have pt := ht s3 (upd H2 D (.lst [])) s3.heap.objs.size (cellsFrom (s3.heap.objs.size + 1) scope.names (cloFrom X.env.cells scope.names [])) fp _ (fun c d _ H' => W c d σ H') hot
  have pe := he s3 (upd H2 D (.lst [])) s3.heap.objs.size (cellsFrom (s3.heap.objs.size + 1) scope.names (cloFrom X.env.cells scope.names [])) fp _ (fun c d _ H' => W c d σ H') hot
  show codeAny _ _ (.compStart (.ListComp elt [⟨tg, iter, ifs, 0⟩] scope pos) 0 (.ref it) (.ref D) (compEnvC scope (cellsFrom (s3.heap.objs.size + 1) scope.names (cloFrom X.env.cells scope.names [])) s3.heap.objs.size X.env))
    (compEnds (model X.prog X.w) X.A X.xe use Qf (.ref D) (compEnvC scope (cellsFrom (s3.heap.objs.size + 1) scope.names (cloFrom X.env.cells scope.names [])) s3.heap.objs.size X.env)) { s3 with heap := pushCells (s3.heap.push { cls := .type "dict", data := .dict #[] }) scope.names }
  have nfp : ∀ b ∈ fp, (upd H2 D (.lst [])) b = none := fun b hb => (f3 b hb).1.1
  clear hot
  generalize hce : compEnvC scope (cellsFrom (s3.heap.objs.size + 1) scope.names (cloFrom X.env.cells scope.names [])) s3.heap.objs.size X.env = ce at I4 pg pt pe ⊢
  have cL : ce.locals = s3.heap.objs.size := by subst hce; rfl
  generalize hH3 : upd H2 D (.lst []) = H3 at I3 I4 pg pt pe w0 nfp f3
  generalize hs4 : ({ s3 with heap := pushCells (s3.heap.push { cls := .type "dict", data := .dict #[] }) scope.names } : Shared) = s4 at I4 ⊢
  have st4 : tn 0 s4.heap := T.keep _ _ _ st3 fun b _ o e => by rw [← hs4]; exact pushCells_keeps _ _ _ _ (Heap.get?_push_of_some _ e)
  have stat : ∀ {σ' : L2.St} {H' : Hp} {s' : Shared}, Inv (X.blk s3 H3 scope ce fp) [] σ' H' s' → (∀ b ∈ fp, H' b = none) → ∀ b ∈ fp, FpOk (X.blk s3 H3 scope ce fp) [] H' b := fun {σ' H' s'} I' hn b hb =>
    ⟨hn b hb, (I'.ok.exf b hb).1, I'.ok.exfs b hb, .inl hb, fun x c e => (I'.ok.exf b hb).2 x c e, fun p hp => absurd (show p ∈ ([] : List (Addr × Obj)) ++ [] from hp) (by simp)⟩
  have loop : codeAny (model X.prog X.w) X.A (.compLoop (.ListComp elt [⟨tg, iter, ifs, 0⟩] scope pos) 0 (.ref it) (.ref D) ce) (compEnds (model X.prog X.w) X.A X.xe use Qf (.ref D) ce) s4 := by
    refine compLoop_any (fun n s' => ∃ i H', Inv (X.blk s3 H3 scope ce fp) [] (wipe σ (own.map (·.2))) H' s' ∧ tn i s'.heap ∧ (∀ b ∈ fp, H' b = none) ∧ Wt i n H') ?_ m0 ⟨0, H3, I4, st4, nfp, w0⟩
    rintro n s5 ⟨i, H5, I5, st5, n5, w5⟩
    rcases turn i n H5 w5 with ⟨stop, qq⟩ | ⟨go, Nx, hNx, step⟩
    · have td := T.done (X.blk s3 H3 scope ce fp) rfl rfl rfl hc i [] s5 _ H5 (fun _ _ => False) I5 (stat I5 n5) st5 stop
      refine thnF td fun r s6 ⟨hr, I6⟩ => ?_
      subst hr
      have I7 : Inv X pins σ H5 s6 := I3.call' (ch := fp) I6.os I6.base I6.hok I6.bare hch
      have nC : H5 s3.heap.objs.size = none := by
        have z : H5 ce.locals = none := I6.free
        rw [cL] at z
        exact z
      obtain ⟨m, hn, _⟩ := I6.loc
      have hn : s6.heap.Ns ce.locals m := hn
      rw [cL] at hn
      have fin := hRR D s3.heap.objs.size s6 m H5 I7 qq hn (I3.fpOk (Nat.le_refl _) nC)
      rw [← cL] at fin
      cases use <;> exact fin
    · have ti := T.item (X.blk s3 H3 scope ce fp) rfl rfl rfl hc i [] s5 _ H5 (fun _ _ => False) I5 (stat I5 n5) st5 go
      refine thnF ti fun r s6 ⟨u, hr, h6⟩ => ?_
      subst hr
      refine thnF h6 fun _ s7 ⟨x, H7, I7, r7, y7, st7, n7⟩ => ?_
      have I7' := I7.pinned (stat I7 n7) (T.obj _ _ st7)
      refine thnF (pg.run _ s7 _ H7 x u _ I7' r7 (step x H7 y7)) fun _ s8 ⟨σ8, H8, I8, hw8, q8⟩ => ?_
      refine thn (pt.run _ s8 σ8 H8 _ (blk_in I8) q8) fun b s9 ⟨H9, I9, q9⟩ => ?_
      have fin : ∀ {s' : Shared} {H' : Hp}, Inv (X.blk s3 H3 scope ce fp) ([] ++ pinsAt fp s7.heap) σ8 H' s' → Nx H' → ∃ m, m < n ∧ ∃ i H', Inv (X.blk s3 H3 scope ce fp) [] (wipe σ (own.map (·.2))) H' s' ∧ tn i s'.heap ∧ (∀ b ∈ fp, H' b = none) ∧ Wt i m H' := fun {s' H'} I' nx => by
        obtain ⟨m', hm, w'⟩ := hNx H' nx
        have pin' : ∀ b ∈ fp, ∀ o, s7.heap.get? b = some o → s'.heap.get? b = some o ∧ H' b = none := fun b hb o e =>
          let z := I'.pin (b, o) (List.mem_append_right _ (List.mem_append_right _ (mem_pinsAt hb e)))
          ⟨z.1, z.2.1⟩
        have hl : (wipe σ (own.map (·.2))).length = σ8.length := by rw [← hw8, wipe_length]
        refine ⟨m', hm, i + 1, H', (I'.unpinned (pins := [])).weak hl (fun j v e => ?_), T.keep _ _ _ st7 fun b hb o e => (pin' b hb o e).1, fun b hb => ?_, w'⟩
        · rw [← hw8] at e
          exact (wipe_some e).1
        · obtain ⟨o, e, _⟩ := T.obj _ _ st7 b hb
          exact (pin' b hb o e).2
      cases b with
      | false =>
        simp only [Bool.false_eq_true, if_false] at q9 ⊢
        exact fin (blk_out I9) q9
      | true =>
        simp only [if_true] at q9 ⊢
        refine thn (pe.run _ s9 σ8 H9 _ I9 q9) fun z s10 ⟨yv, H10, I10, r10, acc, hD10, hz10, nx⟩ => ?_
        exact app_ok (X := X.blk s3 H3 scope ce fp) (blk_out I10) hD10 hz10 r10 fun s11 I11 => fin I11 nx
  exact codeAny_compStart_list loop (T.self X.A 0 _ _ _ st4 loop)
/-- as a value -/
theorem pe_lcX {elt tg iter : Expr} {ifs : List Expr} {scope : Scope} {own : List (Str × Nat)} {pos : Pos} {wi : TI} {g : TG} {tt : WX → TT} {te : WX → TE} {W : WX} (hs : X.stack = X.env :: X.outer) (hf : X.env.frame = some X.env.locals) (tk : L2N.Takes X W) (hc : X.calm = true) (hN : X.N.Nodup) (hi : PI X tg iter wi) (ok : BlkOk X.N X.env.scope scope own)
    (hg : ∀ (s : Shared) (H : Hp) (C : Addr) (cl : List (Str × Addr)) (fp : List Addr), PG (X.blk s H scope (compEnvC scope cl C X.env) fp) tg g)
    (ht : ∀ (s : Shared) (H : Hp) (C : Addr) (cl : List (Str × Addr)) (fp : List Addr) (xe : Value → Shared → Prop) (Wb : WX), HotBlk (blkX X s H scope (compEnvC scope cl C X.env) fp xe) Wb → PTs (blkX X s H scope (compEnvC scope cl C X.env) fp xe) ifs (tt Wb))
    (he : ∀ (s : Shared) (H : Hp) (C : Addr) (cl : List (Str × Addr)) (fp : List Addr) (xe : Value → Shared → Prop) (Wb : WX), HotBlk (blkX X s H scope (compEnvC scope cl C X.env) fp xe) Wb → PE (blkX X s H scope (compEnvC scope cl C X.env) fp xe) elt (te Wb))
    (hfs : ∀ x, foldedSetIterable iter X.env x = pure x := by intro _; rfl) :
    PE X (.ListComp elt [⟨tg, iter, ifs, 0⟩] scope pos) (tLcX W wi g tt te (own.map (·.2))) := by
  refine ⟨fun pins s σ H Q I h => ?_⟩
  rw [eval_ListComp]
  refine lcX_core hc hN hs hf tk I hi ok hg ht he hfs h fun D C s' m H' I' q hn f => ⟨m, hn, fun h'' sb => ?_⟩
  obtain ⟨f0, f1, f2, f3, f4, f5⟩ := f
  exact ⟨.ref D, H', I'.turned (t' := s'.toks) (fun b o hb e => (sb.2 b hb).trans e) f0 f1 f3 f4 f5, rfl, q⟩
/-- name = [..] on one line, the name a local -/
theorem ps_setLcX {i : Nat} {y : Str} {py : Pos} {elt tg iter : Expr} {ifs : List Expr} {scope : Scope} {own : List (Str × Nat)} {pos spos : Pos} {wi : TI} {g : TG} {tt : WX → TT} {te : WX → TE} {W : WX} (hs : X.stack = X.env :: X.outer) (hf : X.env.frame = some X.env.locals) (tk : L2N.Takes X W) (hc : X.calm = true) (hN : X.N.Nodup) (hy : X.N[i]? = some y) (hyl : X.env.scope.names.lookup y = some .local)
    (hsw : swapsWith (.ListComp elt [⟨tg, iter, ifs, 0⟩] scope pos) (some (.Name y py)) spos.line X.env = pure true) (hi : PI X tg iter wi) (ok : BlkOk X.N X.env.scope scope own)
    (hg : ∀ (s : Shared) (H : Hp) (C : Addr) (cl : List (Str × Addr)) (fp : List Addr), PG (X.blk s H scope (compEnvC scope cl C X.env) fp) tg g)
    (ht : ∀ (s : Shared) (H : Hp) (C : Addr) (cl : List (Str × Addr)) (fp : List Addr) (xe : Value → Shared → Prop) (Wb : WX), HotBlk (blkX X s H scope (compEnvC scope cl C X.env) fp xe) Wb → PTs (blkX X s H scope (compEnvC scope cl C X.env) fp xe) ifs (tt Wb))
    (he : ∀ (s : Shared) (H : Hp) (C : Addr) (cl : List (Str × Addr)) (fp : List Addr) (xe : Value → Shared → Prop) (Wb : WX), HotBlk (blkX X s H scope (compEnvC scope cl C X.env) fp xe) Wb → PE (blkX X s H scope (compEnvC scope cl C X.env) fp xe) elt (te Wb))
    (hfs : ∀ x, foldedSetIterable iter X.env x = pure x := by intro _; rfl) :
    PS X (.Assign [.Name y py] (.ListComp elt [⟨tg, iter, ifs, 0⟩] scope pos) spos) (tAsg (tLcX W wi g tt te (own.map (·.2))) (gName i)) := by
  refine ⟨fun pins s σ H D I h => ?_⟩
  rw [exec_Assign_Name_used _ _ _ _ hsw]
  refine wpAny_bind (wpAny_standAt (wpAny_bind ?_))
  show wpAny _ X.A (do let _ ← comprehension (.ListComp elt [⟨tg, iter, ifs, 0⟩] scope pos) scope X.env (firstIterPos [⟨tg, iter, ifs, 0⟩] pos) (newList []) false (eval iter X.env) (some (assign (.Name y py) X.env))) _ _ s
  have h : tLcX W wi g tt te (own.map (·.2)) σ H (fun x H1 => gName i x σ H1 D.nx) := h
  refine wpAny_bind (thn (lcX_core (Qf := fun _ s' => SP X pins D .next s') hc hN hs hf tk I hi ok hg ht he hfs h fun L C s' m H' I' q hn f => ?_) fun _ s' hq => wpAny_pure (wpAny_pure hq))
  show wpAny _ _ (assign (.Name y py) X.env (.ref L)) _ _ _
  refine wpAny_assign_Name (store_ok2 (v := V.ref L) I' hN hy (.inl hyl) rfl (fun s2 I2 ⟨a, sb, ha⟩ => ?_) (.inr hyl))
  obtain ⟨f0, f1, f2, f3, f4, f5⟩ := f
  have haC : C ≠ a := by
    rcases ha with z | z
    · rw [z]; exact f1
    · exact fun e => f4 y a z e.symm
  refine ⟨m, hn.sameBut sb haC, fun h3 sb3 => ?_⟩
  exact ⟨_, H', I2.turned (t' := s2.toks) (fun b o hb e => (sb3.2 b hb).trans e) f0 f1 f3 f4 f5, q⟩
end
theorem r_lcX {W : WX} {wi : TI} {g : TG} {tt : WX → TT} {te : WX → TE} {vs : List Nat} {σ : L2.St} {H : Hp} {Q : VK} (h : tLc wi g (tt fun c d _ H' => W c d σ H') (te fun c d _ H' => W c d σ H') vs σ H Q) : tLcX W wi g tt te vs σ H Q := h
end SH

set_option Elab.async false
set_option linter.all false
set_option maxRecDepth 100000
set_option maxHeartbeats 8000000
/-! the step -/
local macro_rules | `(tactic| walk_at "slot") => `(tactic| (with_reducible first | exact SH.get_z | (apply SH.get_s; walk_at "slot")))
local macro_rules | `(tactic| walk_at "put") => `(tactic| (with_reducible first | exact SH.set_z | (apply SH.set_s; walk_at "put")))
local macro_rules | `(tactic| walk_at "wipe") => `(tactic| (with_reducible first | exact SH.wp_z | apply SH.wp_s (by walk_at "wipe") (by walk_at "put")))
local macro_rules | `(tactic| walk_at "begin") => `(tactic| ((apply SH.r_start (by (repeat (with_reducible first | exact SH.st_z | apply SH.st_c | apply SH.st_n)))); (try dsimp only [L2.Cx.nox, L2.Cx.wish, L2.cxOf])))
local macro_rules | `(tactic| walk_at "r0") => `(tactic| with_reducible first
  | ((apply SH.r_nx (by walk_at "put")))
  | refine SH.r_seq ?_ | refine SH.r_asg ?_ | (apply SH.r_gnw (by walk_at "wipe")) | (apply SH.r_gtw (by walk_at "wipe")) | ((apply SH.r_gname (by walk_at "put")))
  | ((apply SH.r_var (by walk_at "slot"))) | refine SH.r_c ?_ | refine SH.r_op ?_ | refine SH.r_cons ?_ | refine SH.r_nil ?_
  | refine SH.v_addI ?_ | refine SH.v_subI ?_ | refine SH.v_ltI ?_ | refine SH.v_leI ?_ | refine SH.v_gtI ?_ | refine SH.v_geI ?_ | refine SH.v_eqI ?_ | refine SH.v_neI ?_
  | refine SH.v_eqB ?_ | refine SH.v_neB ?_ | refine SH.w_isB ?_ | refine SH.w_notB ?_ | refine SH.v_isN ?_ | refine SH.v_notN ?_ | refine SH.v_ipA ?_ | refine SH.v_ipS ?_ | refine SH.v_and ?_
  | refine SH.r_ifS ?_ | refine SH.r_test ?_ | refine SH.r_bl ?_ | refine SH.r_B ?_ | refine SH.r_and ?_ | refine SH.r_or ?_ | refine SH.r_not ?_ | refine SH.r_andV ?_ | refine SH.r_orV ?_ | refine SH.r_notV ?_
  | refine SH.r_T ?_ | refine SH.r_F ?_ | refine SH.r_nT ?_ | refine SH.r_nF ?_
  | refine SH.r_ret ?_ | refine SH.r_retN ?_ | refine SH.r_drop ?_ | ((apply SH.r_aug (by walk_at "slot"))) | refine SH.r_next ?_ | refine SH.r_if ?_
  | refine SH.r_call ?_ | refine SH.r_cb ?_ | refine SH.r_tup ?_ | refine SH.r_lst ?_ | refine SH.r_part ?_ | refine SH.r_nopart ?_ | refine SH.r_int ?_ | refine SH.r_sl ?_ | refine SH.r_chain ?_
  | refine SH.r_bm ?_ | refine SH.r_bm0 ?_ | refine SH.r_un ?_ | refine SH.r_neg ?_ | refine SH.r_gcons ?_ | refine SH.r_gnil ?_ | refine SH.r_gsub ?_ | refine SH.r_brk ?_ | refine SH.r_cont ?_ | refine SH.r_yes ?_
  | refine SH.r_for ?_ | refine SH.r_lcX ?_ | refine SH.r_lc ?_ | refine SH.r_iList ?_ | refine SH.r_iTup ?_ | refine SH.r_iRng1 ?_ | refine SH.r_iRng2 ?_ | refine SH.r_iRng3 ?_ | refine SH.r_iEnum ?_ | refine SH.r_iZip ?_ | refine SH.r_iRev ?_
  | refine SH.r_fldF ?_ | refine SH.r_sfldF ?_ | refine SH.r_sfldAugF ?_ | refine SH.r_meth ?_ | refine SH.r_make ?_ | refine SH.r_lrg1 ?_ | refine SH.r_lrg2 ?_ | refine SH.r_bits ?_ | refine SH.v_bits ?_ | refine SH.w_max ?_ | refine SH.w_min ?_
  | refine SH.r_par ?_ | refine SH.r_par3 ?_ | (apply SH.v_par (by walk_at "put") (by walk_at "put")) | (apply SH.v_par3 (by walk_at "put") (by walk_at "put") (by walk_at "put"))
  | refine SH.r_callS ?_ | refine SH.r_mkO ?_ | refine SH.r_xf ?_ | refine SH.r_ost ?_ | refine SH.r_methX ?_ | refine SH.r_makeX ?_ | refine SH.r_augS ?_ | refine SH.r_dnewT ?_ | refine SH.r_dput ?_ | refine SH.r_dget1 ?_ | refine SH.r_dgetI ?_ | refine SH.r_din ?_ | refine SH.r_dnotin ?_ | refine SH.w_intI ?_ | refine SH.w_intB ?_ | ((apply SH.v_dget1 (by assumption))))
/-! heap facts -/
local macro_rules | `(tactic| walk_at "ne") => `(tactic| with_reducible first
  | assumption | (apply Ne.symm; assumption)
  | ((apply SH.ne_of_none'); (focus (assumption; done)); (focus (walk_at "lk"))) | ((apply Ne.symm); (apply SH.ne_of_none'); (focus (assumption; done)); (focus (walk_at "lk")))
  | ((apply L2.ne_of); (focus (walk_at "lk")); (focus (walk_at "lk")); (focus (intro z; cases z; done))))
local macro_rules | `(tactic| walk_at "lk") => `(tactic| (focus
  ((repeat (with_reducible first
  | assumption | exact L2.upd_same
  | (apply SH.off_old (by assumption))
  | ((apply SH.off_far); (focus (walk_at "ne")))
  | (apply SH.Stp.keep0 (by assumption))));
        done)))
local macro_rules | `(tactic| walk_at "sq") => `(tactic| (focus
  ((repeat (with_reducible first
  | assumption | exact L2.SqL.of L2.upd_same | exact L2.SqT.of L2.upd_same | exact L2.SqL.of (by assumption) | exact L2.SqT.of (by assumption)
  | (apply SH.sql_off (by assumption)) | (apply SH.sqt_off (by assumption))
  | ((apply SH.sql_offar); (focus (walk_at "ne"))) | ((apply SH.sqt_offar); (focus (walk_at "ne")))
  | (apply SH.Stp.sql0 (by assumption)) | (apply SH.Stp.sqt0 (by assumption))));
        done)))
local macro_rules | `(tactic| walk_at "st") => `(tactic| (focus
  ((repeat (with_reducible first
  | assumption | exact SH.Stp.refl _ _
  | (apply SH.st_new (by assumption)) | (apply SH.st_trans (by assumption)) | ((apply SH.st_put); (focus (walk_at "fr")))));
        done)))
local macro_rules | `(tactic| walk_at "fr") => `(tactic| with_reducible first | assumption | ((apply SH.st_fr (by assumption)); (walk_at "st")))
local macro_rules | `(tactic| walk_at "few") => `(tactic| first | exact SH.few0 | exact SH.few1 | exact SH.few2 | exact SH.few3 | exact SH.few4 | exact SH.few5 | exact SH.few6 | (simp; done))
local macro_rules | `(tactic| walk_at "pf") => `(tactic| first | exact SH.pf_nil | exact SH.pf_hit | (apply SH.pf_miss (by decide) (by walk_at "pf")))
/-! steps with a side -/
local macro_rules | `(tactic| walk_at "r2") => `(tactic| first
  | ((with_reducible refine SH.v_mulI ?_ ?_); (focus (first | exact L2.CMul.ok (.inl ⟨by omega, by omega⟩) | exact L2.CMul.ok (.inr ⟨by omega, by omega⟩) | exact SH.mul64 ⟨by omega, by omega⟩ ⟨by omega, by omega⟩)))
  | ((with_reducible refine SH.v_divS ?_ ?_ ?_); (focus omega); (focus omega))
  | ((with_reducible refine SH.v_mod ?_ ?_); (focus omega))
  | (with_reducible refine SH.v_pow60 ?_)
  | ((with_reducible apply SH.v_lenQ); (focus (walk_at "sq")); (focus (first | exact List.length_map _ | rfl))) | ((with_reducible apply SH.v_lenU); (focus (walk_at "sq")); (focus (first | exact List.length_map _ | rfl)))
  | ((with_reducible apply SH.v_slL); (focus (walk_at "sq"))) | ((with_reducible apply SH.v_iList); (focus (walk_at "sq")))
  | ((with_reducible refine SH.v_rng2 ?_ ?_); (focus (refine ⟨by omega, by omega, by omega, by omega⟩)))
  | ((with_reducible refine SH.v_rng1 ?_ ?_); (focus (refine ⟨by omega, by omega⟩)))
  | ((with_reducible apply SH.v_fld); (focus (walk_at "lk")); (focus rfl)) | ((with_reducible apply SH.v_sfld); (focus (walk_at "lk")); (focus (walk_at "few")); (focus (walk_at "pf"))) | ((with_reducible apply SH.v_aug1); (focus (walk_at "lk")); (focus rfl)) | ((with_reducible apply SH.v_aug2); (focus (walk_at "lk")); (focus (walk_at "few")); (focus (walk_at "pf")))
  | ((with_reducible apply SH.v_enum); (focus (walk_at "sq"))) | ((with_reducible apply SH.v_rev1); (focus (walk_at "sq"))) | ((with_reducible apply SH.v_zip); (focus (walk_at "sq")); (focus (walk_at "sq"))) | ((with_reducible apply SH.v_iTup); (focus (walk_at "sq")))
  | (with_reducible refine SH.v_tup1 ?_) | (with_reducible refine SH.v_tup2 ?_) | (with_reducible refine SH.v_tup3 ?_) | (with_reducible refine SH.v_lst0 ?_) | (with_reducible refine SH.v_lst1 ?_) | (with_reducible refine SH.v_lst2 ?_) | (with_reducible refine SH.v_lst3 ?_) | (with_reducible refine SH.v_lst4 ?_)
  | ((with_reducible apply SH.r_ty); (focus (walk_at "lk")))
  | ((with_reducible apply SH.w_listL); (focus (walk_at "sq"))) | ((with_reducible apply SH.w_listT); (focus (walk_at "sq"))) | ((with_reducible apply SH.w_tupL); (focus (walk_at "sq"))) | ((with_reducible apply SH.w_tupT); (focus (walk_at "sq")))
  | ((with_reducible apply SH.r_gtup); (focus (walk_at "sq")); (focus rfl))
  | ((with_reducible apply SH.r_glst); (focus (walk_at "sq")); (focus rfl))
  | (with_reducible refine SH.r_callX ?_)
  | ((with_reducible refine SH.r_wp ?_ ?_); (focus rfl))
  | ((with_reducible apply SH.v_methX); (focus (walk_at "lk")); (focus rfl)) | ((with_reducible apply SH.v_xf); (focus (walk_at "lk")); (focus rfl)) | ((with_reducible apply SH.v_meth); (focus (walk_at "lk")); (focus rfl)) | ((with_reducible apply SH.isi_L); (focus (walk_at "lk"))) | ((with_reducible apply SH.isi_T); (focus (walk_at "lk"))) | (with_reducible refine SH.isi_bl_bool ?_) | (with_reducible refine SH.isi_bl_int ?_)
  | (with_reducible refine SH.r_ckw ?_) | (with_reducible refine SH.r_ckw2 ?_) | (with_reducible refine SH.r_lrev ?_) | ((with_reducible apply SH.v_lrev); (focus (walk_at "sq")))
  | ((with_reducible refine SH.v_isiIT ?_)) | ((with_reducible refine SH.v_isiIB ?_)) )
local macro_rules | `(tactic| walk_at "r1") => `(tactic| first | walk_at "r0" | walk_at "r2")
local macro_rules | `(tactic| walk_at "rd") => `(tactic| repeat walk_at "r1")
/-! the same, up to the making of an instance, or a call -/
local macro_rules | `(tactic| walk_at "rq") => `(tactic| repeat ((fail_if_success (with_reducible refine SH.r_make ?_)); walk_at "r1"))
local macro_rules | `(tactic| walk_at "rc") => `(tactic| repeat ((fail_if_success (with_reducible refine SH.r_call ?_)); walk_at "r1"))
/-! the same, up to an if -/
local macro_rules | `(tactic| walk_at "ri") => `(tactic| repeat ((fail_if_success (with_reducible refine SH.r_ifS ?_)); walk_at "r1"))

namespace Law
open PySem PySem.Spec PyProof.Rows L2 SH TL
def top (i : Nat) : Stmt := PySem.Challenge.pw_sorthall_k84_no_rule_text.main.body.getD i (.Pass ⟨0, 0, 0, 0⟩)
abbrev s_NoRow___init__ : Stmt := inClass (top 6) 0
theorem sc_NoRow___init__ : FnScope ["self", "line"] ["self", "line"] (defScope s_NoRow___init__) := ⟨rfl, rfl, rfl, by decide +kernel, rfl, by decide +kernel, by decide +kernel⟩
abbrev s_NoOrder___init__ : Stmt := inClass (top 7) 0
theorem sc_NoOrder___init__ : FnScope ["self", "flaw"] ["self", "flaw"] (defScope s_NoOrder___init__) := ⟨rfl, rfl, rfl, by decide +kernel, rfl, by decide +kernel, by decide +kernel⟩
abbrev s_TooFar___init__ : Stmt := inClass (top 8) 0
theorem sc_TooFar___init__ : FnScope ["self", "place", "others"] ["self", "place", "others"] (defScope s_TooFar___init__) := ⟨rfl, rfl, rfl, by decide +kernel, rfl, by decide +kernel, by decide +kernel⟩
abbrev s_Spent___init__ : Stmt := inClass (top 9) 0
theorem sc_Spent___init__ : FnScope ["self", "asked"] ["self", "asked"] (defScope s_Spent___init__) := ⟨rfl, rfl, rfl, by decide +kernel, rfl, by decide +kernel, by decide +kernel⟩
abbrev s_number_in : Stmt := top 12
theorem sc_number_in : FnScope ["word", "figures"] ["word"] (defScope s_number_in) := ⟨rfl, rfl, rfl, by decide +kernel, rfl, by decide +kernel, by decide +kernel⟩
abbrev s_good : Stmt := top 15
theorem sc_good : FnScope ["at"] ["at"] (defScope s_good) := ⟨rfl, rfl, rfl, by decide +kernel, rfl, by decide +kernel, by decide +kernel⟩
abbrev s_Rule_before : Stmt := inClass (top 16) 0
theorem sc_Rule_before : FnScope ["self", "x", "y"] ["self", "x", "y"] (defScope s_Rule_before) := ⟨rfl, rfl, rfl, by decide +kernel, rfl, by decide +kernel, by decide +kernel⟩
abbrev s_Rule_widest : Stmt := inClass (top 16) 1
theorem sc_Rule_widest : FnScope ["self"] ["self"] (defScope s_Rule_widest) := ⟨rfl, rfl, rfl, by decide +kernel, rfl, by decide +kernel, by decide +kernel⟩
abbrev s_KeyRule___init__ : Stmt := inClass (top 17) 0
theorem sc_KeyRule___init__ : FnScope ["self", "columns", "at", "way"] ["self", "columns"] (defScope s_KeyRule___init__) := ⟨rfl, rfl, rfl, by decide +kernel, rfl, by decide +kernel, by decide +kernel⟩
abbrev s_KeyRule_before : Stmt := inClass (top 17) 1
theorem sc_KeyRule_before : FnScope ["self", "x", "y", "at", "way"] ["self", "x", "y"] (defScope s_KeyRule_before) := ⟨rfl, rfl, rfl, by decide +kernel, rfl, by decide +kernel, by decide +kernel⟩
abbrev s_KeyRule_widest : Stmt := inClass (top 17) 2
theorem sc_KeyRule_widest : FnScope ["self", "at", "way"] ["self"] (defScope s_KeyRule_widest) := ⟨rfl, rfl, rfl, by decide +kernel, rfl, by decide +kernel, by decide +kernel⟩
abbrev s_NearRule___init__ : Stmt := inClass (top 18) 0
theorem sc_NearRule___init__ : FnScope ["self", "at", "gap"] ["self", "at", "gap"] (defScope s_NearRule___init__) := ⟨rfl, rfl, rfl, by decide +kernel, rfl, by decide +kernel, by decide +kernel⟩
abbrev s_NearRule_before : Stmt := inClass (top 18) 1
theorem sc_NearRule_before : FnScope ["self", "x", "y"] ["self", "x", "y"] (defScope s_NearRule_before) := ⟨rfl, rfl, rfl, by decide +kernel, rfl, by decide +kernel, by decide +kernel⟩
abbrev s_NearRule_widest : Stmt := inClass (top 18) 2
theorem sc_NearRule_widest : FnScope ["self"] ["self"] (defScope s_NearRule_widest) := ⟨rfl, rfl, rfl, by decide +kernel, rfl, by decide +kernel, by decide +kernel⟩
abbrev s_RingRule___init__ : Stmt := inClass (top 19) 0
theorem sc_RingRule___init__ : FnScope ["self", "at", "size"] ["self", "at", "size"] (defScope s_RingRule___init__) := ⟨rfl, rfl, rfl, by decide +kernel, rfl, by decide +kernel, by decide +kernel⟩
abbrev s_RingRule_before : Stmt := inClass (top 19) 1
theorem sc_RingRule_before : FnScope ["self", "x", "y", "far"] ["self", "x", "y"] (defScope s_RingRule_before) := ⟨rfl, rfl, rfl, by decide +kernel, rfl, by decide +kernel, by decide +kernel⟩
abbrev s_RingRule_widest : Stmt := inClass (top 19) 2
theorem sc_RingRule_widest : FnScope ["self"] ["self"] (defScope s_RingRule_widest) := ⟨rfl, rfl, rfl, by decide +kernel, rfl, by decide +kernel, by decide +kernel⟩
abbrev s_VoteRule___init__ : Stmt := inClass (top 20) 0
theorem sc_VoteRule___init__ : FnScope ["self", "rules"] ["self", "rules"] (defScope s_VoteRule___init__) := ⟨rfl, rfl, rfl, by decide +kernel, rfl, by decide +kernel, by decide +kernel⟩
abbrev s_VoteRule_before : Stmt := inClass (top 20) 1
theorem sc_VoteRule_before : FnScope ["self", "x", "y", "votes", "rule"] ["self", "x", "y"] (defScope s_VoteRule_before) := ⟨rfl, rfl, rfl, by decide +kernel, rfl, by decide +kernel, by decide +kernel⟩
abbrev s_VoteRule_widest : Stmt := inClass (top 20) 2
theorem sc_VoteRule_widest : FnScope ["self", "rule"] ["self"] (defScope s_VoteRule_widest) := ⟨rfl, rfl, rfl, by decide +kernel, rfl, by decide +kernel, by decide +kernel⟩
abbrev s_ChainRule___init__ : Stmt := inClass (top 21) 0
theorem sc_ChainRule___init__ : FnScope ["self", "rules"] ["self", "rules"] (defScope s_ChainRule___init__) := ⟨rfl, rfl, rfl, by decide +kernel, rfl, by decide +kernel, by decide +kernel⟩
abbrev s_ChainRule_before : Stmt := inClass (top 21) 1
theorem sc_ChainRule_before : FnScope ["self", "x", "y", "rule", "first"] ["self", "x", "y"] (defScope s_ChainRule_before) := ⟨rfl, rfl, rfl, by decide +kernel, rfl, by decide +kernel, by decide +kernel⟩
abbrev s_ChainRule_widest : Stmt := inClass (top 21) 2
theorem sc_ChainRule_widest : FnScope ["self", "rule"] ["self"] (defScope s_ChainRule_widest) := ⟨rfl, rfl, rfl, by decide +kernel, rfl, by decide +kernel, by decide +kernel⟩
abbrev s_key_in : Stmt := top 23
theorem sc_key_in : FnScope ["word"] ["word"] (defScope s_key_in) := ⟨rfl, rfl, rfl, by decide +kernel, rfl, by decide +kernel, by decide +kernel⟩
abbrev s_plain_rule : Stmt := top 24
theorem sc_plain_rule : FnScope ["text", "word", "blank", "rest", "key", "last", "number"] ["text"] (defScope s_plain_rule) := ⟨rfl, rfl, rfl, by decide +kernel, rfl, by decide +kernel, by decide +kernel⟩
abbrev s_part_rule : Stmt := top 25
theorem sc_part_rule : FnScope ["text", "part"] ["text"] (defScope s_part_rule) := ⟨rfl, rfl, rfl, by decide +kernel, rfl, by decide +kernel, by decide +kernel⟩
abbrev s_read_rule : Stmt := top 26
theorem sc_read_rule : FnScope ["text", "rules", "part"] ["text"] (defScope s_read_rule) := ⟨rfl, rfl, rfl, by decide +kernel, rfl, by decide +kernel, by decide +kernel⟩
abbrev s__law_cell_at : Stmt := top 28
theorem sc__law_cell_at : FnScope ["_law_script", "_law_k"] ["_law_script", "_law_k"] (defScope s__law_cell_at) := ⟨rfl, rfl, rfl, by decide +kernel, rfl, by decide +kernel, by decide +kernel⟩
abbrev s__law_whole : Stmt := top 29
theorem sc__law_whole : FnScope ["_law_found"] ["_law_found"] (defScope s__law_whole) := ⟨rfl, rfl, rfl, by decide +kernel, rfl, by decide +kernel, by decide +kernel⟩
abbrev s__law_plain : Stmt := top 30
theorem sc__law_plain : FnScope ["_law_cell", "_law_word", "_law_text", "_law_number_here"] ["_law_cell"] (defScope s__law_plain) := ⟨rfl, rfl, rfl, by decide +kernel, rfl, by decide +kernel, by decide +kernel⟩
abbrev s__law_part : Stmt := top 31
theorem sc__law_part : FnScope ["_law_cell"] ["_law_cell"] (defScope s__law_part) := ⟨rfl, rfl, rfl, by decide +kernel, rfl, by decide +kernel, by decide +kernel⟩
abbrev s__law_odd : Stmt := top 32
theorem sc__law_odd : FnScope ["_law_cell", "_law_some"] ["_law_cell"] (defScope s__law_odd) := ⟨rfl, rfl, rfl, by decide +kernel, rfl, by decide +kernel, by decide +kernel⟩
abbrev s__law_spoiled : Stmt := top 33
theorem sc__law_spoiled : FnScope ["_law_text", "_law_cells", "_law_cell", "_law_at", "_law_sign"] ["_law_text", "_law_cells"] (defScope s__law_spoiled) := ⟨rfl, rfl, rfl, by decide +kernel, rfl, by decide +kernel, by decide +kernel⟩
abbrev s__law_number : Stmt := top 34
theorem sc__law_number : FnScope ["_law_word", "_law_figures", "_law_number_here", "_law_sign"] ["_law_word"] (defScope s__law_number) := ⟨rfl, rfl, rfl, by decide +kernel, rfl, by decide +kernel, by decide +kernel⟩
abbrev s__law_key : Stmt := top 35
theorem sc__law_key : FnScope ["_law_word"] ["_law_word"] (defScope s__law_key) := ⟨rfl, rfl, rfl, by decide +kernel, rfl, by decide +kernel, by decide +kernel⟩
abbrev s__law_plain_key : Stmt := top 36
theorem sc__law_plain_key : FnScope ["_law_text", "_law_words", "_law_number_here"] ["_law_text"] (defScope s__law_plain_key) := ⟨rfl, rfl, rfl, by decide +kernel, rfl, by decide +kernel, by decide +kernel⟩
abbrev s__law_widest : Stmt := top 37
theorem sc__law_widest : FnScope ["_law_text", "_law_widest_here", "_law_part_here", "_law_plains", "_law_plain_here", "_law_key_here"] ["_law_text"] (defScope s__law_widest) := ⟨rfl, rfl, rfl, by decide +kernel, rfl, by decide +kernel, by decide +kernel⟩
abbrev s__law_refused : Stmt := top 38
theorem sc__law_refused : FnScope ["_law_text", "_law_kinds", "e"] ["_law_text"] (defScope s__law_refused) := ⟨rfl, rfl, rfl, by decide +kernel, rfl, by decide +kernel, by decide +kernel⟩
abbrev s_law : Stmt := top 39
theorem sc_law : FnScope ["_law_script", "_law_parts", "_law_text", "_law_many", "_law_due", "_law_found", "_law_k"] ["_law_script"] (defScope s_law) := ⟨rfl, rfl, rfl, by decide +kernel, rfl, by decide +kernel, by decide +kernel⟩
structure Ad where
  HallError : Addr
  NoRule : Addr
  NoPaper : Addr
  NoPlace : Addr
  NoKey : Addr
  NoRow : Addr
  NoOrder : Addr
  TooFar : Addr
  Spent : Addr
  Rule : Addr
  KeyRule : Addr
  NearRule : Addr
  RingRule : Addr
  VoteRule : Addr
  ChainRule : Addr
structure Txt (K : PySem.W.Frag) (mg : Str → Option Value) (A : Ad) : Prop where
  z_ValueError : mg "ValueError" = Option.none
  z_int : mg "int" = Option.none
  z_list : mg "list" = Option.none
  z_max : mg "max" = Option.none
  z_isinstance : mg "isinstance" = Option.none
  z_str : mg "str" = Option.none
  z_len : mg "len" = Option.none
  z_bool : mg "bool" = Option.none
  z_range : mg "range" = Option.none
  g_HallError : mg "HallError" = some (.ref A.HallError)
  xn_HallError : PySem.W.excIn K A.HallError [.type "ValueError", .type "Exception", .type "BaseException", .type "object"] "ValueError.__new__" = true
  kp_HallError : PySem.W.keepIn K (.ref A.HallError) = true
  sb_HallError : PySem.W.subIn K (.ref A.HallError) (.type "BaseException") = some true
  ty_HallError : PySem.W.typeIn K (.ref A.HallError) = some (.type "type")
  ec_HallError : L2.ExcC K A.HallError
  g_NoRule : mg "NoRule" = some (.ref A.NoRule)
  xn_NoRule : PySem.W.excIn K A.NoRule [.type "ValueError", .type "Exception", .type "BaseException", .type "object"] "ValueError.__new__" = true
  kp_NoRule : PySem.W.keepIn K (.ref A.NoRule) = true
  sb_NoRule : PySem.W.subIn K (.ref A.NoRule) (.type "BaseException") = some true
  ty_NoRule : PySem.W.typeIn K (.ref A.NoRule) = some (.type "type")
  ec_NoRule : L2.ExcC K A.NoRule
  g_NoPaper : mg "NoPaper" = some (.ref A.NoPaper)
  g_NoPlace : mg "NoPlace" = some (.ref A.NoPlace)
  g_NoKey : mg "NoKey" = some (.ref A.NoKey)
  g_NoRow : mg "NoRow" = some (.ref A.NoRow)
  g_NoOrder : mg "NoOrder" = some (.ref A.NoOrder)
  g_TooFar : mg "TooFar" = some (.ref A.TooFar)
  g_Spent : mg "Spent" = some (.ref A.Spent)
  g_Rule : mg "Rule" = some (.ref A.Rule)
  cl_Rule : Cls K A.Rule
  g_KeyRule : mg "KeyRule" = some (.ref A.KeyRule)
  cl_KeyRule : Cls K A.KeyRule
  na_KeyRule_columns : NoAttr K A.KeyRule "columns"
  g_NearRule : mg "NearRule" = some (.ref A.NearRule)
  cl_NearRule : Cls K A.NearRule
  na_NearRule_at : NoAttr K A.NearRule "at"
  na_NearRule_gap : NoAttr K A.NearRule "gap"
  g_RingRule : mg "RingRule" = some (.ref A.RingRule)
  cl_RingRule : Cls K A.RingRule
  na_RingRule_at : NoAttr K A.RingRule "at"
  na_RingRule_size : NoAttr K A.RingRule "size"
  g_VoteRule : mg "VoteRule" = some (.ref A.VoteRule)
  cl_VoteRule : Cls K A.VoteRule
  na_VoteRule_rules : NoAttr K A.VoteRule "rules"
  g_ChainRule : mg "ChainRule" = some (.ref A.ChainRule)
  cl_ChainRule : Cls K A.ChainRule
  na_ChainRule_rules : NoAttr K A.ChainRule "rules"
  k_MOST_FIGURES : ∃ u, mg "MOST_FIGURES" = some u ∧ RelV (.int 60) u
  k_LAST : ∃ u, mg "LAST" = some u ∧ RelV (.int 7) u
  exm_NoRule_HallError : PySem.W.exmOne K (.ref A.NoRule) (.ref A.HallError) = some true
  kits_NoRule_ValueError : PySem.W.kitOne K (.ref A.NoRule) (.type "ValueError") = some true
  kits_NoRule_NoRow : PySem.W.kitOne K (.ref A.NoRule) (.ref A.NoRow) = some false
  kits_NoRule_NoRule : PySem.W.kitOne K (.ref A.NoRule) (.ref A.NoRule) = some true
  kits_NoRule_NoPlace : PySem.W.kitOne K (.ref A.NoRule) (.ref A.NoPlace) = some false
  kits_NoRule_NoKey : PySem.W.kitOne K (.ref A.NoRule) (.ref A.NoKey) = some false
  kits_NoRule_NoPaper : PySem.W.kitOne K (.ref A.NoRule) (.ref A.NoPaper) = some false
  kits_NoRule_NoOrder : PySem.W.kitOne K (.ref A.NoRule) (.ref A.NoOrder) = some false
  kits_NoRule_TooFar : PySem.W.kitOne K (.ref A.NoRule) (.ref A.TooFar) = some false
  kits_NoRule_Spent : PySem.W.kitOne K (.ref A.NoRule) (.ref A.Spent) = some false
  mkp_Rule : SH.MkP K A.Rule
theorem r_J {t : TS} {D : Ends} {σ : L2.St} {H : Hp} (P : L2.St → Hp → Prop) (hk : ∀ σ' H', P σ' H' → D.nx σ' H') (h : ∀ N : L2.St → Hp → Prop, (∀ σ' H', P σ' H' → N σ' H') → t { D with nx := N } σ H) : t D σ H := h D.nx hk
def sp__law_cell_at (K : PySem.W.Frag) (A : Ad) : Sp := fun vs H Q _ => ∃ (a : Addr) (ns : List Int) (k : Nat), vs = [.ref a, .int k] ∧ SqL K H a (ns.map V.int) ∧ ∀ c : Int, Q (.int c) H
theorem ok__law_cell_at {P : Program} {w : World} {K : PySem.W.Frag} {mg : Str → Option Value} {base : Heap} {A : Ad} {f : Addr} {fd : FuncData} (F : Fun K "_law_cell_at" "_law_cell_at" s__law_cell_at f fd) (T : Txt K mg A)  : FnOk P w K mg base CX0 1 f fd ["_law_script", "_law_k"] (sp__law_cell_at K A) := by
  refine F.ok sc__law_cell_at (fun vs H Q E h => by obtain ⟨_, _, _, rfl, _⟩ := h; rfl) (fun cdv A' outer s H vs Q E hr h => ?_)
  obtain ⟨a, ns, i, rfl, hS, k⟩ := h
  refine ⟨_, (pss_cons (ps_if (pt_cmpR (SH.oLt hr.units0) (pv 1) (pe_callB SH.cLen (by rfl) T.z_len (by decide +kernel) (pa_cons (pv 0) pa_nil)) (nomark _)) (pss_one (ps_ret (pe_ix SH.ixA (pv 0) (pv 1) (fun _ _ => rfl)))) pss_nil)
        (pss_one (ps_ret pe_int))), ?_⟩
  walk_at "begin"
  walk_at "rd"
  refine r_w (fun hc => ?_) fun hc => ?_
  · walk_at "rd"
    refine v_ixE (n := i) (by walk_at "sq") rfl (by omega) ?_
    walk_at "rd"
    exact k _
  · walk_at "rd"
    exact k _
/-! ### texts of numbers -/
abbrev istr (z : Int) : Str := Str.ofString (toString z)
theorem tl_istr_nat (n : Nat) : tl (istr (n : Int)) = numL n := tl_num n
theorem tl_istr_neg (n : Nat) : tl (istr (Int.negSucc n)) = 45 :: numL (n + 1) := by
  have h1 : toString (Int.negSucc n) = "-" ++ toString (((n + 1 : Nat) : Nat) : Int) := rfl
  rw [← tl_istr_nat]
  unfold istr
  rw [h1, tl_ofString, tl_ofString, String.toList_append, List.map_append]
  rfl
theorem istr_len {z : Int} {k : Nat} (hk : 0 < k) (h0 : -(10 ^ k : Int) < z) (h1 : z < 10 ^ k) : (istr z).length ≤ k + 1 := by
  rw [len_tl]
  cases z with
  | ofNat n =>
    have := numL_len (n := n) hk (by have : ((n : Nat) : Int) < ((10 ^ k : Nat) : Int) := by rw [Int.natCast_pow]; exact h1
                                     omega)
    rw [show Int.ofNat n = (n : Int) from rfl, tl_istr_nat]
    omega
  | negSucc n =>
    have := numL_len (n := n + 1) hk (by have : ((n + 1 : Nat) : Int) < ((10 ^ k : Nat) : Int) := by
                                           rw [Int.natCast_pow]
                                           have := Int.negSucc_eq n
                                           have e : ((10 : Nat) : Int) ^ k = (10 : Int) ^ k := rfl
                                           rw [e]
                                           omega
                                         omega)
    rw [tl_istr_neg]
    simp
    omega
theorem tl_rjust (x : Str) (i : Int) : tl (Txt.rjust x i) = List.replicate (i.toNat - x.length) 32 ++ tl x := PyProof.Rows.rjustF_list x i 32
theorem joinL_flat (ps : List (List Nat)) : ps ≠ [] → 32 :: joinL [32] ps = (ps.map fun p => 32 :: p).flatten := by
  induction ps with
  | nil => intro h; exact (h rfl).elim
  | cons p qs ih =>
    intro _
    cases qs with
    | nil => simp [joinL]
    | cons q r => rw [List.map_cons, List.flatten_cons, ← ih (by simp)]; simp [joinL]
theorem joinL_snoc (S : List Nat) (l : List Nat) : ∀ {ls : List (List Nat)}, ls ≠ [] → joinL S (ls ++ [l]) = joinL S ls ++ (S ++ l)
  | [], h => (h rfl).elim
  | [p], _ => rfl
  | p :: q :: r, _ => by
    show p ++ (S ++ joinL S (q :: r ++ [l])) = p ++ (S ++ joinL S (q :: r)) ++ (S ++ l)
    rw [joinL_snoc S l (ls := q :: r) (by simp)]
    simp [List.append_assoc]
theorem free32 (z : Int) : 32 ∉ tl (istr z) := by
  cases z with
  | ofNat n => rw [show Int.ofNat n = (n : Int) from rfl, tl_istr_nat]; exact numL_free (by omega)
  | negSucc n =>
    rw [tl_istr_neg]
    intro h
    rcases List.mem_cons.mp h with h | h
    · omega
    · exact numL_free (n := n + 1) (s := 32) (by omega) h
theorem sum_le {α : Type} {f : α → Nat} {c : Nat} : ∀ {xs : List α}, (∀ x ∈ xs, f x ≤ c) → (xs.map f).sum ≤ xs.length * c
  | [], _ => by simp
  | x :: xs, h => by
    have := sum_le (xs := xs) fun y hy => h y (List.mem_cons_of_mem _ hy)
    have := h x (List.mem_cons_self ..)
    simp only [List.map_cons, List.sum_cons, List.length_cons, Nat.add_mul, Nat.one_mul]
    omega
theorem joinL_mem {S : List Nat} {c : Nat} : ∀ {ps : List (List Nat)}, c ∈ joinL S ps → c ∈ S ∨ ∃ p ∈ ps, c ∈ p
  | [], h => by cases h
  | [p], h => .inr ⟨p, List.mem_singleton.mpr rfl, h⟩
  | p :: q :: r, h => by
    rcases List.mem_append.mp (show c ∈ p ++ (S ++ joinL S (q :: r)) from h) with h | h
    · exact .inr ⟨p, List.mem_cons_self .., h⟩
    · rcases List.mem_append.mp h with h | h
      · exact .inl h
      · rcases joinL_mem h with h | ⟨p', hp', h⟩
        · exact .inl h
        · exact .inr ⟨p', List.mem_cons_of_mem _ hp', h⟩
theorem joinL_ne {S p : List Nat} {ps : List (List Nat)} (h : joinL S (p :: ps) = []) : p = [] := by
  cases ps with
  | nil => exact h
  | cons q r => exact (List.append_eq_nil_iff.mp (show p ++ (S ++ joinL S (q :: r)) = [] from h)).1
theorem len_app (x y : Str) : (x ++ y).length = x.length + y.length := by rw [len_tl, tl_append, List.length_append, ← len_tl, ← len_tl]
theorem sw_pre {x y : Str} (hy : tl y ≠ []) : Txt.startswith x y = pre (tl y) (tl x) := by
  have h := at_iff (x := x) hy 0
  rw [List.drop_zero] at h
  cases hp : pre (tl y) (tl x) with
  | true =>
    have := h.mpr hp
    unfold Txt.startswith
    rw [Bool.and_eq_true]
    exact ⟨decide_eq_true this.1, this.2⟩
  | false =>
    cases hs : Txt.startswith x y with
    | false => rfl
    | true =>
      unfold Txt.startswith at hs
      rw [Bool.and_eq_true] at hs
      rw [h.mp ⟨of_decide_eq_true hs.1, hs.2⟩] at hp
      cases hp
/-! ### words of any signs of the menu -/
def menu : List Nat := [45, 48, 49, 50, 51, 52, 53, 54, 55, 56, 57, 43, 46, 95, 32, 10, 44, 124] ++ (List.range 26).map (fun i => 97 + i) ++ [85]
def okS (s : Str) : Prop := ∀ c ∈ tl s, c ∈ menu
theorem walk_text {x : Str} : Walk (Its x) x.length (fun _ => True) (YAt ((tl x).map fun c => V.str ⟨#[c]⟩)) :=
  ⟨fun i _ hi _ => hi, fun _ _ => Nat.le_refl _, fun i H v H' hi _ y => by
    obtain ⟨e, c, hc, rfl⟩ := y
    exact ⟨e, by rw [List.getElem?_map]; show Option.map _ x.cps.toList[i]? = _; rw [Array.getElem?_toList, hc]; rfl⟩⟩
def figs (l : List Nat) : List Nat := if l.head? = some 45 then l.tail else l
def dig (c : Nat) : Bool := decide (48 ≤ c) && decide (c ≤ 57)
theorem dig_all {l : List Nat} : l.all dig = true ↔ NumText.AllDigits l := by
  rw [List.all_eq_true]
  constructor
  · intro h c hc
    have := h c hc
    unfold dig at this
    simpa using this
  · intro h c hc
    have := h c hc
    unfold dig
    simpa using this
/-- the whole number that a word writes -/
def numS (l : List Nat) : Option Int :=
  if figs l = [] ∨ 60 < (figs l).length ∨ ((figs l).head? = some 48 ∧ l ≠ [48]) ∨ (figs l).all dig = false then none
  else some (if l.head? = some 45 then -((NumText.digitsVal (figs l) : Nat) : Int) else ((NumText.digitsVal (figs l) : Nat) : Int))
def numV : Option Int → V
  | none => .non
  | some z => .int z
theorem pre1 {c : Nat} {l : List Nat} : pre [c] l = decide (l.head? = some c) := by
  unfold pre
  cases l with
  | nil => rfl
  | cons d r =>
    simp only [List.length_singleton, List.take_succ_cons, List.take_zero, List.head?_cons]
    by_cases h : d = c
    · subst h; simp
    · simp [h]
theorem isdigit_menu {x : Str} (h : okS x) : Txt.isdigit x = (decide (tl x ≠ []) && (tl x).all dig) := by
  have hh : ∀ c ∈ menu, Unicode.isDigit c = dig c := by decide +kernel
  unfold Txt.isdigit
  congr 1
  · rw [len_tl]
    cases htl : tl x with
    | nil => simp
    | cons c r => simp
  · have e : x.cps.all (fun c => Unicode.isDigit c) = (tl x).all fun c => Unicode.isDigit c := by simp [tl]
    show x.cps.all (fun c => Unicode.isDigit c) = _
    rw [e]
    rw [Bool.eq_iff_iff, List.all_eq_true, List.all_eq_true]
    exact ⟨fun z c hc => by rw [← hh c (h c hc)]; exact z c hc, fun z c hc => by rw [hh c (h c hc)]; exact z c hc⟩
theorem tl_cut1 (x : Str) : tl (cutS x (some 1) none) = (tl x).tail := by
  unfold cutS
  change List.take _ (List.drop _ (tl x)) = _
  rw [len_tl]
  cases htl : tl x with
  | nil => simp
  | cons c r => simp [HT.sIx]
theorem tl_cut01 (x : Str) : tl (cutS x none (some 1)) = (tl x).take 1 := by
  unfold cutS
  change List.take _ (List.drop _ (tl x)) = _
  rw [len_tl]
  cases htl : tl x with
  | nil => simp
  | cons c r => simp [HT.sIx]
theorem okS_cut1 {x : Str} (h : okS x) : okS (cutS x (some 1) none) := fun c hc => by
  rw [tl_cut1] at hc
  exact h c (List.mem_of_mem_tail hc)
theorem tl_min : tl (Str.ofString "-") = [45] := by decide +kernel
theorem tl_zero : tl (Str.ofString "0") = [48] := by decide +kernel
theorem str_eq {x y : Str} : x = y ↔ tl x = tl y := ⟨fun h => by rw [h], ext_tl⟩
/-- the figures of a word, as a text -/
def figT (x : Str) : Str := if (tl x).head? = some 45 then cutS x (some 1) none else x
theorem tl_figT (x : Str) : tl (figT x) = figs (tl x) := by
  unfold figT figs
  split
  · exact tl_cut1 x
  · rfl
theorem okS_figT {x : Str} (h : okS x) : okS (figT x) := by
  unfold figT
  split
  · exact okS_cut1 h
  · exact h
theorem figT_len (x : Str) : (figT x).length ≤ x.length := by
  unfold figT
  split
  · exact cutS_length _ _ _
  · exact Nat.le_refl _
theorem figs_len (l : List Nat) : l.length ≤ (figs l).length + 1 := by
  unfold figs
  split
  · rw [List.length_tail]; omega
  · omega
theorem int_word {x : Str} (h1 : figs (tl x) ≠ []) (h2 : (figs (tl x)).length ≤ 60) (h3 : (figs (tl x)).all dig = true) : intText? x = some (if (tl x).head? = some 45 then -((NumText.digitsVal (figs (tl x)) : Nat) : Int) else ((NumText.digitsVal (figs (tl x)) : Nat) : Int)) := by
  have hd := dig_all.mp h3
  unfold figs at h1 h2 h3 hd ⊢
  cases htl : tl x with
  | nil => rw [htl] at h1; simp at h1
  | cons c r =>
    rw [htl] at h1 h2 h3 hd
    have hlen : x.length = r.length + 1 := by rw [len_tl, htl]; rfl
    by_cases hc : c = 45
    · subst hc
      simp only [List.head?_cons, if_true, List.tail_cons] at h1 h2 h3 hd ⊢
      exact intText_neg htl hd h1 (by omega)
    · simp only [List.head?_cons, Option.some.injEq, hc, if_false] at h1 h2 h3 hd ⊢
      rw [← htl] at hd ⊢
      exact intText_digits hd (by show tl x ≠ []; rw [htl]; simp) (by simp at h2; omega)
def sp_number_in (K : PySem.W.Frag) (A : Ad) : Sp := fun vs H Q _ => ∃ (x : Str), vs = [.str x] ∧ okS x ∧ x.length ≤ 100000 ∧ Q (numV (numS (tl x))) H
theorem ok_number_in {P : Program} {w : World} {K : PySem.W.Frag} {mg : Str → Option Value} {base : Heap} {A : Ad} {f : Addr} {fd : FuncData} (F : Fun K "number_in" "number_in" s_number_in f fd) (T : Txt K mg A)  : FnOk P w K mg base CX0 1 f fd ["word"] (sp_number_in K A) := by
  refine F.ok sc_number_in (fun vs H Q E h => by obtain ⟨_, rfl, _⟩ := h; rfl) (fun cdv A' outer s H vs Q E hr h => ?_)
  obtain ⟨x, rfl, hx, hl, k⟩ := h
  refine ⟨_, (pss_cons (ps_set (i := 1) sc_number_in.nd rfl (Or.inl rfl) (pv 0))
        (pss_cons (ps_if (pt_val (pe_bm PySem.F.plainAttrs_str PySem.F.slot_str_startswith PySem.F.type_str_startswith mt_startswith (pv 0) (pa_cons pe_str pa_nil))) (pss_one (ps_set (i := 1) sc_number_in.nd rfl (Or.inl rfl) (pe_slice sl_str (pv 0) (po_some pe_int) po_none))) pss_nil)
        (pss_cons (ps_if (PW.pt (pw_or (pt_not (pt_val (pe_bm0 PySem.F.plainAttrs_str PySem.F.slot_str_isdigit PySem.F.type_str_isdigit mt_isdigit (pv 1)))) (pw_or1 (pt_cmpR SH.oGt (pe_callB SH.cLen (by rfl) T.z_len (by decide +kernel) (pa_cons (pv 1) pa_nil)) (SH.pe_k T.k_MOST_FIGURES) (nomark _))))) (pss_one (ps_ret pe_non)) pss_nil)
        (pss_cons (ps_if (PW.pt (pw_and (pt_val (pe_bm PySem.F.plainAttrs_str PySem.F.slot_str_startswith PySem.F.type_str_startswith mt_startswith (pv 1) (pa_cons pe_str pa_nil))) (pw_and1 (pt_cmpR (SH.oNe hr.units) (pv 0) pe_str (nomark _))))) (pss_one (ps_ret pe_non)) pss_nil)
        (pss_one (ps_ret (pe_callTy call_int_str (by rfl) T.z_int (by decide +kernel) (pa_cons (pv 0) pa_nil)))))))), ?_⟩
  walk_at "begin"
  walk_at "ri"
  refine r_J (fun σ H' => H' = H ∧ σ = [some (.str x), some (.str (figT x))]) ?_ fun N hN => ?_
  rotate_left
  · walk_at "rd"
    refine ⟨ty_str, ?_⟩
    walk_at "rd"
    refine ⟨_, _, rfl, rfl, ?_⟩
    rw [sw_pre (by rw [tl_min]; simp), tl_min, pre1]
    walk_at "rd"
    refine r_w (fun hc => ?_) fun hc => ?_
    · walk_at "rd"
      refine ⟨_, rfl, Nat.le_trans hl (by decide), ?_⟩
      walk_at "rd"
      exact hN _ _ ⟨rfl, by unfold figT; rw [if_pos hc]⟩
    · walk_at "rd"
      exact hN _ _ ⟨rfl, by unfold figT; rw [if_neg hc]⟩
  rintro σ H1 ⟨rfl, rfl⟩
  have hf := tl_figT x
  have hfl : (figT x).length = (figs (tl x)).length := by rw [len_tl, hf]
  dsimp only
  walk_at "rd"
  refine ⟨ty_str, _, rfl, rfl, True.intro, ?_⟩
  rw [isdigit_menu (okS_figT hx), hf]
  unfold numS at k
  cases hd : (figs (tl x)).all dig with
  | false =>
    rw [if_pos (by simp [hd])] at k
    rw [Bool.and_false]
    walk_at "rd"
    exact k
  | true =>
    rw [Bool.and_true]
    by_cases he : figs (tl x) = []
    · rw [if_pos (.inl he)] at k
      rw [decide_eq_false (by simp [he])]
      walk_at "rd"
      exact k
    rw [decide_eq_true he]
    walk_at "rd"
    refine ⟨Nat.le_trans (Nat.le_trans (figT_len x) hl) (by decide), ?_⟩
    walk_at "rd"
    refine r_w (fun hc => ?_) fun hc => ?_
    · rw [if_pos (.inr (.inl (by omega)))] at k
      walk_at "rd"
      exact k
    have h60 : (figs (tl x)).length ≤ 60 := by omega
    have hx61 : x.length ≤ 61 := by have := figs_len (tl x); rw [len_tl]; omega
    walk_at "rd"
    refine ⟨ty_str, ?_⟩
    walk_at "rd"
    refine ⟨_, _, rfl, rfl, ?_⟩
    rw [sw_pre (by rw [tl_zero]; simp), tl_zero, pre1, hf]
    walk_at "rd"
    have fin : ¬ ((figs (tl x)).head? = some 48 ∧ tl x ≠ [48]) → Q (.int (if (tl x).head? = some 45 then -((NumText.digitsVal (figs (tl x)) : Nat) : Int) else ((NumText.digitsVal (figs (tl x)) : Nat) : Int))) H1 := fun h => by
      rw [if_neg (fun z => by
        rcases z with z | z | z | z
        · exact he z
        · omega
        · exact h z
        · rw [hd] at z; cases z)] at k
      exact k
    refine r_w (fun hc => ?_) fun hc => ?_
    · walk_at "rd"
      refine v_neS ?_
      by_cases hz : x = Str.ofString "0"
      · rw [decide_eq_true hz]
        walk_at "rd"
        have hz' : tl x = [48] := by rw [hz, tl_zero]
        exact ⟨_, _, rfl, int_word he h60 hd, Nat.le_trans hx61 (by decide), fin fun z => z.2 hz'⟩
      · rw [decide_eq_false hz]
        walk_at "rd"
        rw [if_pos (.inr (.inr (.inl ⟨hc, fun z => hz (ext_tl (by rw [z, tl_zero]))⟩)))] at k
        exact k
    · walk_at "rd"
      exact ⟨_, _, rfl, int_word he h60 hd, Nat.le_trans hx61 (by decide), fin fun z => hc z.1⟩

/-! ### the law's own reading of a word -/
def hval (l : List Nat) : Int := ((NumText.digitsVal l : Nat) : Int)
theorem hval_snoc {l : List Nat} {c : Nat} (h : dig c = true) : hval (l ++ [c]) = 10 * hval l + ((c : Int) - 48) := by
  have hc : 48 ≤ c := by unfold dig at h; simp at h; exact h.1
  unfold hval NumText.digitsVal
  rw [List.foldl_append]
  simp only [List.foldl_cons, List.foldl_nil]
  omega
theorem sign_facts : ∀ c ∈ menu, (!(Builtin.Str.occurrences (Str.ofString "0123456789") ⟨#[c]⟩ 0 (Str.ofString "0123456789").length 1).isEmpty) = dig c ∧ (dig c = true → Txt.find (Str.ofString "0123456789") ⟨#[c]⟩ = (c : Int) - 48) := by decide +kernel
theorem atI_zero {l : List Nat} {c : Nat} (h : l.head? = some c) : atI l 0 = some c := by
  cases l with
  | nil => cases h
  | cons d r =>
    cases h
    have e : (c :: r)[0]? = some c := rfl
    exact atI_nat e
theorem r_iStr {te : TE} {σ : L2.St} {H : Hp} {R : It → Hp → Prop} (h : te σ H fun v H1 => ∃ x, v = .str x ∧ R (Its x) H1) : iStr te σ H R := h
/-! ### rules read from any text -/
/-- the number of a thing's number that a figure writes -/
def keyS (l : List Nat) : Option Nat := match l with
  | [c] => if 48 ≤ c ∧ c ≤ 55 then some (c - 48) else none
  | _ => none
theorem keyS_lt {l : List Nat} {k : Nat} (h : keyS l = some k) : k < 8 := by
  unfold keyS at h
  split at h
  · split at h
    · cases h; omega
    · cases h
  · cases h
theorem keyS_one (c : Nat) : keyS [c] = if 48 ≤ c ∧ c ≤ 55 then some (c - 48) else none := rfl
theorem key1_is : ∀ c ∈ menu, (Builtin.Str.occurrences (Str.ofString "01234567") ⟨#[c]⟩ 0 (Str.ofString "01234567").length 1).isEmpty = !decide (48 ≤ c ∧ c ≤ 55) := by decide +kernel
theorem one_tl {x : Str} {c : Nat} (h : tl x = [c]) : x = ⟨#[c]⟩ := ext_tl (by rw [h])
theorem key1_int : ∀ c ∈ menu, 48 ≤ c ∧ c ≤ 55 → intText? (⟨#[c]⟩ : Str) = some ((c - 48 : Nat) : Int) := by decide +kernel
def sp_key_in (K : PySem.W.Frag) (A : Ad) : Sp := fun vs H Q E => ∃ (x : Str), vs = [.str x] ∧ (okS x ∧ x.length ≤ 100000) ∧ (∀ k : Nat, keyS (tl x) = some k → Q (.int k) H) ∧ (keyS (tl x) = none → E (.ref A.NoRule) none H)
theorem ok_key_in {P : Program} {w : World} {K : PySem.W.Frag} {mg : Str → Option Value} {base : Heap} {A : Ad} {f : Addr} {fd : FuncData} (F : Fun K "key_in" "key_in" s_key_in f fd) (T : Txt K mg A)  : FnOk P w K mg base (L2N.CX P w) 1 f fd ["word"] (sp_key_in K A) := by
  refine SH.okN F sc_key_in (fun vs H Q E h => by obtain ⟨_, rfl, _⟩ := h; rfl) (fun cdv A' outer s H vs Q E hr h => ?_)
  obtain ⟨x, rfl, ⟨hx, hl⟩, k, kE⟩ := h
  refine ⟨_, (pss_cons (ps_if (PW.pt (pw_or (pt_cmpR (SH.oNe hr.units) (pe_callB SH.cLen (by rfl) T.z_len (by decide +kernel) (pa_cons (pv 0) pa_nil)) pe_int (nomark _)) (pw_or1 (pt_cmpR op_notin_str (pv 0) pe_str (by rfl))))) (pss_one (L2N.ps_raise rfl (L2N.takes_of rfl rfl rfl rfl) (L2N.pmk_own PySem.F.excBase_ValueError T.xn_NoRule T.g_NoRule T.kp_NoRule (raises_own T.sb_NoRule T.ty_NoRule) rfl))) pss_nil)
        (pss_one (ps_ret (pe_callTy call_int_str (by rfl) T.z_int (by decide +kernel) (pa_cons (pv 0) pa_nil))))), ?_⟩
  walk_at "begin"
  walk_at "rd"
  refine ⟨Nat.le_trans hl (by decide), ?_⟩
  walk_at "rd"
  by_cases h1 : (tl x).length = 1
  · obtain ⟨c, hc⟩ := List.length_eq_one_iff.mp h1
    have hcm : c ∈ menu := hx c (by rw [hc]; exact List.mem_singleton.mpr rfl)
    have e := one_tl hc
    subst e
    rw [hc] at k kE
    refine r_nwF (by rw [len_tl, hc]; rfl) ?_
    walk_at "rd"
    refine ⟨_, _, rfl, rfl, ?_⟩
    rw [key1_is c hcm]
    by_cases h8 : 48 ≤ c ∧ c ≤ 55
    · rw [decide_eq_true h8, show (!(!(!true))) = false from rfl]
      walk_at "rd"
      exact ⟨_, _, rfl, key1_int c hcm h8, by show 1 ≤ _; decide, k _ (by rw [keyS_one, if_pos h8])⟩
    · rw [decide_eq_false h8, show (!(!(!false))) = true from rfl]
      walk_at "rd"
      exact kE (by rw [keyS_one, if_neg h8])
  · refine r_nwT (by rw [len_tl]; omega) ?_
    walk_at "rd"
    exact kE (by
      unfold keyS
      split
      · rename_i c hc
        rw [hc] at h1
        exact absurd rfl h1
      · rfl)
def sp_good (K : PySem.W.Frag) (A : Ad) : Sp := fun vs H Q _ => ∃ (i : Int), vs = [.int i] ∧ (0 ≤ i ∧ i < 8) ∧ Q (.int i) H
theorem ok_good {P : Program} {w : World} {K : PySem.W.Frag} {mg : Str → Option Value} {base : Heap} {A : Ad} {f : Addr} {fd : FuncData} (F : Fun K "good" "good" s_good f fd) (T : Txt K mg A)  : FnOk P w K mg base CX0 1 f fd ["at"] (sp_good K A) := by
  refine F.ok sc_good (fun vs H Q E h => by obtain ⟨_, rfl, _⟩ := h; rfl) (fun cdv A' outer s H vs Q E hr h => ?_)
  obtain ⟨i, rfl, ⟨h0, h1⟩, k⟩ := h
  refine ⟨_, (pss_cons (ps_if (PW.pt (pw_or (pt_cmpR (SH.oLt hr.units0) (pv 0) pe_int (nomark _)) (pw_or1 (pt_cmpR SH.oGt (pv 0) (SH.pe_k T.k_LAST) (nomark _))))) (pss_one ps_never) pss_nil)
        (pss_one (ps_ret (pv 0)))), ?_⟩
  walk_at "begin"
  walk_at "rd"
  refine r_wF (by omega) ?_
  walk_at "rd"
  refine r_wF (by omega) ?_
  walk_at "rd"
  exact k
/-! ### rules by keys -/
def wayS (b : Bool) : Str := if b then "up" else "down"
theorem wayS_up {b : Bool} : decide (wayS b = "up") = b := by cases b <;> decide +kernel
theorem wayS_down {b : Bool} : decide (wayS b = "down") = !b := by cases b <;> decide +kernel
/-- the columns in a heap -/
def Cols (K : PySem.W.Frag) (H : Hp) (cvs : List V) (cols : List (Nat × Bool)) : Prop := cvs.length = cols.length ∧ ∀ (j : Nat) (v : V), cvs[j]? = some v → ∃ (t : Addr) (c : Nat × Bool), v = .ref t ∧ cols[j]? = some c ∧ H t = some (.tup [.int c.1, .str (wayS c.2)])
theorem Cols.stp {K : PySem.W.Frag} {M : List Addr} {H H' : Hp} {cvs : List V} {cols : List (Nat × Bool)} (h : Cols K H cvs cols) (S : Stp M H H') : Cols K H' cvs cols :=
  ⟨h.1, fun j v e => by obtain ⟨t, c, h1, h2, h3⟩ := h.2 j v e; exact ⟨t, c, h1, h2, S.tup h3⟩⟩
def sp_KeyRule___init__ (K : PySem.W.Frag) (A : Ad) : Sp := fun vs H Q _ => ∃ (s b : Addr) (cvs : List V) (cols : List (Nat × Bool)), vs = [.ref s, .ref b] ∧ (∃ dx, H s = some (.ins A.KeyRule dx [])) ∧ (SqL K H b cvs ∧ Cols K H cvs cols ∧ cols.length ≤ 99000 ∧ ∀ c ∈ cols, c.1 < 8) ∧
  ∀ dx l H', H l = none → s ≠ l → H' s = some (.ins A.KeyRule dx [("columns", .ref l)]) → H' l = some (.lst cvs) → Stp [s] H H' → Q .non H'
theorem ok_KeyRule___init__ {P : Program} {w : World} {K : PySem.W.Frag} {mg : Str → Option Value} {base : Heap} {A : Ad} {f : Addr} {fd : FuncData} (F : Fun K "__init__" "KeyRule.__init__" s_KeyRule___init__ f fd) (T : Txt K mg A) (C_good : SH.Cal P w K mg base CX0 1 "good" [] (sp_good K A)) : FnOk P w K mg base CX0 2 f fd ["self", "columns"] (sp_KeyRule___init__ K A) := by
  refine F.ok sc_KeyRule___init__ (fun vs H Q E h => by obtain ⟨_, _, _, _, rfl, _⟩ := h; rfl) (fun cdv A' outer s H vs Q E hr h => ?_)
  obtain ⟨s', b, cvs, cols, rfl, ⟨dx, hs⟩, ⟨hb, hC, hl, h8⟩, k⟩ := h
  refine ⟨_, (pss_cons (ps_for PassesOwn.never rfl (pi_list (pv 1)) (pg_tup (by rfl) (pgs_cons (pg_name (i := 2) sc_KeyRule___init__.nd rfl (Or.inl rfl)) (pgs_cons (pg_name (i := 3) sc_KeyRule___init__.nd rfl (Or.inl rfl)) pgs_nil))) (pss_cons (ps_expr (SH.pe_callF C_good hr (by rfl) pass0 (pa_cons (pv 2) pa_nil)))
        (pss_one (ps_if (PW.pt (pw_and (pt_cmpR (SH.oNe hr.units) (pv 3) pe_str (nomark _)) (pw_and1 (pt_cmpR (SH.oNe hr.units) (pv 3) pe_str (nomark _))))) (pss_one ps_never) pss_nil))))
        (pss_one (SH.ps_fldF T.cl_KeyRule T.na_KeyRule_columns (pv 0) (pe_callTy SH.cListOf (by rfl) T.z_list (by decide +kernel) (pa_cons (pv 1) pa_nil)) rfl))), ?_⟩
  walk_at "begin"
  walk_at "rd"
  refine for_it (walk_list (xs := cvs)) (fun j σ H' => H' = H ∧ ∃ v2 v3, σ = [some (.ref s'), some (.ref b), v2, v3]) ⟨rfl, _, _, rfl⟩ (fun _ _ _ _ z => by rw [z.1]; exact hb) ?_ ?_
  · rintro j x σ H1 H2 hj ⟨rfl, v2, v3, rfl⟩ ⟨rfl, hx⟩
    obtain ⟨t, c, rfl, hc, ht⟩ := hC.2 j x hx
    have := h8 c (List.mem_of_getElem? hc)
    walk_at "rd"
    refine ⟨_, rfl, ⟨by omega, by omega⟩, ?_⟩
    walk_at "rd"
    refine v_neS ?_
    rw [wayS_up]
    walk_at "rd"
    refine r_nb (fun hc => ?_) fun hc => ?_
    · walk_at "rd"
      refine v_neS ?_
      rw [wayS_down, hc]
      walk_at "rd"
      exact ⟨rfl, _, _, rfl⟩
    · walk_at "rd"
      exact ⟨rfl, _, _, rfl⟩
  · rintro σ H1 ⟨rfl, v2, v3, rfl⟩
    walk_at "rd"
    intro l hl2
    walk_at "rd"
    exact k _ l _ hl2 (ne_of_none hs hl2) upd_same (upd_far (ne_of_none hs hl2).symm upd_same) (((Stp.refl [s'] H1).new hl2).putM (List.mem_singleton.mpr rfl) (upd_old hs hl2) (fun z => z))
def sp_NearRule___init__ (K : PySem.W.Frag) (A : Ad) : Sp := fun vs H Q E => ∃ (s : Addr) (i g : Int), vs = [.ref s, .int i, .int g] ∧ (∃ dx, H s = some (.ins A.NearRule dx [])) ∧ (0 ≤ i ∧ i < 8) ∧
  (0 ≤ g → ∀ dx, Q .non (upd H s (.ins A.NearRule dx [("at", .int i), ("gap", .int g)]))) ∧ (g < 0 → E (.ref A.NoRule) none H)
theorem ok_NearRule___init__ {P : Program} {w : World} {K : PySem.W.Frag} {mg : Str → Option Value} {base : Heap} {A : Ad} {f : Addr} {fd : FuncData} (F : Fun K "__init__" "NearRule.__init__" s_NearRule___init__ f fd) (T : Txt K mg A) (C_good : SH.Cal P w K mg base CX0 1 "good" [] (sp_good K A)) : FnOk P w K mg base (L2N.CX P w) 2 f fd ["self", "at", "gap"] (sp_NearRule___init__ K A) := by
  refine SH.okN F sc_NearRule___init__ (fun vs H Q E h => by obtain ⟨_, _, _, rfl, _⟩ := h; rfl) (fun cdv A' outer s H vs Q E hr h => ?_)
  obtain ⟨s', i, g, rfl, ⟨dx, hs⟩, ⟨h0, h1⟩, k, kE⟩ := h
  refine ⟨_, (pss_cons (ps_if (pt_cmpR (SH.oLt hr.units0) (pv 2) pe_int (nomark _)) (pss_one (L2N.ps_raise rfl (L2N.takes_of rfl rfl rfl rfl) (L2N.pmk_own PySem.F.excBase_ValueError T.xn_NoRule T.g_NoRule T.kp_NoRule (raises_own T.sb_NoRule T.ty_NoRule) rfl))) pss_nil)
        (pss_cons (SH.ps_fldF T.cl_NearRule T.na_NearRule_at (pv 0) (SH.pe_callF C_good hr (by rfl) pass0 (pa_cons (pv 1) pa_nil)) rfl)
        (pss_one (SH.ps_fldF T.cl_NearRule T.na_NearRule_gap (pv 0) (pv 2) rfl)))), ?_⟩
  walk_at "begin"
  walk_at "rd"
  refine r_w (fun hc => ?_) fun hc => ?_
  · walk_at "rd"
    exact kE (by omega)
  walk_at "rd"
  refine ⟨i, rfl, ⟨h0, h1⟩, ?_⟩
  walk_at "rd"
  rw [upd_upd]
  exact k (by omega) dx
def sp_RingRule___init__ (K : PySem.W.Frag) (A : Ad) : Sp := fun vs H Q E => ∃ (s : Addr) (i g : Int), vs = [.ref s, .int i, .int g] ∧ (∃ dx, H s = some (.ins A.RingRule dx [])) ∧ (0 ≤ i ∧ i < 8) ∧
  (1 ≤ g → ∀ dx, Q .non (upd H s (.ins A.RingRule dx [("at", .int i), ("size", .int g)]))) ∧ (g < 1 → E (.ref A.NoRule) none H)
theorem ok_RingRule___init__ {P : Program} {w : World} {K : PySem.W.Frag} {mg : Str → Option Value} {base : Heap} {A : Ad} {f : Addr} {fd : FuncData} (F : Fun K "__init__" "RingRule.__init__" s_RingRule___init__ f fd) (T : Txt K mg A) (C_good : SH.Cal P w K mg base CX0 1 "good" [] (sp_good K A)) : FnOk P w K mg base (L2N.CX P w) 2 f fd ["self", "at", "size"] (sp_RingRule___init__ K A) := by
  refine SH.okN F sc_RingRule___init__ (fun vs H Q E h => by obtain ⟨_, _, _, rfl, _⟩ := h; rfl) (fun cdv A' outer s H vs Q E hr h => ?_)
  obtain ⟨s', i, g, rfl, ⟨dx, hs⟩, ⟨h0, h1⟩, k, kE⟩ := h
  refine ⟨_, (pss_cons (ps_if (pt_cmpR (SH.oLt hr.units0) (pv 2) pe_int (nomark _)) (pss_one (L2N.ps_raise rfl (L2N.takes_of rfl rfl rfl rfl) (L2N.pmk_own PySem.F.excBase_ValueError T.xn_NoRule T.g_NoRule T.kp_NoRule (raises_own T.sb_NoRule T.ty_NoRule) rfl))) pss_nil)
        (pss_cons (SH.ps_fldF T.cl_RingRule T.na_RingRule_at (pv 0) (SH.pe_callF C_good hr (by rfl) pass0 (pa_cons (pv 1) pa_nil)) rfl)
        (pss_one (SH.ps_fldF T.cl_RingRule T.na_RingRule_size (pv 0) (pv 2) rfl)))), ?_⟩
  walk_at "begin"
  walk_at "rd"
  refine r_w (fun hc => ?_) fun hc => ?_
  · walk_at "rd"
    exact kE (by omega)
  walk_at "rd"
  refine ⟨i, rfl, ⟨h0, h1⟩, ?_⟩
  walk_at "rd"
  rw [upd_upd]
  exact k (by omega) dx
/-! ### rules of numbers: a column, near, ring; votes and chains of these -/
inductive R0 where
  | key (cols : List (Nat × Bool))
  | near (i : Nat) (g : Int)
  | ring (i : Nat) (m : Int)
inductive R0.At (K : PySem.W.Frag) (A : Ad) (H : Hp) (u : Addr) : R0 → Prop
  | key {d l : Addr} {cvs : List V} {cols : List (Nat × Bool)} (h : H u = some (.ins A.KeyRule d [("columns", .ref l)])) (hl : H l = some (.lst cvs)) (hc : Cols K H cvs cols) : R0.At K A H u (.key cols)
  | near {d : Addr} {i : Nat} {g : Int} (h : H u = some (.ins A.NearRule d [("at", .int i), ("gap", .int g)])) : R0.At K A H u (.near i g)
  | ring {d : Addr} {i : Nat} {m : Int} (h : H u = some (.ins A.RingRule d [("at", .int i), ("size", .int m)])) (hm : 1 ≤ m) : R0.At K A H u (.ring i m)
theorem R0.At.stp {K : PySem.W.Frag} {A : Ad} {M : List Addr} {H H' : Hp} {u : Addr} {r : R0} (h : R0.At K A H u r) (S : Stp M H H') (hM : ∀ m ∈ M, H m = none) : R0.At K A H' u r := by
  have keep : ∀ {a : Addr} {o : HO}, H a = some o → H' a = some o := fun {a o} e => S.keep e fun z => by rw [hM _ z] at e; cases e
  cases h with
  | key h hl hc => exact .key (keep h) (keep hl) (hc.stp S)
  | near h => exact .near (keep h)
  | ring h hm => exact .ring (keep h) hm
/-- a list of rules -/
structure RsAt (K : PySem.W.Frag) (A : Ad) (H : Hp) (uvs : List V) (rs : List R0) : Prop where
  len : uvs.length = rs.length
  at_ : ∀ (j : Nat) (v : V), uvs[j]? = some v → ∃ (u : Addr) (r : R0), v = .ref u ∧ rs[j]? = some r ∧ R0.At K A H u r
theorem RsAt.stp {K : PySem.W.Frag} {A : Ad} {M : List Addr} {H H' : Hp} {uvs : List V} {rs : List R0} (h : RsAt K A H uvs rs) (S : Stp M H H') (hM : ∀ m ∈ M, H m = none) : RsAt K A H' uvs rs :=
  ⟨h.len, fun j v e => by obtain ⟨u, r, h1, h2, h3⟩ := h.at_ j v e; exact ⟨u, r, h1, h2, h3.stp S hM⟩⟩
theorem RsAt.nil {K : PySem.W.Frag} {A : Ad} {H : Hp} : RsAt K A H [] [] := ⟨rfl, fun j v e => by cases e⟩
theorem RsAt.snoc {K : PySem.W.Frag} {A : Ad} {H : Hp} {uvs : List V} {rs : List R0} {u : Addr} {r : R0} (h : RsAt K A H uvs rs) (k : R0.At K A H u r) : RsAt K A H (uvs ++ [.ref u]) (rs ++ [r]) := by
  have hl := h.len
  refine ⟨by simp [hl], fun j v e => ?_⟩
  by_cases hj : j < uvs.length
  · rw [List.getElem?_append_left hj] at e
    obtain ⟨u', r', h1, h2, h3⟩ := h.at_ j v e
    exact ⟨u', r', h1, by rw [List.getElem?_append_left (by omega)]; exact h2, h3⟩
  · rw [List.getElem?_append_right (by omega)] at e
    have : j - uvs.length = 0 := by
      cases h : j - uvs.length with
      | zero => rfl
      | succ m => rw [h] at e; cases e
    rw [this] at e
    cases e
    exact ⟨u, r, rfl, by rw [List.getElem?_append_right (by omega), show j - rs.length = 0 by omega]; rfl, k⟩
theorem take_snoc {α : Type} {xs : List α} {j : Nat} {x : α} (h : xs[j]? = some x) : xs.take (j + 1) = xs.take j ++ [x] := by
  rw [List.take_succ, h]; rfl
def sp_VoteRule___init__ (K : PySem.W.Frag) (A : Ad) : Sp := fun vs H Q _ => ∃ (s b : Addr) (uvs : List V), vs = [.ref s, .ref b] ∧ (∃ dx, H s = some (.ins A.VoteRule dx [])) ∧ SqL K H b uvs ∧
  ∀ dx l H', H l = none → s ≠ l → H' s = some (.ins A.VoteRule dx [("rules", .ref l)]) → H' l = some (.lst uvs) → Stp [s] H H' → Q .non H'
theorem ok_VoteRule___init__ {P : Program} {w : World} {K : PySem.W.Frag} {mg : Str → Option Value} {base : Heap} {A : Ad} {f : Addr} {fd : FuncData} (F : Fun K "__init__" "VoteRule.__init__" s_VoteRule___init__ f fd) (T : Txt K mg A)  : FnOk P w K mg base CX0 1 f fd ["self", "rules"] (sp_VoteRule___init__ K A) := by
  refine F.ok sc_VoteRule___init__ (fun vs H Q E h => by obtain ⟨_, _, _, rfl, _⟩ := h; rfl) (fun cdv A' outer s H vs Q E hr h => ?_)
  obtain ⟨s', b, uvs, rfl, ⟨dx, hs⟩, hb, k⟩ := h
  refine ⟨_, (pss_one (SH.ps_fldF T.cl_VoteRule T.na_VoteRule_rules (pv 0) (pe_callTy SH.cListOf (by rfl) T.z_list (by decide +kernel) (pa_cons (pv 1) pa_nil)) rfl)), ?_⟩
  walk_at "begin"
  walk_at "rd"
  intro l hl2
  walk_at "rd"
  exact k _ l _ hl2 (ne_of_none hs hl2) upd_same (upd_far (ne_of_none hs hl2).symm upd_same) (((Stp.refl [s'] H).new hl2).putM (List.mem_singleton.mpr rfl) (upd_old hs hl2) (fun z => z))
/-- a part of a chain: one rule, or votes -/
inductive R1 where
  | one (r : R0)
  | votes (rs : List R0)
inductive R1.At (K : PySem.W.Frag) (A : Ad) (H : Hp) (u : Addr) : R1 → Prop
  | one {r : R0} (h : R0.At K A H u r) : R1.At K A H u (.one r)
  | votes {d l : Addr} {uvs : List V} {rs : List R0} (h : H u = some (.ins A.VoteRule d [("rules", .ref l)])) (hl : H l = some (.lst uvs)) (hR : RsAt K A H uvs rs) : R1.At K A H u (.votes rs)
theorem R1.At.stp {K : PySem.W.Frag} {A : Ad} {M : List Addr} {H H' : Hp} {u : Addr} {r : R1} (h : R1.At K A H u r) (S : Stp M H H') (hM : ∀ m ∈ M, H m = none) : R1.At K A H' u r := by
  have keep : ∀ {a : Addr} {o : HO}, H a = some o → H' a = some o := fun {a o} e => S.keep e fun z => by rw [hM _ z] at e; cases e
  cases h with
  | one h => exact .one (h.stp S hM)
  | votes h hl hR => exact .votes (keep h) (keep hl) (hR.stp S hM)
structure PsAt (K : PySem.W.Frag) (A : Ad) (H : Hp) (uvs : List V) (rs : List R1) : Prop where
  len : uvs.length = rs.length
  at_ : ∀ (j : Nat) (v : V), uvs[j]? = some v → ∃ (u : Addr) (r : R1), v = .ref u ∧ rs[j]? = some r ∧ R1.At K A H u r
theorem PsAt.stp {K : PySem.W.Frag} {A : Ad} {M : List Addr} {H H' : Hp} {uvs : List V} {rs : List R1} (h : PsAt K A H uvs rs) (S : Stp M H H') (hM : ∀ m ∈ M, H m = none) : PsAt K A H' uvs rs :=
  ⟨h.len, fun j v e => by obtain ⟨u, r, h1, h2, h3⟩ := h.at_ j v e; exact ⟨u, r, h1, h2, h3.stp S hM⟩⟩
theorem PsAt.nil {K : PySem.W.Frag} {A : Ad} {H : Hp} : PsAt K A H [] [] := ⟨rfl, fun j v e => by cases e⟩
theorem PsAt.snoc {K : PySem.W.Frag} {A : Ad} {H : Hp} {uvs : List V} {rs : List R1} {u : Addr} {r : R1} (h : PsAt K A H uvs rs) (k : R1.At K A H u r) : PsAt K A H (uvs ++ [.ref u]) (rs ++ [r]) := by
  have hl := h.len
  refine ⟨by simp [hl], fun j v e => ?_⟩
  by_cases hj : j < uvs.length
  · rw [List.getElem?_append_left hj] at e
    obtain ⟨u', r', h1, h2, h3⟩ := h.at_ j v e
    exact ⟨u', r', h1, by rw [List.getElem?_append_left (by omega)]; exact h2, h3⟩
  · rw [List.getElem?_append_right (by omega)] at e
    have : j - uvs.length = 0 := by
      cases h : j - uvs.length with
      | zero => rfl
      | succ m => rw [h] at e; cases e
    rw [this] at e
    cases e
    exact ⟨u, r, rfl, by rw [List.getElem?_append_right (by omega), show j - rs.length = 0 by omega]; rfl, k⟩
def sp_ChainRule___init__ (K : PySem.W.Frag) (A : Ad) : Sp := fun vs H Q _ => ∃ (s b : Addr) (uvs : List V), vs = [.ref s, .ref b] ∧ (∃ dx, H s = some (.ins A.ChainRule dx [])) ∧ SqL K H b uvs ∧
  ∀ dx l H', H l = none → s ≠ l → H' s = some (.ins A.ChainRule dx [("rules", .ref l)]) → H' l = some (.lst uvs) → Stp [s] H H' → Q .non H'
theorem ok_ChainRule___init__ {P : Program} {w : World} {K : PySem.W.Frag} {mg : Str → Option Value} {base : Heap} {A : Ad} {f : Addr} {fd : FuncData} (F : Fun K "__init__" "ChainRule.__init__" s_ChainRule___init__ f fd) (T : Txt K mg A)  : FnOk P w K mg base CX0 1 f fd ["self", "rules"] (sp_ChainRule___init__ K A) := by
  refine F.ok sc_ChainRule___init__ (fun vs H Q E h => by obtain ⟨_, _, _, rfl, _⟩ := h; rfl) (fun cdv A' outer s H vs Q E hr h => ?_)
  obtain ⟨s', b, uvs, rfl, ⟨dx, hs⟩, hb, k⟩ := h
  refine ⟨_, (pss_one (SH.ps_fldF T.cl_ChainRule T.na_ChainRule_rules (pv 0) (pe_callTy SH.cListOf (by rfl) T.z_list (by decide +kernel) (pa_cons (pv 1) pa_nil)) rfl)), ?_⟩
  walk_at "begin"
  walk_at "rd"
  intro l hl2
  walk_at "rd"
  exact k _ l _ hl2 (ne_of_none hs hl2) upd_same (upd_far (ne_of_none hs hl2).symm upd_same) (((Stp.refl [s'] H).new hl2).putM (List.mem_singleton.mpr rfl) (upd_old hs hl2) (fun z => z))
abbrev sBl : Str := Str.ofString " "
theorem tl_bl : tl sBl = [32] := by decide +kernel
def fst32 (l : List Nat) : List Nat := l.takeWhile fun c => c != 32
def rst32 (l : List Nat) : List Nat := (l.dropWhile fun c => c != 32).tail
theorem par32 : ∀ (l acc : List Nat), TL.par [32] acc l = if 32 ∈ l then some (acc ++ fst32 l, rst32 l) else none
  | [], acc => rfl
  | c :: r, acc => by
    show (if pre [32] (c :: r) = true then some (acc, (c :: r).drop 1) else TL.par [32] (acc ++ [c]) r) = _
    rw [pre1, par32 r]
    by_cases h : c = 32
    · subst h
      simp [fst32, rst32]
    · have h' : (32 : Nat) ≠ c := fun e => h e.symm
      simp [fst32, rst32, h, h', List.takeWhile_cons, List.dropWhile_cons]
theorem fst32_no : ∀ {l : List Nat}, 32 ∉ l → fst32 l = l ∧ rst32 l = []
  | [], _ => ⟨rfl, rfl⟩
  | c :: r, h => by
    have h1 : c ≠ 32 := fun e => h (by rw [e]; exact List.mem_cons_self ..)
    have := fst32_no (l := r) fun z => h (List.mem_cons_of_mem _ z)
    simp [fst32, rst32, h1, List.takeWhile_cons, List.dropWhile_cons] at this ⊢
    exact this
theorem part32 (x : Str) : ∃ w b r, Txt.partition x sBl = (w, b, r) ∧ tl w = fst32 (tl x) ∧ tl r = rst32 (tl x) := by
  have e := TL.partition_par x sBl (by rw [tl_bl]; simp)
  rw [tl_bl, par32] at e
  by_cases h : 32 ∈ tl x
  · rw [if_pos h] at e
    exact ⟨_, _, _, e, by simp, by simp⟩
  · rw [if_neg h] at e
    have := fst32_no h
    exact ⟨_, _, _, e, this.1.symm, this.2.symm⟩
theorem fst32_mem {l : List Nat} {c : Nat} (h : c ∈ fst32 l) : c ∈ l := (List.takeWhile_prefix _).subset h
theorem rst32_mem {l : List Nat} {c : Nat} (h : c ∈ rst32 l) : c ∈ l := (List.dropWhile_suffix _).subset (List.mem_of_mem_tail h)
theorem fst32_len (l : List Nat) : (fst32 l).length ≤ l.length := (List.takeWhile_prefix _).length_le
theorem rst32_len (l : List Nat) : (rst32 l).length ≤ l.length := by
  have := (List.dropWhile_suffix (l := l) fun c => c != 32).length_le
  unfold rst32
  rw [List.length_tail]
  omega
def lUp : List Nat := [117, 112]
def lDown : List Nat := [100, 111, 119, 110]
def lNear : List Nat := [110, 101, 97, 114]
def lRing : List Nat := [114, 105, 110, 103]
theorem tl_up : tl (Str.ofString "up") = lUp := by decide +kernel
theorem tl_down : tl (Str.ofString "down") = lDown := by decide +kernel
theorem tl_near : tl (Str.ofString "near") = lNear := by decide +kernel
theorem tl_ring : tl (Str.ofString "ring") = lRing := by decide +kernel
/-- the rule of one part that is no votes -/
def plainS (l : List Nat) : Option R0 :=
  if fst32 l = lUp then (keyS (rst32 l)).map fun k => .key [(k, true)]
  else if fst32 l = lDown then (keyS (rst32 l)).map fun k => .key [(k, false)]
  else match numS (rst32 (rst32 l)) with
    | none => none
    | some n => if fst32 l = lNear then (keyS (fst32 (rst32 l))).bind fun k => if 0 ≤ n then some (.near k n) else none
      else if fst32 l = lRing then (keyS (fst32 (rst32 l))).bind fun k => if 1 ≤ n then some (.ring k n) else none
      else none
/-! ### a heap without some addresses -/
def hid (L : List Addr) (H : Hp) : Hp := fun b => if b ∈ L then none else H b
theorem hid_at {L : List Addr} {b : Addr} {H : Hp} {o : HO} (n : b ∉ L) (h : H b = some o) : hid L H b = some o := by unfold hid; rw [if_neg n]; exact h
theorem hid_nil {H : Hp} : hid [] H = H := by funext b; unfold hid; rw [if_neg (by simp)]
theorem hid_upd {L : List Addr} {D : Addr} {H : Hp} {o : HO} (h : D ∈ L) : hid L (upd H D o) = hid L H := by
  funext b
  unfold hid
  by_cases hb : b ∈ L
  · rw [if_pos hb, if_pos hb]
  · rw [if_neg hb, if_neg hb, upd_ne (fun z => hb (by rw [z]; exact h))]
theorem hid_mono {L : List Addr} {H H' : Hp} (S : Stp [] H H') : Stp [] (hid L H) (hid L H') := ⟨fun b o e _ => by
  unfold hid at e ⊢
  by_cases hb : b ∈ L
  · rw [if_pos hb] at e; cases e
  · rw [if_neg hb] at e ⊢; exact S.keep0 e, fun b e => by
  unfold hid at e ⊢
  by_cases hb : b ∈ L
  · rw [if_pos hb]
  · rw [if_neg hb] at e ⊢; exact S.dom b e⟩
theorem hid_drop {L L' : List Addr} {H : Hp} (h : ∀ b ∈ L, b ∈ L') : Stp [] (hid L' H) (hid L H) := ⟨fun b o e _ => by
  unfold hid at e ⊢
  by_cases hb : b ∈ L'
  · rw [if_pos hb] at e; cases e
  · rw [if_neg hb] at e; rw [if_neg fun z => hb (h b z)]; exact e, fun b e => by
  unfold hid at e ⊢
  by_cases hb : b ∈ L'
  · rw [if_pos hb]
  · rw [if_neg hb]; rw [if_neg fun z => hb (h b z)] at e; exact e⟩
/-- the addresses of a list are all taken -/
def Took (H : Hp) (L : List Addr) : Prop := ∀ D ∈ L, H D ≠ none
theorem Took.stp {H H' : Hp} {L : List Addr} (h : Took H L) (S : Stp [] H H') : Took H' L := fun D hD z => h D hD (S.dom D z)
theorem Took.cons {H : Hp} {L : List Addr} {D : Addr} {o : HO} (h : Took H L) (k : H D = some o) : Took H (D :: L) := fun E hE => by
  rcases List.mem_cons.mp hE with rfl | z
  · rw [k]; simp
  · exact h E z
theorem Took.nil {H : Hp} : Took H [] := fun D hD => by cases hD
theorem Took.not {H : Hp} {L : List Addr} {b : Addr} (h : Took H L) (k : H b = none) : b ∉ L := fun z => h b z k
def sp_plain_rule (K : PySem.W.Frag) (A : Ad) : Sp := fun vs H Q E => ∃ (x : Str), vs = [.str x] ∧ (okS x ∧ x.length ≤ 100000) ∧
  (∀ (r : R0) u H', plainS (tl x) = some r → H u = none → Stp [] H H' → (∀ L, Took H L → R0.At K A (hid L H') u r) → Q (.ref u) H') ∧ (∀ H', plainS (tl x) = none → Stp [] H H' → E (.ref A.NoRule) none H')
theorem key1 {K : PySem.W.Frag} {H : Hp} {t : Addr} {c : Nat × Bool} (h : H t = some (.tup [.int c.1, .str (wayS c.2)])) : Cols K H [.ref t] [c] := ⟨rfl, fun j v e => by
  match j, e with
  | 0, e => cases e; exact ⟨t, c, rfl, rfl, h⟩⟩
theorem deq {w : Str} {s : Str} {l m : List Nat} (h : tl w = l) (k : tl s = m) : decide (w = s) = decide (l = m) := by
  subst h
  subst k
  exact decide_eq_decide.mpr str_eq
theorem ok_plain_rule {P : Program} {w : World} {K : PySem.W.Frag} {mg : Str → Option Value} {base : Heap} {A : Ad} {f : Addr} {fd : FuncData} (F : Fun K "plain_rule" "plain_rule" s_plain_rule f fd) (T : Txt K mg A) (C_key_in : SH.Cal P w K mg base (L2N.CX P w) 1 "key_in" [] (sp_key_in K A)) (N_KeyRule : SH.CalC P w K mg base CX0 2 "KeyRule" A.KeyRule [] (sp_KeyRule___init__ K A)) (N_NearRule : SH.CalC P w K mg base (L2N.CX P w) 2 "NearRule" A.NearRule [] (sp_NearRule___init__ K A)) (N_RingRule : SH.CalC P w K mg base (L2N.CX P w) 2 "RingRule" A.RingRule [] (sp_RingRule___init__ K A)) (C_number_in : SH.Cal P w K mg base CX0 1 "number_in" [] (sp_number_in K A)) : FnOk P w K mg base (L2N.CX P w) 4 f fd ["text"] (sp_plain_rule K A) := by
  refine SH.okN F sc_plain_rule (fun vs H Q E h => by obtain ⟨_, rfl, _⟩ := h; rfl) (fun cdv A' outer s H vs Q E hr h => ?_)
  obtain ⟨x, rfl, ⟨hx, hxl⟩, k, kE⟩ := h
  refine ⟨_, (pss_cons (ps_asg (pe_bm PySem.F.plainAttrs_str PySem.F.slot_str_partition PySem.F.type_str_partition mt_partition (pv 0) (pa_cons pe_str pa_nil)) (pg_tup (by rfl) (pgs_cons (pg_name (i := 1) sc_plain_rule.nd rfl (Or.inl rfl)) (pgs_cons (pg_name (i := 2) sc_plain_rule.nd rfl (Or.inl rfl)) (pgs_cons (pg_name (i := 3) sc_plain_rule.nd rfl (Or.inl rfl)) pgs_nil)))))
        (pss_cons (ps_if (PW.pt (pw_or (pt_cmpR (SH.oEq hr.units) (pv 1) pe_str (nomark _)) (pw_or1 (pt_cmpR (SH.oEq hr.units) (pv 1) pe_str (nomark _))))) (pss_one (ps_ret (SH.pe_makeF N_KeyRule hr (by rfl) pass0 (pa_cons (pe_lst (pa_cons (pe_tup (pa_cons (SH.pe_callF C_key_in hr (by rfl) (L2N.passes_call (L2N.takes_of rfl rfl rfl rfl) fun _ _ _ _ h => h) (pa_cons (pv 3) pa_nil)) (pa_cons (pv 1) pa_nil))) pa_nil)) pa_nil)))) pss_nil)
        (pss_cons (ps_asg (pe_bm PySem.F.plainAttrs_str PySem.F.slot_str_partition PySem.F.type_str_partition mt_partition (pv 3) (pa_cons pe_str pa_nil)) (pg_tup (by rfl) (pgs_cons (pg_name (i := 4) sc_plain_rule.nd rfl (Or.inl rfl)) (pgs_cons (pg_name (i := 2) sc_plain_rule.nd rfl (Or.inl rfl)) (pgs_cons (pg_name (i := 5) sc_plain_rule.nd rfl (Or.inl rfl)) pgs_nil)))))
        (pss_cons (ps_set (i := 6) sc_plain_rule.nd rfl (Or.inl rfl) (SH.pe_callF C_number_in hr (by rfl) pass0 (pa_cons (pv 5) pa_nil)))
        (pss_cons (ps_if (pt_cmpR SH.oIsN (pv 6) pe_non (nomark _)) (pss_one (L2N.ps_raise rfl (L2N.takes_of rfl rfl rfl rfl) (L2N.pmk_own PySem.F.excBase_ValueError T.xn_NoRule T.g_NoRule T.kp_NoRule (raises_own T.sb_NoRule T.ty_NoRule) rfl))) pss_nil)
        (pss_cons (ps_if (pt_cmpR (SH.oEq hr.units) (pv 1) pe_str (nomark _)) (pss_one (ps_ret (SH.pe_makeF N_NearRule hr (by rfl) (L2N.passes_call (L2N.takes_of rfl rfl rfl rfl) fun _ _ _ _ h => h) (pa_cons (SH.pe_callF C_key_in hr (by rfl) (L2N.passes_call (L2N.takes_of rfl rfl rfl rfl) fun _ _ _ _ h => h) (pa_cons (pv 4) pa_nil)) (pa_cons (pv 6) pa_nil))))) pss_nil)
        (pss_cons (ps_if (pt_cmpR (SH.oEq hr.units) (pv 1) pe_str (nomark _)) (pss_one (ps_ret (SH.pe_makeF N_RingRule hr (by rfl) (L2N.passes_call (L2N.takes_of rfl rfl rfl rfl) fun _ _ _ _ h => h) (pa_cons (SH.pe_callF C_key_in hr (by rfl) (L2N.passes_call (L2N.takes_of rfl rfl rfl rfl) fun _ _ _ _ h => h) (pa_cons (pv 4) pa_nil)) (pa_cons (pv 6) pa_nil))))) pss_nil)
        (pss_one (L2N.ps_raise rfl (L2N.takes_of rfl rfl rfl rfl) (L2N.pmk_own PySem.F.excBase_ValueError T.xn_NoRule T.g_NoRule T.kp_NoRule (raises_own T.sb_NoRule T.ty_NoRule) rfl)))))))))), ?_⟩
  walk_at "begin"
  obtain ⟨w, b, r, hp0, hw, hr0⟩ := part32 x
  have hrx : okS r := fun c hc => hx c (rst32_mem (by rw [← hr0]; exact hc))
  have hrl : r.length ≤ x.length := by rw [len_tl, len_tl, hr0]; exact rst32_len _
  unfold plainS at k kE
  rw [← hw, ← hr0] at k kE
  walk_at "rd"
  refine ⟨ty_str, ?_⟩
  walk_at "rd"
  refine ⟨_, _, rfl, rfl, by decide +kernel, Nat.le_trans hxl (by decide), fun p hp => ?_⟩
  rw [show Txt.partition x (Str.ofString " ") = (w, b, r) from hp0]
  have S0 := (Stp.refl [] H).new (o := .tup [.str w, .str b, .str r]) hp
  have hp1 := upd_same (H := H) (a := p) (o := .tup [.str w, .str b, .str r])
  change Stp [] H (upd H p (.tup [.str w, .str b, .str r])) at S0
  generalize upd H p (.tup [.str w, .str b, .str r]) = H0 at S0 hp1 ⊢
  walk_at "rd"
  refine v_eqS ?_
  rw [deq rfl tl_up]
  have keyend : ∀ (b : Bool) (kk : Nat) (hk8 : kk < 8) (H1 : Hp) (t : Addr) (R : VK), Stp [] H0 H1 → H0 t = none → H1 t = some (.tup [.int kk, .str (wayS b)]) → (∀ u H', H u = none → Stp [] H H' → (∀ L, Took H L → R0.At K A (hid L H') u (.key [(kk, b)])) → R (.ref u) H') →
      ∀ q, H1 q = none → ∀ u du, upd H1 q (.lst [.ref t]) u = none → upd H1 q (.lst [.ref t]) du = none → du ≠ u → sp_KeyRule___init__ K A ([.ref u, .ref q]) (upd (upd (upd H1 q (.lst [.ref t])) du (.own u)) u (.ins A.KeyRule du [])) (fun v H2 => v = .non ∧ R (.ref u) H2) E0 := by
    intro b kk hk8 H1 t R S1 ht0 ht1 hR q hq u du hu hdu hne
    have S2 := (Stp.refl [] H1).new (o := .lst [.ref t]) hq
    have hq2 := upd_same (H := H1) (a := q) (o := .lst [.ref t])
    have ht2 := S2.keep0 ht1
    generalize upd H1 q (.lst [.ref t]) = H2 at S2 hq2 ht2 hu hdu ⊢
    have S5 : Stp [] H2 (upd (upd H2 du (.own u)) u (.ins A.KeyRule du [])) := ((Stp.refl [] H2).new hdu).new (by rw [upd_ne hne.symm]; exact hu)
    refine ⟨u, q, [.ref t], [(kk, b)], rfl, ⟨du, upd_same⟩, ⟨S5.sql0 (SqL.of hq2), key1 (S5.keep0 ht2), by simp, fun c' hc' => by rw [List.mem_singleton] at hc'; subst hc'; exact hk8⟩, fun dx l H7 hl hul2 hu7 hl7 S7 => ⟨rfl, ?_⟩⟩
    have S27 : Stp [] H2 H7 := S5.then S7 (by simp; exact hu)
    have S := (S0.trans S1).trans (S2.trans S27)
    exact hR u H7 (S0.dom _ (S1.dom _ (S2.dom _ hu))) S (fun L hL => .key (hid_at (hL.not (S0.dom _ (S1.dom _ (S2.dom _ hu)))) hu7) (hid_at (hL.not (S0.dom _ (S1.dom _ (S2.dom _ (S5.dom _ hl))))) hl7) (key1 (hid_at (hL.not (S0.dom _ ht0)) (S27.keep0 ht2))))
  have hrl2 : r.length ≤ 100000 := by omega
  by_cases hu : tl w = lUp
  · rw [decide_eq_true hu]
    rw [if_pos hu] at k kE
    walk_at "rd"
    refine ⟨r, rfl, ⟨hrx, hrl2⟩, fun kk hkk => ?_, fun hn => ?_⟩
    · rw [hkk] at k
      have hk8 := keyS_lt hkk
      have hww : w = wayS true := str_eq.mpr (by rw [hu]; decide +kernel)
      walk_at "rd"
      intro t ht
      have S1 := (Stp.refl [] H0).new (o := .tup [.int kk, .str w]) ht
      have ht1 : upd H0 t (.tup [.int kk, .str w]) t = some (.tup [.int kk, .str (wayS true)]) := by rw [upd_same, hww]
      change _ at S1
      generalize hH1 : upd H0 t (.tup [.int kk, .str w]) = H1 at S1 ht1
      walk_at "rd"
      intro q hq
      walk_at "rd"
      intro u du hu hdu hne
      exact keyend true kk hk8 H1 t _ S1 ht ht1 (fun u H' => k _ u H' rfl) q hq u du hu hdu hne
    · rw [hn] at kE
      exact kE _ rfl S0
  rw [decide_eq_false hu]
  rw [if_neg hu] at k kE
  walk_at "rd"
  refine v_eqS ?_
  rw [deq rfl tl_down]
  by_cases hd : tl w = lDown
  · rw [decide_eq_true hd]
    rw [if_pos hd] at k kE
    walk_at "rd"
    refine ⟨r, rfl, ⟨hrx, hrl2⟩, fun kk hkk => ?_, fun hn => ?_⟩
    · rw [hkk] at k
      have hk8 := keyS_lt hkk
      have hww : w = wayS false := str_eq.mpr (by rw [hd]; decide +kernel)
      walk_at "rd"
      intro t ht
      have S1 := (Stp.refl [] H0).new (o := .tup [.int kk, .str w]) ht
      have ht1 : upd H0 t (.tup [.int kk, .str w]) t = some (.tup [.int kk, .str (wayS false)]) := by rw [upd_same, hww]
      change _ at S1
      generalize hH1 : upd H0 t (.tup [.int kk, .str w]) = H1 at S1 ht1
      walk_at "rd"
      intro q hq
      walk_at "rd"
      intro u du hu hdu hne
      exact keyend false kk hk8 H1 t _ S1 ht ht1 (fun u H' => k _ u H' rfl) q hq u du hu hdu hne
    · rw [hn] at kE
      exact kE _ rfl S0
  rw [decide_eq_false hd]
  rw [if_neg hd] at k kE
  walk_at "rd"
  obtain ⟨w2, b2, r2, hp2, hw2, hr2⟩ := part32 r
  have hwx : okS w2 := fun c hc => hrx c (fst32_mem (by rw [← hw2]; exact hc))
  have hwl : w2.length ≤ 100000 := by have := fst32_len (tl r); rw [← hw2, ← len_tl, ← len_tl] at this; omega
  have hr2x : okS r2 := fun c hc => hrx c (rst32_mem (by rw [← hr2]; exact hc))
  have hr2l : r2.length ≤ 100000 := by have := rst32_len (tl r); rw [← hr2, ← len_tl, ← len_tl] at this; omega
  rw [← hw2, ← hr2] at k kE
  refine ⟨ty_str, ?_⟩
  walk_at "rd"
  refine ⟨_, _, rfl, rfl, by decide +kernel, Nat.le_trans hrl2 (by decide), fun p2 hp2' => ?_⟩
  rw [show Txt.partition r (Str.ofString " ") = (w2, b2, r2) from hp2]
  have S1 := (Stp.refl [] H0).new (o := .tup [.str w2, .str b2, .str r2]) hp2'
  have hp21 := upd_same (H := H0) (a := p2) (o := .tup [.str w2, .str b2, .str r2])
  change Stp [] H0 (upd H0 p2 (.tup [.str w2, .str b2, .str r2])) at S1
  generalize upd H0 p2 (.tup [.str w2, .str b2, .str r2]) = H1 at S1 hp21 ⊢
  have S01 := S0.trans S1
  walk_at "rd"
  refine ⟨r2, rfl, hr2x, hr2l, ?_⟩
  cases hnum : numS (tl r2) with
  | none =>
    rw [hnum] at kE
    walk_at "rd"
    rw [if_pos (by rfl)]
    walk_at "rd"
    exact kE _ rfl S01
  | some n =>
    rw [hnum] at k kE
    walk_at "rd"
    rw [if_neg (by simp [numV])]
    walk_at "rd"
    refine v_eqS ?_
    rw [deq rfl tl_near]
    by_cases hnr : tl w = lNear
    · rw [decide_eq_true hnr]
      dsimp only at k kE
      rw [if_pos hnr] at k kE
      walk_at "rd"
      refine ⟨w2, rfl, ⟨hwx, hwl⟩, fun kk hkk => ?_, fun hn => ?_⟩
      · rw [hkk] at k kE
        have hk8 := keyS_lt hkk
        walk_at "rd"
        intro u du hu hdu hne
        refine ⟨u, kk, n, rfl, ⟨du, upd_same⟩, ⟨by omega, by omega⟩, fun h0 dx => ⟨rfl, ?_⟩, fun h0 => ?_⟩
        · rw [upd_upd]
          have S5 : Stp [] H1 (upd (upd H1 du (.own u)) u (.ins A.NearRule dx [("at", .int kk), ("gap", .int n)])) := ((Stp.refl [] H1).new hdu).new (by rw [upd_ne hne.symm]; exact hu)
          exact k _ u _ (by rw [Option.bind_some, if_pos h0]) (S01.dom _ hu) (S01.trans S5) (fun L hL => .near (hid_at (hL.not (S01.dom _ hu)) upd_same))
        · exact kE _ (by rw [Option.bind_some, if_neg (by omega)]) (S01.trans (((Stp.refl [] H1).new hdu).new (by rw [upd_ne hne.symm]; exact hu)))
      · rw [hn] at kE
        exact kE _ rfl S01
    rw [decide_eq_false hnr]
    dsimp only at k kE
    rw [if_neg hnr] at k kE
    walk_at "rd"
    refine v_eqS ?_
    rw [deq rfl tl_ring]
    by_cases hrg : tl w = lRing
    · rw [decide_eq_true hrg]
      rw [if_pos hrg] at k kE
      walk_at "rd"
      refine ⟨w2, rfl, ⟨hwx, hwl⟩, fun kk hkk => ?_, fun hn => ?_⟩
      · rw [hkk] at k kE
        have hk8 := keyS_lt hkk
        walk_at "rd"
        intro u du hu hdu hne
        refine ⟨u, kk, n, rfl, ⟨du, upd_same⟩, ⟨by omega, by omega⟩, fun h0 dx => ⟨rfl, ?_⟩, fun h0 => ?_⟩
        · rw [upd_upd]
          have S5 : Stp [] H1 (upd (upd H1 du (.own u)) u (.ins A.RingRule dx [("at", .int kk), ("size", .int n)])) := ((Stp.refl [] H1).new hdu).new (by rw [upd_ne hne.symm]; exact hu)
          exact k _ u _ (by rw [Option.bind_some, if_pos h0]) (S01.dom _ hu) (S01.trans S5) (fun L hL => .ring (hid_at (hL.not (S01.dom _ hu)) upd_same) h0)
        · exact kE _ (by rw [Option.bind_some, if_neg (by omega)]) (S01.trans (((Stp.refl [] H1).new hdu).new (by rw [upd_ne hne.symm]; exact hu)))
      · rw [hn] at kE
        exact kE _ rfl S01
    rw [decide_eq_false hrg]
    rw [if_neg hrg] at kE
    walk_at "rd"
    exact kE _ rfl S01
/-! ### lines of any signs -/
theorem spl_in (S : List Nat) : ∀ (n : Nat) (l : List Nat), l.length ≤ n → ∀ (k : Nat) (acc : List Nat), (∀ q ∈ spl S k acc l, (∀ c ∈ q, c ∈ acc ∨ c ∈ l) ∧ q.length ≤ acc.length + l.length) ∧ (spl S k acc l).length ≤ l.length + 1
  | n, [], _, k, acc => by
    rw [spl_nil]
    refine ⟨fun q hq => ?_, by simp⟩
    rw [List.mem_singleton] at hq
    subst hq
    exact ⟨fun c hc => .inl hc, by simp⟩
  | 0, c :: r, h, _, _ => by simp at h
  | n + 1, c :: r, h, 0, acc => by
    have hr : r.length ≤ n := by simp at h; omega
    cases hp : pre S (c :: r) with
    | true =>
      rw [spl_hit hp]
      obtain ⟨h1, h2⟩ := spl_in S n r hr (S.length - 1) []
      refine ⟨fun q hq => ?_, by simp; omega⟩
      rcases List.mem_cons.mp hq with rfl | hq
      · exact ⟨fun c hc => .inl hc, by simp⟩
      · obtain ⟨a1, a2⟩ := h1 q hq
        refine ⟨fun d hd => .inr ?_, by simp at a2 ⊢; omega⟩
        rcases a1 d hd with z | z
        · cases z
        · exact List.mem_cons_of_mem _ z
    | false =>
      rw [spl_miss hp]
      obtain ⟨h1, h2⟩ := spl_in S n r hr 0 (acc ++ [c])
      refine ⟨fun q hq => ?_, by simp; omega⟩
      obtain ⟨a1, a2⟩ := h1 q hq
      refine ⟨fun d hd => ?_, by simp at a2 ⊢; omega⟩
      rcases a1 d hd with z | z
      · rcases List.mem_append.mp z with z | z
        · exact .inl z
        · rw [List.mem_singleton] at z; subst z; exact .inr (List.mem_cons_self ..)
      · exact .inr (List.mem_cons_of_mem _ z)
  | n + 1, c :: r, h, k + 1, acc => by
    have hr : r.length ≤ n := by simp at h; omega
    have e : spl S (k + 1) acc (c :: r) = spl S k acc r := rfl
    rw [e]
    obtain ⟨h1, h2⟩ := spl_in S n r hr k acc
    refine ⟨fun q hq => ?_, by simp; omega⟩
    obtain ⟨a1, a2⟩ := h1 q hq
    refine ⟨fun d hd => ?_, by simp; omega⟩
    rcases a1 d hd with z | z
    · exact .inl z
    · exact .inr (List.mem_cons_of_mem _ z)
theorem split_ok {x y : Str} (hy : tl y ≠ []) (hk : y.cps.all (· < 256) = true) (hx : okS x) : (∀ p ∈ Txt.split x y, okS p ∧ p.length ≤ x.length) ∧ (Txt.split x y).length ≤ x.length + 1 := by
  have h := split_spl x y hy (kind_ok hk)
  obtain ⟨h1, h2⟩ := spl_in (tl y) _ (tl x) (Nat.le_refl _) 0 []
  rw [← h] at h1 h2
  refine ⟨fun p hp => ?_, ?_⟩
  · obtain ⟨a1, a2⟩ := h1 (tl p) (List.mem_map.mpr ⟨p, hp, rfl⟩)
    refine ⟨fun c hc => ?_, ?_⟩
    · rcases a1 c hc with z | z
      · cases z
      · exact hx c z
    · rw [len_tl, len_tl]; simpa using a2
  · rw [List.length_map] at h2
    rw [len_tl]
    exact h2
/-! ### parts, and whole texts -/
def allS {β : Type} (f : List Nat → Option β) : List (List Nat) → Option (List β)
  | [] => some []
  | l :: r => match f l with
    | none => none
    | some b => (allS f r).map fun bs => b :: bs
theorem allS_snoc {β : Type} {f : List Nat → Option β} {l : List Nat} : ∀ (ls : List (List Nat)), allS f (ls ++ [l]) = (allS f ls).bind fun bs => (f l).map fun b => bs ++ [b]
  | [] => by
    show (match f l with | none => none | some b => ((some []).map fun bs => b :: bs)) = _
    cases f l <;> rfl
  | k :: r => by
    show (match f k with | none => none | some b => (allS f (r ++ [l])).map fun bs => b :: bs) = ((match f k with | none => none | some b => (allS f r).map fun bs => b :: bs) : Option (List β)).bind _
    rw [allS_snoc r]
    cases f k with
    | none => rfl
    | some b => cases allS f r with
      | none => rfl
      | some bs => cases f l <;> rfl
theorem allS_none {β : Type} {f : List Nat → Option β} {l : List Nat} (h : f l = none) : ∀ {ls : List (List Nat)}, l ∈ ls → allS f ls = none
  | k :: r, hm => by
    show (match f k with | none => none | some b => (allS f r).map fun bs => b :: bs) = _
    cases hk : f k with
    | none => rfl
    | some b =>
      rcases List.mem_cons.mp hm with e | hm
      · rw [e, hk] at h; cases h
      · rw [allS_none h hm]; rfl
theorem allS_len {β : Type} {f : List Nat → Option β} : ∀ {ls : List (List Nat)} {bs : List β}, allS f ls = some bs → bs.length = ls.length
  | [], _, h => by cases h; rfl
  | k :: r, bs, h => by
    have h : (match f k with | none => none | some b => (allS f r).map fun bs => b :: bs) = some bs := h
    cases hk : f k with
    | none => rw [hk] at h; cases h
    | some b =>
      rw [hk] at h
      cases hr : allS f r with
      | none => rw [hr] at h; cases h
      | some cs =>
        rw [hr] at h
        cases h
        rw [List.length_cons, List.length_cons, allS_len hr]
abbrev sBar : Str := Str.ofString " | "
abbrev sCom : Str := Str.ofString ", "
abbrev sVot : Str := Str.ofString "votes "
theorem tl_bar : tl sBar = [32, 124, 32] := by decide +kernel
theorem tl_com : tl sCom = [44, 32] := by decide +kernel
theorem tl_vot : tl sVot = [118, 111, 116, 101, 115, 32] := by decide +kernel
def partS (l : List Nat) : Option R1 :=
  if pre [118, 111, 116, 101, 115, 32] l = true then (allS plainS (TL.spl [32, 124, 32] 0 [] (l.drop 6))).map R1.votes
  else (plainS l).map R1.one
theorem vote_cut (x : Str) : cutS (sVot ++ x) (some 6) none = x := ext_tl (by
  unfold cutS
  change List.take _ (List.drop _ (tl (sVot ++ x))) = _
  rw [len_tl, tl_append, tl_vot]
  simp [HT.sIx]
  exact List.take_of_length_le (by simp [tl]))
theorem tl_cut6 {x : Str} (h : pre [118, 111, 116, 101, 115, 32] (tl x) = true) : tl (cutS x (some 6) none) = (tl x).drop 6 := by
  have e : x = sVot ++ (⟨((tl x).drop 6).toArray⟩ : Str) := ext_tl (by
    rw [tl_append, tl_vot]
    show tl x = _ ++ (tl x).drop 6
    unfold pre at h
    rw [← eq_of_beq h]
    exact (List.take_append_drop 6 (tl x)).symm)
  have e2 : cutS x (some 6) none = (⟨((tl x).drop 6).toArray⟩ : Str) := (congrArg (fun z => cutS z (some 6) none) e).trans (vote_cut _)
  rw [e2]
def sp_part_rule (K : PySem.W.Frag) (A : Ad) : Sp := fun vs H Q E => ∃ (x : Str), vs = [.str x] ∧ (okS x ∧ x.length ≤ 100000) ∧
  (∀ (r : R1) u H', partS (tl x) = some r → H u = none → Stp [] H H' → (∀ L, Took H L → R1.At K A (hid L H') u r) → Q (.ref u) H') ∧ (∀ H', partS (tl x) = none → Stp [] H H' → E (.ref A.NoRule) none H')
theorem ok_part_rule {P : Program} {w : World} {K : PySem.W.Frag} {mg : Str → Option Value} {base : Heap} {A : Ad} {f : Addr} {fd : FuncData} (F : Fun K "part_rule" "part_rule" s_part_rule f fd) (T : Txt K mg A) (N_VoteRule : SH.CalC P w K mg base CX0 1 "VoteRule" A.VoteRule [] (sp_VoteRule___init__ K A)) (C_plain_rule : SH.Cal P w K mg base (L2N.CX P w) 4 "plain_rule" [] (sp_plain_rule K A)) : FnOk P w K mg base (L2N.CX P w) 5 f fd ["text"] (sp_part_rule K A) := by
  refine SH.okN F sc_part_rule (fun vs H Q E h => by obtain ⟨_, rfl, _⟩ := h; rfl) (fun cdv A' outer s H vs Q E hr h => ?_)
  obtain ⟨x, rfl, ⟨hx, hxl⟩, k, kE⟩ := h
  refine ⟨_, (pss_cons (ps_if (pt_val (pe_bm PySem.F.plainAttrs_str PySem.F.slot_str_startswith PySem.F.type_str_startswith mt_startswith (pv 0) (pa_cons pe_str pa_nil))) (pss_one (ps_ret (SH.pe_makeF N_VoteRule hr (by rfl) pass0 (pa_cons (SH.pe_lcX (own := [("part", 1)]) (g := (gName 1)) (tt := fun _ => tYes) rfl rfl (L2N.takes_of rfl rfl rfl rfl) (by rfl) sc_part_rule.nd (pi_list (pe_bm PySem.F.plainAttrs_str PySem.F.slot_str_split PySem.F.type_str_split mt_split (pe_slice sl_str (pv 0) (po_some pe_int) po_none) (pa_cons pe_str pa_nil))) (blkOk_by (own := [("part", 1)]) (N := ["text", "part"]) (sc := defScope s_part_rule) (by decide +kernel)) (fun _ _ _ _ _ => (pg_name (i := 1) sc_part_rule.nd rfl (Or.inl rfl))) (fun _ _ _ _ _ xe Wb hot => pts_nil) (fun _ _ _ _ _ xe Wb hot => (SH.pe_callX C_plain_rule hr (by rfl) hot (pa_cons (pv 1) pa_nil)))) pa_nil)))) pss_nil)
        (pss_one (ps_ret (SH.pe_callF C_plain_rule hr (by rfl) (L2N.passes_call (L2N.takes_of rfl rfl rfl rfl) fun _ _ _ _ h => h) (pa_cons (pv 0) pa_nil))))), ?_⟩
  walk_at "begin"
  unfold partS at k kE
  walk_at "rd"
  refine ⟨ty_str, ?_⟩
  walk_at "rd"
  refine ⟨_, _, rfl, rfl, ?_⟩
  rw [show Txt.startswith x (Str.ofString "votes ") = pre [118, 111, 116, 101, 115, 32] (tl x) from by rw [sw_pre (by rw [tl_vot]; simp), tl_vot]]
  cases hp : pre [118, 111, 116, 101, 115, 32] (tl x) with
  | false =>
    rw [if_neg (by rw [hp]; decide)] at k kE
    walk_at "rd"
    refine ⟨x, rfl, ⟨hx, hxl⟩, fun r u H' e hu S hA => ?_, fun H' e S => ?_⟩
    · rw [e] at k
      exact k _ u H' rfl hu S fun L hL => .one (hA L hL)
    · rw [e] at kE
      exact kE H' rfl S
  | true =>
    rw [if_pos hp] at k kE
    walk_at "rd"
    refine ⟨_, rfl, Nat.le_trans hxl (by decide), ?_⟩
    have h6 := tl_cut6 hp
    have h6x : okS (cutS x (some 6) none) := fun c hc => hx c (List.mem_of_mem_drop (by rw [h6] at hc; exact hc))
    have h6l : (cutS x (some 6) none).length ≤ 100000 := Nat.le_trans (cutS_length _ _ _) hxl
    rw [← h6] at k kE
    generalize hy : cutS x (some 6) none = y at *
    obtain ⟨p1, p2⟩ := split_ok (y := sBar) (by rw [tl_bar]; simp) (by decide +kernel) h6x
    have hsp : (Txt.split y sBar).map tl = TL.spl [32, 124, 32] 0 [] (tl y) := by
      have := split_spl y sBar (by rw [tl_bar]; simp) (kind_ok (by decide +kernel))
      rw [tl_bar] at this
      exact this
    rw [← hsp] at k kE
    refine ⟨ty_str, ?_⟩
    walk_at "rd"
    refine ⟨_, _, rfl, rfl, by decide +kernel, Nat.le_trans (m := 200000) (by omega) (by decide), ?_⟩
    generalize hps : Txt.split y (Str.ofString " | ") = ps at *
    intro w' hw'
    have S0 := (Stp.refl [] H).new (o := .lst (ps.map V.str)) hw'
    have hw0 := upd_same (H := H) (a := w') (o := .lst (ps.map V.str))
    generalize upd H w' (.lst (ps.map V.str)) = H0 at S0 hw0 ⊢
    walk_at "rd"
    intro D hD
    refine lc_it (walk_list (xs := ps.map V.str)) (fun j H' => Stp [] H0 H' ∧ ∃ uvs rs, H' D = some (.lst uvs) ∧ allS plainS ((ps.map tl).take j) = some rs ∧ uvs.length = rs.length ∧ ∀ L, Took H L → RsAt K A (hid (D :: L) H') uvs rs) ⟨(Stp.refl _ _).new hD, [], [], upd_same, rfl, rfl, fun L _ => RsAt.nil⟩ (fun j H' _ z => z.1.sql0 (SqL.of hw0)) ?_ ?_
    · rintro j x' H3 H4 hj ⟨S, uvs, rs, hL, hall, hul, hR⟩ ⟨rfl, hx'⟩
      obtain ⟨z, hz, rfl⟩ := map_at hx'
      have hzm := List.mem_of_getElem? hz
      obtain ⟨q1, q2⟩ := p1 z hzm
      have hzt : (ps.map tl)[j]? = some (tl z) := by rw [List.getElem?_map, hz]; rfl
      have hrl := allS_len hall
      walk_at "rd"
      refine ⟨z, rfl, ⟨q1, by omega⟩, fun r u H5 hr hu S5 hA => ?_, fun H5 hn S5 => ?_⟩
      · refine ⟨uvs, S5.keep0 hL, Nat.lt_of_le_of_lt (m := 200000) (by rw [hul, hrl, List.length_take, List.length_map]; omega) (by decide), (S.trans S5).putN hD, uvs ++ [.ref u], rs ++ [r], upd_same, ?_, by simp [hul], fun L hT => ?_⟩
        · rw [take_snoc hzt, allS_snoc, hall, Option.bind_some, hr]
          rfl
        · rw [hid_upd (List.mem_cons_self ..)]
          exact RsAt.snoc ((hR L hT).stp (hid_mono S5) (by simp)) (hA (D :: L) ((hT.stp (S0.trans S)).cons hL))
      · exact kE H5 (by rw [allS_none hn (List.mem_map.mpr ⟨z, hzm, rfl⟩)]; rfl) ((S0.trans S).trans S5)
    rintro H2 ⟨S, uvs, rs, hL, hall, hul, hR⟩
    rw [List.length_map, ← List.length_map (f := tl), List.take_length] at hall
    rw [hall] at k
    walk_at "rd"
    intro u du hu hdu hne2
    have S5 : Stp [] H2 (upd (upd H2 du (.own u)) u (.ins A.VoteRule du [])) := ((Stp.refl [] H2).new hdu).new (by rw [upd_ne hne2.symm]; exact hu)
    refine ⟨u, D, uvs, rfl, ⟨du, upd_same⟩, S5.sql0 (SqL.of hL), fun dx l H7 hl hul2 hu7 hl7 S7 => ⟨rfl, ?_⟩⟩
    have S27 : Stp [] H2 H7 := S5.then S7 (by simp; exact hu)
    have S02 := S0.trans S
    refine k _ u _ rfl (S02.dom _ hu) (S02.trans S27) fun L hT => .votes (hid_at (hT.not (S02.dom _ hu)) hu7) (hid_at (hT.not (S02.dom _ (S5.dom _ hl))) hl7) ?_
    exact ((hR L hT).stp (hid_drop fun b hb => List.mem_cons_of_mem _ hb) (by simp)).stp (hid_mono S27) (by simp)
/-! ### a rule that was read -/
inductive RT.At (K : PySem.W.Frag) (A : Ad) (H : Hp) (u : Addr) : List R1 → Prop
  | plain {d : Addr} (h : H u = some (.ins A.Rule d [])) : RT.At K A H u []
  | part {r : R1} (h : R1.At K A H u r) : RT.At K A H u [r]
  | chain {d l : Addr} {uvs : List V} {rs : List R1} (h : H u = some (.ins A.ChainRule d [("rules", .ref l)])) (hl : H l = some (.lst uvs)) (hR : PsAt K A H uvs rs) (h2 : rs.length ≠ 1 ∧ rs ≠ []) : RT.At K A H u rs
theorem RT.At.stp {K : PySem.W.Frag} {A : Ad} {M : List Addr} {H H' : Hp} {u : Addr} {r : List R1} (h : RT.At K A H u r) (S : Stp M H H') (hM : ∀ m ∈ M, H m = none) : RT.At K A H' u r := by
  have keep : ∀ {a : Addr} {o : HO}, H a = some o → H' a = some o := fun {a o} e => S.keep e fun z => by rw [hM _ z] at e; cases e
  cases h with
  | plain h => exact .plain (keep h)
  | part h => exact .part (h.stp S hM)
  | chain h hl hR h2 => exact .chain (keep h) (keep hl) (hR.stp S hM) h2
theorem spl_ne (S : List Nat) : ∀ (l : List Nat) (k : Nat) (acc : List Nat), TL.spl S k acc l ≠ []
  | [], k, acc => by rw [spl_nil]; simp
  | c :: r, 0, acc => by
    cases hp : pre S (c :: r) with
    | true => rw [spl_hit hp]; simp
    | false => rw [spl_miss hp]; exact spl_ne S r 0 _
  | c :: r, k + 1, acc => by
    show TL.spl S k acc r ≠ []
    exact spl_ne S r k acc
/-- the rule of a whole text -/
def ruleT (l : List Nat) : Option (List R1) := if l = [] then some [] else allS partS (TL.spl [44, 32] 0 [] l)
def sp_read_rule (K : PySem.W.Frag) (A : Ad) : Sp := fun vs H Q E => ∃ (v : V), vs = [v] ∧ ((∃ x : Str, v = .str x ∧ (okS x ∧ x.length ≤ 100000) ∧
  (∀ (rs : List R1) u H', ruleT (tl x) = some rs → Stp [] H H' → RT.At K A H' u rs → Q (.ref u) H') ∧ (∀ H', ruleT (tl x) = none → Stp [] H H' → E (.ref A.NoRule) none H')) ∨
  ((∃ t, TyX K H v t ∧ PySem.W.kitOne K t (.type "str") = some false) ∧ E (.ref A.NoRule) none H))
theorem ok_read_rule {P : Program} {w : World} {K : PySem.W.Frag} {mg : Str → Option Value} {base : Heap} {A : Ad} {f : Addr} {fd : FuncData} (F : Fun K "read_rule" "read_rule" s_read_rule f fd) (T : Txt K mg A) (N_ChainRule : SH.CalC P w K mg base CX0 1 "ChainRule" A.ChainRule [] (sp_ChainRule___init__ K A)) (C_part_rule : SH.Cal P w K mg base (L2N.CX P w) 5 "part_rule" [] (sp_part_rule K A)) : FnOk P w K mg base (L2N.CX P w) 6 f fd ["text"] (sp_read_rule K A) := by
  refine SH.okN F sc_read_rule (fun vs H Q E h => by obtain ⟨_, rfl, _⟩ := h; rfl) (fun cdv A' outer s H vs Q E hr h => ?_)
  obtain ⟨v, rfl, h⟩ := h
  refine ⟨_, (pss_cons (ps_if (pt_not (pt_val (pe_callB call_isi (by rfl) T.z_isinstance (by decide +kernel) (pa_cons (pv 0) (pa_cons (pe_bltn (v := .ty "str") (by rfl) T.z_str (by decide +kernel) rfl) pa_nil))))) (pss_one (L2N.ps_raise rfl (L2N.takes_of rfl rfl rfl rfl) (L2N.pmk_own PySem.F.excBase_ValueError T.xn_NoRule T.g_NoRule T.kp_NoRule (raises_own T.sb_NoRule T.ty_NoRule) rfl))) pss_nil)
        (pss_cons (ps_if (pt_cmpR (SH.oEq hr.units) (pv 0) pe_str (nomark _)) (pss_one (ps_ret (SH.pe_makeP T.mkp_Rule (by rfl) T.g_Rule))) pss_nil)
        (pss_cons (SH.ps_setLcX (i := 1) (own := [("part", 2)]) (g := (gName 2)) (tt := fun _ => tYes) rfl rfl (L2N.takes_of rfl rfl rfl rfl) (by rfl) sc_read_rule.nd rfl rfl (sw_true rfl rfl rfl (by decide +kernel)) (pi_list (pe_bm PySem.F.plainAttrs_str PySem.F.slot_str_split PySem.F.type_str_split mt_split (pv 0) (pa_cons pe_str pa_nil))) (blkOk_by (own := [("part", 2)]) (N := ["text", "rules", "part"]) (sc := defScope s_read_rule) (by decide +kernel)) (fun _ _ _ _ _ => (pg_name (i := 2) sc_read_rule.nd rfl (Or.inl rfl))) (fun _ _ _ _ _ xe Wb hot => pts_nil) (fun _ _ _ _ _ xe Wb hot => (SH.pe_callX C_part_rule hr (by rfl) hot (pa_cons (pv 2) pa_nil))))
        (pss_cons (ps_if (pt_cmpR (SH.oEq hr.units) (pe_callB SH.cLen (by rfl) T.z_len (by decide +kernel) (pa_cons (pv 1) pa_nil)) pe_int (nomark _)) (pss_one (ps_ret (pe_ix SH.ixA (pv 1) pe_int (fun _ _ => rfl)))) pss_nil)
        (pss_one (ps_ret (SH.pe_makeF N_ChainRule hr (by rfl) pass0 (pa_cons (pv 1) pa_nil)))))))), ?_⟩
  walk_at "begin"
  rcases h with ⟨x, rfl, ⟨hx, hxl⟩, k, kE⟩ | ⟨⟨t, h1, h2⟩, kE⟩
  rotate_left
  · walk_at "rd"
    refine SH.v_isi (.ty _) h1 h2 ?_
    walk_at "rd"
    exact kE
  unfold ruleT at k kE
  walk_at "rd"
  refine v_isiSS ?_
  walk_at "rd"
  refine v_eqS ?_
  by_cases he : tl x = []
  · rw [if_pos he] at k
    rw [decide_eq_true (show x = Str.ofString "" from ext_tl (by rw [he]; decide +kernel))]
    walk_at "rd"
    intro u du hu hdu hne
    have S5 : Stp [] H (upd (upd H du (.own u)) u (.ins A.Rule du [])) := ((Stp.refl [] H).new hdu).new (by rw [upd_ne hne.symm]; exact hu)
    exact k [] u _ rfl S5 (.plain upd_same)
  rw [if_neg he] at k kE
  rw [decide_eq_false (fun e => he (by rw [e]; decide +kernel))]
  walk_at "rd"
  obtain ⟨p1, p2⟩ := split_ok (y := sCom) (by rw [tl_com]; simp) (by decide +kernel) hx
  have hsp : (Txt.split x sCom).map tl = TL.spl [44, 32] 0 [] (tl x) := by
    have := split_spl x sCom (by rw [tl_com]; simp) (kind_ok (by decide +kernel))
    rw [tl_com] at this
    exact this
  rw [← hsp] at k kE
  refine ⟨ty_str, ?_⟩
  walk_at "rd"
  refine ⟨_, _, rfl, rfl, by decide +kernel, Nat.le_trans (m := 200000) (by omega) (by decide), ?_⟩
  generalize hps : Txt.split x (Str.ofString ", ") = ps at *
  intro w' hw'
  have S0 := (Stp.refl [] H).new (o := .lst (ps.map V.str)) hw'
  have hw0 := upd_same (H := H) (a := w') (o := .lst (ps.map V.str))
  generalize upd H w' (.lst (ps.map V.str)) = H0 at S0 hw0 ⊢
  walk_at "rd"
  intro D hD
  refine lc_it (walk_list (xs := ps.map V.str)) (fun j H' => Stp [] H0 H' ∧ ∃ uvs rs, H' D = some (.lst uvs) ∧ allS partS ((ps.map tl).take j) = some rs ∧ uvs.length = rs.length ∧ PsAt K A (hid [D] H') uvs rs) ⟨(Stp.refl _ _).new hD, [], [], upd_same, rfl, rfl, PsAt.nil⟩ (fun j H' _ z => z.1.sql0 (SqL.of hw0)) ?_ ?_
  · rintro j x' H3 H4 hj ⟨S, uvs, rs, hL, hall, hul, hR⟩ ⟨rfl, hx'⟩
    obtain ⟨z, hz, rfl⟩ := map_at hx'
    have hzm := List.mem_of_getElem? hz
    obtain ⟨q1, q2⟩ := p1 z hzm
    have hzt : (ps.map tl)[j]? = some (tl z) := by rw [List.getElem?_map, hz]; rfl
    have hrl := allS_len hall
    walk_at "rd"
    refine ⟨z, rfl, ⟨q1, by omega⟩, fun r u H5 hr hu S5 hA => ?_, fun H5 hn S5 => ?_⟩
    · refine ⟨uvs, S5.keep0 hL, Nat.lt_of_le_of_lt (m := 200000) (by rw [hul, hrl, List.length_take, List.length_map]; omega) (by decide), (S.trans S5).putN hD, uvs ++ [.ref u], rs ++ [r], upd_same, ?_, by simp [hul], ?_⟩
      · rw [take_snoc hzt, allS_snoc, hall, Option.bind_some, hr]
        rfl
      · rw [hid_upd (List.mem_cons_self ..)]
        exact PsAt.snoc (hR.stp (hid_mono S5) (by simp)) (hA [D] (Took.nil.cons hL))
    · exact kE H5 (allS_none hn (List.mem_map.mpr ⟨z, hzm, rfl⟩)) ((S0.trans S).trans S5)
  rintro H2 ⟨S, uvs, rs, hL, hall, hul, hR⟩
  rw [List.length_map, ← List.length_map (f := tl), List.take_length] at hall
  rw [hall] at k
  have hR2 : PsAt K A H2 uvs rs := by
    have := hR.stp (hid_drop (L := []) (by simp)) (by simp)
    rw [hid_nil] at this
    exact this
  have hrl := allS_len hall
  rw [List.length_map] at hrl
  have S02 := S0.trans S
  walk_at "rd"
  refine r_w (fun hc => ?_) fun hc => ?_
  · walk_at "rd"
    have h1 : rs.length = 1 := by omega
    obtain ⟨r1, rfl⟩ := List.length_eq_one_iff.mp h1
    obtain ⟨v, hv⟩ := List.length_eq_one_iff.mp (by omega : uvs.length = 1)
    subst hv
    obtain ⟨u, r, e1, e2, e3⟩ := hR2.at_ 0 v rfl
    cases e2
    subst e1
    refine v_ixLn (n := 0) (SqL.of hL) rfl rfl ?_
    exact k _ u H2 rfl S02 (.part e3)
  · walk_at "rd"
    intro u du hu hdu hne2
    have S5 : Stp [] H2 (upd (upd H2 du (.own u)) u (.ins A.ChainRule du [])) := ((Stp.refl [] H2).new hdu).new (by rw [upd_ne hne2.symm]; exact hu)
    refine ⟨u, D, uvs, rfl, ⟨du, upd_same⟩, S5.sql0 (SqL.of hL), fun dx l H7 hl hul2 hu7 hl7 S7 => ⟨rfl, ?_⟩⟩
    have S27 : Stp [] H2 H7 := S5.then S7 (by simp; exact hu)
    exact k _ u _ rfl (S02.trans S27) (.chain hu7 hl7 (hR2.stp S27 (by simp)) ⟨by omega, fun e => by
      rw [e] at hrl
      have h0 : ps = [] := List.length_eq_zero_iff.mp hrl.symm
      rw [h0] at hsp
      cases htx : tl x with
      | nil => exact he htx
      | cons c r =>
        have := spl_ne [44, 32] (tl x) 0 []
        exact this hsp.symm⟩)
/-! ### the greatest number that a rule names -/
def maxD (ns : List Int) : Int := ns.foldl max (-1)
theorem maxD_all (ns : List Int) : ∀ y ∈ ns, y ≤ maxD ns := fun y hy => (SH.foldl_max ns (-1)).2 y (by simp [hy])
theorem maxD_low (ns : List Int) : -1 ≤ maxD ns := (SH.foldl_max ns (-1)).2 (-1) (by simp)
theorem maxD_of {ns : List Int} {m : Int} (h : ∀ n ∈ ns, -1 ≤ n) (h1 : m ∈ ns) (h2 : ∀ y, y ∈ ns → y ≤ m) : m = maxD ns := by
  have a := maxD_all ns m h1
  rcases List.mem_cons.mp (SH.foldl_max ns (-1)).1 with e | e
  · have := h m h1
    have e' : maxD ns = -1 := e
    omega
  · have := h2 _ e
    have e' : maxD ns ≤ m := this
    omega
theorem maxD_snoc (ns : List Int) (n : Int) : maxD (ns ++ [n]) = max (maxD ns) n := by unfold maxD; rw [List.foldl_append]; rfl
def R0.wid : R0 → Int
  | .key cols => maxD (cols.map fun c => (c.1 : Int))
  | .near i _ => i
  | .ring i _ => i
theorem R0.wid_low (r : R0) : -1 ≤ r.wid := by
  cases r with
  | key cols => exact maxD_low _
  | near i g => show (-1 : Int) ≤ i; omega
  | ring i g => show (-1 : Int) ≤ i; omega
def R1.wid : R1 → Int
  | .one r => r.wid
  | .votes rs => maxD (rs.map R0.wid)
theorem R1.wid_low (r : R1) : -1 ≤ r.wid := by
  cases r with
  | one r => exact r.wid_low
  | votes rs => exact maxD_low _
def sp_KeyRule_widest (K : PySem.W.Frag) (A : Ad) : Sp := fun vs H Q _ => ∃ (u d l : Addr) (cvs : List V) (cols : List (Nat × Bool)), vs = [.ref u] ∧ H u = some (.ins A.KeyRule d [("columns", .ref l)]) ∧ (SqL K H l cvs ∧ Cols K H cvs cols ∧ cols.length ≤ 99000) ∧ ∀ H', Stp [] H H' → Q (.int (maxD (cols.map fun c => (c.1 : Int)))) H'
theorem ok_KeyRule_widest {P : Program} {w : World} {K : PySem.W.Frag} {mg : Str → Option Value} {base : Heap} {A : Ad} {f : Addr} {fd : FuncData} (F : Fun K "widest" "KeyRule.widest" s_KeyRule_widest f fd) (T : Txt K mg A)  : FnOk P w K mg base CX0 1 f fd ["self"] (sp_KeyRule_widest K A) := by
  refine F.ok sc_KeyRule_widest (fun vs H Q E h => by obtain ⟨_, _, _, _, _, rfl, _⟩ := h; rfl) (fun cdv A' outer s H vs Q E hr h => ?_)
  obtain ⟨u, d, l, cvs, cols, rfl, hu, ⟨hl, hC, hcl⟩, k⟩ := h
  refine ⟨_, (pss_one (ps_ret (pe_callBK (SH.cr_maxDef rfl hr.units) (by rfl) T.z_max (by decide +kernel) (pa_cons (pe_lc (own := [("at", 1), ("way", 2)]) (g := (gTup K 2 (gCons (gName 1) (gCons (gName 2) gNil)))) (tt := tYes) (by rfl) sc_KeyRule_widest.nd (pi_list (SH.pe_fldF T.cl_KeyRule T.na_KeyRule_columns (pv 0))) (blkOk_by (own := [("at", 1), ("way", 2)]) (N := ["self", "at", "way"]) (sc := defScope s_KeyRule_widest) (by decide +kernel)) (fun _ _ _ _ _ => (pg_tup (by rfl) (pgs_cons (pg_name (i := 1) sc_KeyRule_widest.nd rfl (Or.inl rfl)) (pgs_cons (pg_name (i := 2) sc_KeyRule_widest.nd rfl (Or.inl rfl)) pgs_nil)))) (fun _ _ _ _ _ => pts_nil) (fun _ _ _ _ _ => (pv 1))) pa_nil) (pk_cons (pe_un un_neg pe_int) pk_nil)))), ?_⟩
  walk_at "begin"
  walk_at "rd"
  intro D hD
  refine lc_it (walk_list (xs := cvs)) (fun j H' => Stp [] H H' ∧ H' D = some (.lst (((cols.take j).map fun c => (c.1 : Int)).map V.int))) ⟨(Stp.refl _ _).new hD, upd_same⟩ (fun j H' _ z => z.1.sql0 hl) ?_ ?_
  · rintro j v H1 H2 hj ⟨S, hL⟩ ⟨rfl, hv⟩
    obtain ⟨t, c, rfl, hc, ht⟩ := hC.2 j v hv
    have ht2 := S.tup ht
    walk_at "rd"
    refine ⟨_, hL, Nat.lt_of_le_of_lt (m := 99000) (by rw [List.length_map, List.length_map]; exact Nat.le_trans (List.length_take_le' _ _) (by omega)) (by decide), S.putN hD, ?_⟩
    rw [upd_same, List.take_succ, hc]
    simp
  rintro H1 ⟨S, hL⟩
  rw [hC.1, List.take_length] at hL
  walk_at "rd"
  refine ⟨D, cols.map fun c => (c.1 : Int), -1, rfl, rfl, SqL.of hL, fun e => ?_, fun m h1 h2 => ?_⟩
  · have := k H1 S
    rw [e] at this
    exact this
  · rw [maxD_of (fun n hn => by obtain ⟨c, _, rfl⟩ := List.mem_map.mp hn; omega) h1 h2]
    exact k H1 S
def sp_NearRule_widest (K : PySem.W.Frag) (A : Ad) : Sp := fun vs H Q _ => ∃ (s dx : Addr) (i g : V), vs = [.ref s] ∧ H s = some (.ins A.NearRule dx [("at", i), ("gap", g)]) ∧ Q i H
theorem ok_NearRule_widest {P : Program} {w : World} {K : PySem.W.Frag} {mg : Str → Option Value} {base : Heap} {A : Ad} {f : Addr} {fd : FuncData} (F : Fun K "widest" "NearRule.widest" s_NearRule_widest f fd) (T : Txt K mg A)  : FnOk P w K mg base CX0 1 f fd ["self"] (sp_NearRule_widest K A) := by
  refine F.ok sc_NearRule_widest (fun vs H Q E h => by obtain ⟨_, _, _, _, rfl, _⟩ := h; rfl) (fun cdv A' outer s H vs Q E hr h => ?_)
  obtain ⟨s', dx, i, g, rfl, hs, k⟩ := h
  refine ⟨_, (pss_one (ps_ret (SH.pe_fldF T.cl_NearRule T.na_NearRule_at (pv 0)))), ?_⟩
  walk_at "begin"
  walk_at "rd"
  exact k
def sp_RingRule_widest (K : PySem.W.Frag) (A : Ad) : Sp := fun vs H Q _ => ∃ (s dx : Addr) (i g : V), vs = [.ref s] ∧ H s = some (.ins A.RingRule dx [("at", i), ("size", g)]) ∧ Q i H
theorem ok_RingRule_widest {P : Program} {w : World} {K : PySem.W.Frag} {mg : Str → Option Value} {base : Heap} {A : Ad} {f : Addr} {fd : FuncData} (F : Fun K "widest" "RingRule.widest" s_RingRule_widest f fd) (T : Txt K mg A)  : FnOk P w K mg base CX0 1 f fd ["self"] (sp_RingRule_widest K A) := by
  refine F.ok sc_RingRule_widest (fun vs H Q E h => by obtain ⟨_, _, _, _, rfl, _⟩ := h; rfl) (fun cdv A' outer s H vs Q E hr h => ?_)
  obtain ⟨s', dx, i, g, rfl, hs, k⟩ := h
  refine ⟨_, (pss_one (ps_ret (SH.pe_fldF T.cl_RingRule T.na_RingRule_at (pv 0)))), ?_⟩
  walk_at "begin"
  walk_at "rd"
  exact k
def R0.few : R0 → Prop
  | .key cols => cols.length ≤ 99000
  | _ => True
theorem R0.goW {K : PySem.W.Frag} {A : Ad} {σ : L2.St} {H : Hp} {Q : VK} {E : XK} {i : Nat} {u : Addr} {r : R0} (hi : σ[i]? = some (some (.ref u))) (hU : R0.At K A H u r) (hf : r.few) (q : ∀ H', Stp [] H H' → Q (.int r.wid) H') :
    tOrE (tMeth A.KeyRule "widest" (sp_KeyRule_widest K A) [] E (tVar i) tNil) (tOrE (tMeth A.NearRule "widest" (sp_NearRule_widest K A) [] E (tVar i) tNil) (tMeth A.RingRule "widest" (sp_RingRule_widest K A) [] E (tVar i) tNil)) σ H Q := by
  cases hU with
  | @key d l cvs cols h hl hc =>
    refine r_orL ?_
    walk_at "rd"
    refine SH.r_var hi ?_
    walk_at "rd"
    exact ⟨u, d, l, cvs, cols, rfl, h, ⟨SqL.of hl, hc, hf⟩, q⟩
  | @near d i' g h =>
    refine r_orR (r_orL ?_)
    walk_at "rd"
    refine SH.r_var hi ?_
    walk_at "rd"
    exact ⟨u, d, _, _, rfl, h, q H (Stp.refl _ _)⟩
  | @ring d i' m h hm =>
    refine r_orR (r_orR ?_)
    walk_at "rd"
    refine SH.r_var hi ?_
    walk_at "rd"
    exact ⟨u, d, _, _, rfl, h, q H (Stp.refl _ _)⟩
def sp_VoteRule_widest (K : PySem.W.Frag) (A : Ad) : Sp := fun vs H Q _ => ∃ (u d l : Addr) (uvs : List V) (rs : List R0), vs = [.ref u] ∧ H u = some (.ins A.VoteRule d [("rules", .ref l)]) ∧ (SqL K H l uvs ∧ RsAt K A H uvs rs ∧ (∀ r ∈ rs, r.few) ∧ rs.length ≤ 99000) ∧ ∀ H', Stp [] H H' → Q (.int (maxD (rs.map R0.wid))) H'
theorem ok_VoteRule_widest {P : Program} {w : World} {K : PySem.W.Frag} {mg : Str → Option Value} {base : Heap} {A : Ad} {f : Addr} {fd : FuncData} (F : Fun K "widest" "VoteRule.widest" s_VoteRule_widest f fd) (T : Txt K mg A) (M_KeyRule_widest : SH.CalM P w K mg base CX0 1 A.KeyRule "widest" [] (sp_KeyRule_widest K A)) (M_NearRule_widest : SH.CalM P w K mg base CX0 1 A.NearRule "widest" [] (sp_NearRule_widest K A)) (M_RingRule_widest : SH.CalM P w K mg base CX0 1 A.RingRule "widest" [] (sp_RingRule_widest K A)) : FnOk P w K mg base CX0 2 f fd ["self"] (sp_VoteRule_widest K A) := by
  refine F.ok sc_VoteRule_widest (fun vs H Q E h => by obtain ⟨_, _, _, _, _, rfl, _⟩ := h; rfl) (fun cdv A' outer s H vs Q E hr h => ?_)
  obtain ⟨u, d, l, uvs, rs, rfl, hu, ⟨hl, hR, hf, hn⟩, k⟩ := h
  refine ⟨_, (pss_one (ps_ret (pe_callBK (SH.cr_maxDef rfl hr.units) (by rfl) T.z_max (by decide +kernel) (pa_cons (pe_lc (own := [("rule", 1)]) (g := (gName 1)) (tt := tYes) (by rfl) sc_VoteRule_widest.nd (pi_list (SH.pe_fldF T.cl_VoteRule T.na_VoteRule_rules (pv 0))) (blkOk_by (own := [("rule", 1)]) (N := ["self", "rule"]) (sc := defScope s_VoteRule_widest) (by decide +kernel)) (fun _ _ _ _ _ => (pg_name (i := 1) sc_VoteRule_widest.nd rfl (Or.inl rfl))) (fun _ _ _ _ _ => pts_nil) (fun _ _ _ _ _ => (SH.peOrE (SH.pe_methF0 (pv 1) M_KeyRule_widest hr pass0) (SH.peOrE (SH.pe_methF0 (pv 1) M_NearRule_widest hr pass0) (SH.pe_methF0 (pv 1) M_RingRule_widest hr pass0))))) pa_nil) (pk_cons (pe_un un_neg pe_int) pk_nil)))), ?_⟩
  walk_at "begin"
  walk_at "rd"
  intro D hD
  refine lc_it (walk_list (xs := uvs)) (fun j H' => Stp [] H H' ∧ H' D = some (.lst (((rs.take j).map R0.wid).map V.int))) ⟨(Stp.refl _ _).new hD, upd_same⟩ (fun j H' _ z => z.1.sql0 hl) ?_ ?_
  · rintro j v H1 H2 hj ⟨S, hL⟩ ⟨rfl, hv⟩
    obtain ⟨ur, r, rfl, hr', hR'⟩ := (hR.stp S (by simp)).at_ j v hv
    walk_at "rd"
    refine R0.goW rfl hR' (hf r (List.mem_of_getElem? hr')) fun H3 S3 => ?_
    refine ⟨_, S3.keep0 hL, Nat.lt_of_le_of_lt (m := 99000) (by rw [List.length_map, List.length_map]; exact Nat.le_trans (List.length_take_le' _ _) (by omega)) (by decide), (S.trans S3).putN hD, ?_⟩
    rw [upd_same, take_snoc hr', List.map_append, List.map_append]
    rfl
  rintro H1 ⟨S, hL⟩
  rw [hR.len, List.take_length] at hL
  walk_at "rd"
  refine ⟨D, rs.map R0.wid, -1, rfl, rfl, SqL.of hL, fun e => ?_, fun m h1 h2 => ?_⟩
  · have := k H1 S
    rw [e] at this
    exact this
  · rw [maxD_of (fun n hn => by obtain ⟨c, _, rfl⟩ := List.mem_map.mp hn; exact c.wid_low) h1 h2]
    exact k H1 S
def R1.few : R1 → Prop
  | .one r => r.few
  | .votes rs => (∀ r ∈ rs, r.few) ∧ rs.length ≤ 99000
theorem R1.goW {K : PySem.W.Frag} {A : Ad} {σ : L2.St} {H : Hp} {Q : VK} {E : XK} {i : Nat} {u : Addr} {r : R1} (hi : σ[i]? = some (some (.ref u))) (hU : R1.At K A H u r) (hf : r.few) (q : ∀ H', Stp [] H H' → Q (.int r.wid) H') :
    tOrE (tMeth A.VoteRule "widest" (sp_VoteRule_widest K A) [] E (tVar i) tNil) (tOrE (tMeth A.KeyRule "widest" (sp_KeyRule_widest K A) [] E (tVar i) tNil) (tOrE (tMeth A.NearRule "widest" (sp_NearRule_widest K A) [] E (tVar i) tNil) (tMeth A.RingRule "widest" (sp_RingRule_widest K A) [] E (tVar i) tNil))) σ H Q := by
  cases hU with
  | one h => exact r_orR (R0.goW hi h hf q)
  | @votes d l uvs rs h hl hR =>
    refine r_orL ?_
    walk_at "rd"
    refine SH.r_var hi ?_
    walk_at "rd"
    exact ⟨u, d, l, uvs, rs, rfl, h, ⟨SqL.of hl, hR, hf.1, hf.2⟩, q⟩
def sp_ChainRule_widest (K : PySem.W.Frag) (A : Ad) : Sp := fun vs H Q _ => ∃ (u d l : Addr) (uvs : List V) (rs : List R1), vs = [.ref u] ∧ H u = some (.ins A.ChainRule d [("rules", .ref l)]) ∧ (SqL K H l uvs ∧ PsAt K A H uvs rs ∧ (∀ r ∈ rs, r.few) ∧ rs.length ≤ 99000) ∧ ∀ H', Stp [] H H' → Q (.int (maxD (rs.map R1.wid))) H'
theorem ok_ChainRule_widest {P : Program} {w : World} {K : PySem.W.Frag} {mg : Str → Option Value} {base : Heap} {A : Ad} {f : Addr} {fd : FuncData} (F : Fun K "widest" "ChainRule.widest" s_ChainRule_widest f fd) (T : Txt K mg A) (M_KeyRule_widest : SH.CalM P w K mg base CX0 1 A.KeyRule "widest" [] (sp_KeyRule_widest K A)) (M_NearRule_widest : SH.CalM P w K mg base CX0 1 A.NearRule "widest" [] (sp_NearRule_widest K A)) (M_RingRule_widest : SH.CalM P w K mg base CX0 1 A.RingRule "widest" [] (sp_RingRule_widest K A)) (M_VoteRule_widest : SH.CalM P w K mg base CX0 2 A.VoteRule "widest" [] (sp_VoteRule_widest K A)) : FnOk P w K mg base CX0 3 f fd ["self"] (sp_ChainRule_widest K A) := by
  refine F.ok sc_ChainRule_widest (fun vs H Q E h => by obtain ⟨_, _, _, _, _, rfl, _⟩ := h; rfl) (fun cdv A' outer s H vs Q E hr h => ?_)
  obtain ⟨u, d, l, uvs, rs, rfl, hu, ⟨hl, hR, hf, hn⟩, k⟩ := h
  refine ⟨_, (pss_one (ps_ret (pe_callBK (SH.cr_maxDef rfl hr.units) (by rfl) T.z_max (by decide +kernel) (pa_cons (pe_lc (own := [("rule", 1)]) (g := (gName 1)) (tt := tYes) (by rfl) sc_ChainRule_widest.nd (pi_list (SH.pe_fldF T.cl_ChainRule T.na_ChainRule_rules (pv 0))) (blkOk_by (own := [("rule", 1)]) (N := ["self", "rule"]) (sc := defScope s_ChainRule_widest) (by decide +kernel)) (fun _ _ _ _ _ => (pg_name (i := 1) sc_ChainRule_widest.nd rfl (Or.inl rfl))) (fun _ _ _ _ _ => pts_nil) (fun _ _ _ _ _ => (SH.peOrE (SH.pe_methF0 (pv 1) M_VoteRule_widest hr pass0) (SH.peOrE (SH.pe_methF0 (pv 1) M_KeyRule_widest hr pass0) (SH.peOrE (SH.pe_methF0 (pv 1) M_NearRule_widest hr pass0) (SH.pe_methF0 (pv 1) M_RingRule_widest hr pass0)))))) pa_nil) (pk_cons (pe_un un_neg pe_int) pk_nil)))), ?_⟩
  walk_at "begin"
  walk_at "rd"
  intro D hD
  refine lc_it (walk_list (xs := uvs)) (fun j H' => Stp [] H H' ∧ H' D = some (.lst (((rs.take j).map R1.wid).map V.int))) ⟨(Stp.refl _ _).new hD, upd_same⟩ (fun j H' _ z => z.1.sql0 hl) ?_ ?_
  · rintro j v H1 H2 hj ⟨S, hL⟩ ⟨rfl, hv⟩
    obtain ⟨ur, r, rfl, hr', hR'⟩ := (hR.stp S (by simp)).at_ j v hv
    walk_at "rd"
    refine R1.goW rfl hR' (hf r (List.mem_of_getElem? hr')) fun H3 S3 => ?_
    refine ⟨_, S3.keep0 hL, Nat.lt_of_le_of_lt (m := 99000) (by rw [List.length_map, List.length_map]; exact Nat.le_trans (List.length_take_le' _ _) (by omega)) (by decide), (S.trans S3).putN hD, ?_⟩
    rw [upd_same, take_snoc hr', List.map_append, List.map_append]
    rfl
  rintro H1 ⟨S, hL⟩
  rw [hR.len, List.take_length] at hL
  walk_at "rd"
  refine ⟨D, rs.map R1.wid, -1, rfl, rfl, SqL.of hL, fun e => ?_, fun m h1 h2 => ?_⟩
  · have := k H1 S
    rw [e] at this
    exact this
  · rw [maxD_of (fun n hn => by obtain ⟨c, _, rfl⟩ := List.mem_map.mp hn; exact c.wid_low) h1 h2]
    exact k H1 S
def sp_Rule_widest (K : PySem.W.Frag) (A : Ad) : Sp := fun vs H Q _ => ∃ (u : Addr), vs = [.ref u] ∧ Q (.int (-1)) H
theorem ok_Rule_widest {P : Program} {w : World} {K : PySem.W.Frag} {mg : Str → Option Value} {base : Heap} {A : Ad} {f : Addr} {fd : FuncData} (F : Fun K "widest" "Rule.widest" s_Rule_widest f fd) (T : Txt K mg A)  : FnOk P w K mg base CX0 1 f fd ["self"] (sp_Rule_widest K A) := by
  refine F.ok sc_Rule_widest (fun vs H Q E h => by obtain ⟨_, rfl, _⟩ := h; rfl) (fun cdv A' outer s H vs Q E hr h => ?_)
  obtain ⟨u, rfl, k⟩ := h
  refine ⟨_, (pss_one (ps_ret (pe_un un_neg pe_int))), ?_⟩
  walk_at "begin"
  walk_at "rd"
  exact k
theorem RT.goW {K : PySem.W.Frag} {A : Ad} {σ : L2.St} {H : Hp} {Q : VK} {E : XK} {i : Nat} {u : Addr} {rs : List R1} (hi : σ[i]? = some (some (.ref u)))
    (hU : RT.At K A H u rs) (f : ∀ r ∈ rs, r.few) (hn : rs.length ≤ 99000) (q : ∀ H', Stp [] H H' → Q (.int (maxD (rs.map R1.wid))) H') :
    tOrE (tMeth A.Rule "widest" (sp_Rule_widest K A) [] E (tVar i) tNil) (tOrE (tMeth A.ChainRule "widest" (sp_ChainRule_widest K A) [] E (tVar i) tNil) (tOrE (tMeth A.VoteRule "widest" (sp_VoteRule_widest K A) [] E (tVar i) tNil) (tOrE (tMeth A.KeyRule "widest" (sp_KeyRule_widest K A) [] E (tVar i) tNil) (tOrE (tMeth A.NearRule "widest" (sp_NearRule_widest K A) [] E (tVar i) tNil) (tMeth A.RingRule "widest" (sp_RingRule_widest K A) [] E (tVar i) tNil))))) σ H Q := by
  cases hU with
  | @plain d h =>
    refine r_orL ?_
    walk_at "rd"
    refine SH.r_var hi ?_
    walk_at "rd"
    exact ⟨u, rfl, q H (Stp.refl _ _)⟩
  | @part r h =>
    refine r_orR (r_orR (R1.goW hi h (f r (List.mem_singleton.mpr rfl)) ?_))
    rw [show maxD ([r].map R1.wid) = r.wid from by
      show max (-1) r.wid = r.wid
      have := r.wid_low
      omega] at q
    exact q
  | @chain d l uvs rs h hl hR h2 =>
    refine r_orR (r_orL ?_)
    walk_at "rd"
    refine SH.r_var hi ?_
    walk_at "rd"
    exact ⟨u, d, l, uvs, rs, rfl, h, ⟨SqL.of hl, hR, f, hn⟩, q⟩
theorem isl_bls {K : PySem.W.Frag} {H : Hp} {bs : List Bool} : IsL K H (bs.map V.bl) bs := isl_map fun _ _ => is_bl
def sp__law_refused (K : PySem.W.Frag) (A : Ad) : Sp := fun vs H Q _ => ∃ (v : V), vs = [v] ∧ ((∃ x : Str, v = .str x ∧ (okS x ∧ x.length ≤ 100000) ∧ ruleT (tl x) = none) ∨ (∀ H', Stp [] H H' → ∃ t, TyX K H' v t ∧ PySem.W.kitOne K t (.type "str") = some false)) ∧
  ∀ H', Stp [] H H' → Q (.bl true) H'
theorem ok__law_refused {P : Program} {w : World} {K : PySem.W.Frag} {mg : Str → Option Value} {base : Heap} {A : Ad} {f : Addr} {fd : FuncData} (F : Fun K "_law_refused" "_law_refused" s__law_refused f fd) (T : Txt K mg A) (C_read_rule : SH.Cal P w K mg base (L2N.CX P w) 6 "read_rule" [] (sp_read_rule K A)) : FnOk P w K mg base CX0 7 f fd ["_law_text"] (sp__law_refused K A) := by
  refine F.ok sc__law_refused (fun vs H Q E h => by obtain ⟨_, rfl, _⟩ := h; rfl) (fun cdv A' outer s H vs Q E hr h => ?_)
  obtain ⟨v, rfl, hv, k⟩ := h
  refine ⟨_, (pss_cons (ps_set (i := 1) sc__law_refused.nd rfl (Or.inl rfl) (pe_lst pa_nil))
        (pss_cons (L2N.ps_try_as (i := 2) rfl rfl sc__law_refused.nd rfl rfl ⟨rfl, by decide, .inl T.g_HallError⟩ SH.takes0N (fun W pn xe tk po => (pss_one (ps_expr (SH.pe_callX C_read_rule hr (by rfl) (fun σ => L2N.passAt tk σ) (pa_cons (pv 0) pa_nil))))) (fun a oe cls d pn hz hf => (pss_cons (ps_set (i := 1) sc__law_refused.nd rfl (Or.inl rfl) (pe_lst (pa_cons (pe_callB (SH.crK (fun K => SH.rIsY K cls d a) K (SH.call_isY (L2N.Zn.zc hz) hf)) (by rfl) T.z_isinstance (by decide +kernel) (pa_cons (pv 2) (pa_cons (pe_bltn (v := .ty "ValueError") (by rfl) T.z_ValueError (by decide +kernel) rfl) pa_nil))) (pa_cons (pe_callB (SH.crK (fun K => SH.rIsY K cls d a) K (SH.call_isY (L2N.Zn.zc hz) hf)) (by rfl) T.z_isinstance (by decide +kernel) (pa_cons (pv 2) (pa_cons (pe_glob (v := .ref A.NoRule) (by rfl) T.g_NoRule rfl) pa_nil))) (pa_cons (pe_callB (SH.crK (fun K => SH.rIsY K cls d a) K (SH.call_isY (L2N.Zn.zc hz) hf)) (by rfl) T.z_isinstance (by decide +kernel) (pa_cons (pv 2) (pa_cons (pe_glob (v := .ref A.NoRow) (by rfl) T.g_NoRow rfl) pa_nil))) (pa_cons (pe_callB (SH.crK (fun K => SH.rIsY K cls d a) K (SH.call_isY (L2N.Zn.zc hz) hf)) (by rfl) T.z_isinstance (by decide +kernel) (pa_cons (pv 2) (pa_cons (pe_glob (v := .ref A.NoPlace) (by rfl) T.g_NoPlace rfl) pa_nil))) pa_nil))))))
        (pss_cons (ps_set (i := 1) sc__law_refused.nd rfl (Or.inl rfl) (pe_op (SH.opK SH.aAdd K SH.oAdd) (pv 1) (pe_lst (pa_cons (pe_callB (SH.crK (fun K => SH.rIsY K cls d a) K (SH.call_isY (L2N.Zn.zc hz) hf)) (by rfl) T.z_isinstance (by decide +kernel) (pa_cons (pv 2) (pa_cons (pe_glob (v := .ref A.NoKey) (by rfl) T.g_NoKey rfl) pa_nil))) (pa_cons (pe_callB (SH.crK (fun K => SH.rIsY K cls d a) K (SH.call_isY (L2N.Zn.zc hz) hf)) (by rfl) T.z_isinstance (by decide +kernel) (pa_cons (pv 2) (pa_cons (pe_glob (v := .ref A.NoPaper) (by rfl) T.g_NoPaper rfl) pa_nil))) (pa_cons (pe_callB (SH.crK (fun K => SH.rIsY K cls d a) K (SH.call_isY (L2N.Zn.zc hz) hf)) (by rfl) T.z_isinstance (by decide +kernel) (pa_cons (pv 2) (pa_cons (pe_glob (v := .ref A.NoOrder) (by rfl) T.g_NoOrder rfl) pa_nil))) pa_nil))))))
        (pss_one (ps_set (i := 1) sc__law_refused.nd rfl (Or.inl rfl) (pe_op (SH.opK SH.aAdd K SH.oAdd) (pv 1) (pe_lst (pa_cons (pe_callB (SH.crK (fun K => SH.rIsY K cls d a) K (SH.call_isY (L2N.Zn.zc hz) hf)) (by rfl) T.z_isinstance (by decide +kernel) (pa_cons (pv 2) (pa_cons (pe_glob (v := .ref A.TooFar) (by rfl) T.g_TooFar rfl) pa_nil))) (pa_cons (pe_callB (SH.crK (fun K => SH.rIsY K cls d a) K (SH.call_isY (L2N.Zn.zc hz) hf)) (by rfl) T.z_isinstance (by decide +kernel) (pa_cons (pv 2) (pa_cons (pe_glob (v := .ref A.Spent) (by rfl) T.g_Spent rfl) pa_nil))) pa_nil))))))))))
        (pss_one (ps_ret (pe_cmpR (SH.oEq hr.units) (pv 1) (pe_lst (pa_cons pe_bl (pa_cons pe_bl (pa_cons pe_bl (pa_cons pe_bl (pa_cons pe_bl (pa_cons pe_bl (pa_cons pe_bl (pa_cons pe_bl (pa_cons pe_bl pa_nil)))))))))) (nomark _)))))), ?_⟩
  walk_at "begin"
  walk_at "rd"
  intro z hz0
  have S0 := (Stp.refl [] H).new (o := .lst []) hz0
  generalize upd H z (.lst []) = H0 at S0 ⊢
  walk_at "rd"
  refine ⟨v, rfl, ?_⟩
  rcases hv with ⟨x, rfl, hx, hr⟩ | h
  · refine .inl ⟨x, rfl, hx, fun rs u H' e => (by rw [hr] at e; cases e), fun H1 _ S1' => ?_⟩
    have S1 := S0.trans S1'
    refine SH.r_catch T.exm_NoRule_HallError fun e he => ?_
    simp only [List.set_cons_succ, List.set_cons_zero]
    walk_at "rd"
    refine v_isYT nodict T.ec_NoRule T.kits_NoRule_ValueError ?_
    walk_at "rd"
    refine v_isY nodict T.ec_NoRule T.kits_NoRule_NoRule ?_
    walk_at "rd"
    refine v_isY nodict T.ec_NoRule T.kits_NoRule_NoRow ?_
    walk_at "rd"
    refine v_isY nodict T.ec_NoRule T.kits_NoRule_NoPlace ?_
    walk_at "rd"
    intro l1 hl1
    have S2 := S1.new (o := .lst [.bl true, .bl true, .bl false, .bl false]) hl1
    have hl12 := upd_same (H := H1) (a := l1) (o := .lst [.bl true, .bl true, .bl false, .bl false])
    generalize upd H1 l1 (.lst [.bl true, .bl true, .bl false, .bl false]) = H2 at S2 hl12 ⊢
    walk_at "rd"
    refine v_isY nodict T.ec_NoRule T.kits_NoRule_NoKey ?_
    walk_at "rd"
    refine v_isY nodict T.ec_NoRule T.kits_NoRule_NoPaper ?_
    walk_at "rd"
    refine v_isY nodict T.ec_NoRule T.kits_NoRule_NoOrder ?_
    walk_at "rd"
    intro l2 hl2
    refine v_addL (upd_old hl12 hl2) upd_same (by decide) fun l3 hl3 => ?_
    have S3 := (S2.new (o := .lst [.bl false, .bl false, .bl false]) hl2).new (o := .lst ([.bl true, .bl true, .bl false, .bl false] ++ [.bl false, .bl false, .bl false])) hl3
    have hl33 := upd_same (H := upd H2 l2 (.lst [.bl false, .bl false, .bl false])) (a := l3) (o := .lst ([.bl true, .bl true, .bl false, .bl false] ++ [.bl false, .bl false, .bl false]))
    generalize upd (upd H2 l2 (.lst [.bl false, .bl false, .bl false])) l3 (.lst ([.bl true, .bl true, .bl false, .bl false] ++ [.bl false, .bl false, .bl false])) = H3 at S3 hl33 ⊢
    walk_at "rd"
    refine v_isY nodict T.ec_NoRule T.kits_NoRule_TooFar ?_
    walk_at "rd"
    refine v_isY nodict T.ec_NoRule T.kits_NoRule_Spent ?_
    walk_at "rd"
    intro l4 hl4
    refine v_addL (upd_old hl33 hl4) upd_same (by decide) fun l5 hl5 => ?_
    have S4 := (S3.new (o := .lst [.bl false, .bl false]) hl4).new (o := .lst ([.bl true, .bl true, .bl false, .bl false] ++ [.bl false, .bl false, .bl false] ++ [.bl false, .bl false])) hl5
    have hl54 := upd_same (H := upd H3 l4 (.lst [.bl false, .bl false])) (a := l5) (o := .lst ([.bl true, .bl true, .bl false, .bl false] ++ [.bl false, .bl false, .bl false] ++ [.bl false, .bl false]))
    generalize upd (upd H3 l4 (.lst [.bl false, .bl false])) l5 (.lst ([.bl true, .bl true, .bl false, .bl false] ++ [.bl false, .bl false, .bl false] ++ [.bl false, .bl false])) = H4 at S4 hl54 ⊢
    walk_at "rd"
    simp only [List.set_cons_succ, List.set_cons_zero]
    walk_at "rd"
    refine SH.v_lst (by simp) fun l6 hl6 => ?_
    have hb : ∀ H', SH.IsL K H' (List.map V.bl [true, true, false, false, false, false, false, false, false]) [true, true, false, false, false, false, false, false, false] := fun _ => isl_bls
    refine v_eqE (α := List Bool) (x := [true, true, false, false, false, false, false, false, false]) (y := [true, true, false, false, false, false, false, false, false]) (is_lst (SqL.of (upd_old hl54 hl6)) (hb _)) (is_lst (SqL.of upd_same) (hb _)) ?_
    rw [@decide_eq_true _ (Enc.dec _ _) rfl]
    walk_at "rd"
    have S5 := S4.new (o := .lst [.bl true, .bl true, .bl false, .bl false, .bl false, .bl false, .bl false, .bl false, .bl false]) hl6
    exact k _ S5

  · refine .inr ⟨h H0 S0, ?_⟩
    have S1 := S0
    refine SH.r_catch T.exm_NoRule_HallError fun e he => ?_
    simp only [List.set_cons_succ, List.set_cons_zero]
    walk_at "rd"
    refine v_isYT nodict T.ec_NoRule T.kits_NoRule_ValueError ?_
    walk_at "rd"
    refine v_isY nodict T.ec_NoRule T.kits_NoRule_NoRule ?_
    walk_at "rd"
    refine v_isY nodict T.ec_NoRule T.kits_NoRule_NoRow ?_
    walk_at "rd"
    refine v_isY nodict T.ec_NoRule T.kits_NoRule_NoPlace ?_
    walk_at "rd"
    intro l1 hl1
    have S2 := S1.new (o := .lst [.bl true, .bl true, .bl false, .bl false]) hl1
    have hl12 := upd_same (H := H0) (a := l1) (o := .lst [.bl true, .bl true, .bl false, .bl false])
    generalize upd H0 l1 (.lst [.bl true, .bl true, .bl false, .bl false]) = H2 at S2 hl12 ⊢
    walk_at "rd"
    refine v_isY nodict T.ec_NoRule T.kits_NoRule_NoKey ?_
    walk_at "rd"
    refine v_isY nodict T.ec_NoRule T.kits_NoRule_NoPaper ?_
    walk_at "rd"
    refine v_isY nodict T.ec_NoRule T.kits_NoRule_NoOrder ?_
    walk_at "rd"
    intro l2 hl2
    refine v_addL (upd_old hl12 hl2) upd_same (by decide) fun l3 hl3 => ?_
    have S3 := (S2.new (o := .lst [.bl false, .bl false, .bl false]) hl2).new (o := .lst ([.bl true, .bl true, .bl false, .bl false] ++ [.bl false, .bl false, .bl false])) hl3
    have hl33 := upd_same (H := upd H2 l2 (.lst [.bl false, .bl false, .bl false])) (a := l3) (o := .lst ([.bl true, .bl true, .bl false, .bl false] ++ [.bl false, .bl false, .bl false]))
    generalize upd (upd H2 l2 (.lst [.bl false, .bl false, .bl false])) l3 (.lst ([.bl true, .bl true, .bl false, .bl false] ++ [.bl false, .bl false, .bl false])) = H3 at S3 hl33 ⊢
    walk_at "rd"
    refine v_isY nodict T.ec_NoRule T.kits_NoRule_TooFar ?_
    walk_at "rd"
    refine v_isY nodict T.ec_NoRule T.kits_NoRule_Spent ?_
    walk_at "rd"
    intro l4 hl4
    refine v_addL (upd_old hl33 hl4) upd_same (by decide) fun l5 hl5 => ?_
    have S4 := (S3.new (o := .lst [.bl false, .bl false]) hl4).new (o := .lst ([.bl true, .bl true, .bl false, .bl false] ++ [.bl false, .bl false, .bl false] ++ [.bl false, .bl false])) hl5
    have hl54 := upd_same (H := upd H3 l4 (.lst [.bl false, .bl false])) (a := l5) (o := .lst ([.bl true, .bl true, .bl false, .bl false] ++ [.bl false, .bl false, .bl false] ++ [.bl false, .bl false]))
    generalize upd (upd H3 l4 (.lst [.bl false, .bl false])) l5 (.lst ([.bl true, .bl true, .bl false, .bl false] ++ [.bl false, .bl false, .bl false] ++ [.bl false, .bl false])) = H4 at S4 hl54 ⊢
    walk_at "rd"
    simp only [List.set_cons_succ, List.set_cons_zero]
    walk_at "rd"
    refine SH.v_lst (by simp) fun l6 hl6 => ?_
    have hb : ∀ H', SH.IsL K H' (List.map V.bl [true, true, false, false, false, false, false, false, false]) [true, true, false, false, false, false, false, false, false] := fun _ => isl_bls
    refine v_eqE (α := List Bool) (x := [true, true, false, false, false, false, false, false, false]) (y := [true, true, false, false, false, false, false, false, false]) (is_lst (SqL.of (upd_old hl54 hl6)) (hb _)) (is_lst (SqL.of upd_same) (hb _)) ?_
    rw [@decide_eq_true _ (Enc.dec _ _) rfl]
    walk_at "rd"
    have S5 := S4.new (o := .lst [.bl true, .bl true, .bl false, .bl false, .bl false, .bl false, .bl false, .bl false, .bl false]) hl6
    exact k _ S5
def keyV : Option Nat → V
  | none => .non
  | some k => .int k
theorem key1_find : ∀ c ∈ menu, 48 ≤ c ∧ c ≤ 55 → Txt.find (Str.ofString "01234567") ⟨#[c]⟩ = ((c - 48 : Nat) : Int) := by decide +kernel
def sp__law_key (K : PySem.W.Frag) (A : Ad) : Sp := fun vs H Q _ => ∃ (x : Str), vs = [.str x] ∧ (okS x ∧ x.length ≤ 100000) ∧ Q (keyV (keyS (tl x))) H
theorem ok__law_key {P : Program} {w : World} {K : PySem.W.Frag} {mg : Str → Option Value} {base : Heap} {A : Ad} {f : Addr} {fd : FuncData} (F : Fun K "_law_key" "_law_key" s__law_key f fd) (T : Txt K mg A)  : FnOk P w K mg base CX0 1 f fd ["_law_word"] (sp__law_key K A) := by
  refine F.ok sc__law_key (fun vs H Q E h => by obtain ⟨_, rfl, _⟩ := h; rfl) (fun cdv A' outer s H vs Q E hr h => ?_)
  obtain ⟨x, rfl, ⟨hx, hl⟩, k⟩ := h
  refine ⟨_, (pss_cons (ps_if (PW.pt (pw_and (pt_cmpR (SH.oEq hr.units) (pe_callB SH.cLen (by rfl) T.z_len (by decide +kernel) (pa_cons (pv 0) pa_nil)) pe_int (nomark _)) (pw_and1 (pt_cmpR op_in_str (pv 0) pe_str (by rfl))))) (pss_one (ps_ret (pe_bm PySem.F.plainAttrs_str PySem.F.slot_str_find PySem.F.type_str_find mt_find pe_str (pa_cons (pv 0) pa_nil)))) pss_nil)
        (pss_one (ps_ret pe_non))), ?_⟩
  walk_at "begin"
  walk_at "rd"
  refine ⟨Nat.le_trans hl (by decide), ?_⟩
  walk_at "rd"
  by_cases h1 : (tl x).length = 1
  · obtain ⟨c, hc⟩ := List.length_eq_one_iff.mp h1
    have hcm : c ∈ menu := hx c (by rw [hc]; exact List.mem_singleton.mpr rfl)
    have e := one_tl hc
    subst e
    rw [hc, keyS_one] at k
    rw [if_pos (decide_eq_true (show (((⟨#[c]⟩ : Str).length : Nat) : Int) = 1 from rfl))]
    walk_at "rd"
    refine ⟨_, _, rfl, rfl, ?_⟩
    rw [key1_is c hcm]
    by_cases h8 : 48 ≤ c ∧ c ≤ 55
    · rw [if_pos h8] at k
      rw [decide_eq_true h8, show (!(!true)) = true from rfl]
      walk_at "rd"
      refine ⟨ty_str, ?_⟩
      walk_at "rd"
      refine ⟨_, _, rfl, rfl, ?_⟩
      rw [key1_find c hcm h8]
      exact k
    · rw [if_neg h8] at k
      rw [decide_eq_false h8, show (!(!false)) = false from rfl]
      walk_at "rd"
      exact k
  · rw [if_neg (fun h => h1 (by have h := of_decide_eq_true h; rw [len_tl] at h; omega))]
    rw [show keyS (tl x) = none from by
      unfold keyS
      split
      · rename_i c hc
        rw [hc] at h1
        exact absurd rfl h1
      · rfl] at k
    walk_at "rd"
    exact k
def sp__law_whole (K : PySem.W.Frag) (A : Ad) : Sp := fun vs H Q _ => ∃ (c : Int), vs = [.int c] ∧ Q (.bl true) H
theorem ok__law_whole {P : Program} {w : World} {K : PySem.W.Frag} {mg : Str → Option Value} {base : Heap} {A : Ad} {f : Addr} {fd : FuncData} (F : Fun K "_law_whole" "_law_whole" s__law_whole f fd) (T : Txt K mg A)  : FnOk P w K mg base CX0 1 f fd ["_law_found"] (sp__law_whole K A) := by
  refine F.ok sc__law_whole (fun vs H Q E h => by obtain ⟨_, rfl, _⟩ := h; rfl) (fun cdv A' outer s H vs Q E hr h => ?_)
  obtain ⟨c, rfl, k⟩ := h
  refine ⟨_, (pss_one (ps_ret (pe_and (pe_callB call_isi (by rfl) T.z_isinstance (by decide +kernel) (pa_cons (pv 0) (pa_cons (pe_bltn (v := .ty "int") (by rfl) T.z_int (by decide +kernel) rfl) pa_nil))) (pe_one (pe_not (pe_callB call_isi (by rfl) T.z_isinstance (by decide +kernel) (pa_cons (pv 0) (pa_cons (pe_bltn (v := .ty "bool") (by rfl) T.z_bool (by decide +kernel) rfl) pa_nil)))))))), ?_⟩
  walk_at "begin"
  walk_at "rd"
  exact k
def sp__law_number (K : PySem.W.Frag) (A : Ad) : Sp := fun vs H Q _ => ∃ (x : Str), vs = [.str x] ∧ okS x ∧ x.length ≤ 100000 ∧ Q (numV (numS (tl x))) H
theorem ok__law_number {P : Program} {w : World} {K : PySem.W.Frag} {mg : Str → Option Value} {base : Heap} {A : Ad} {f : Addr} {fd : FuncData} (F : Fun K "_law_number" "_law_number" s__law_number f fd) (T : Txt K mg A)  : FnOk P w K mg base CX0 1 f fd ["_law_word"] (sp__law_number K A) := by
  refine F.ok sc__law_number (fun vs H Q E h => by obtain ⟨_, rfl, _⟩ := h; rfl) (fun cdv A' outer s H vs Q E hr h => ?_)
  obtain ⟨x, rfl, hx, hl, k⟩ := h
  refine ⟨_, (pss_cons (ps_set (i := 1) sc__law_number.nd rfl (Or.inl rfl) (pv 0))
        (pss_cons (ps_if (pt_cmpR (SH.oEq hr.units) (pe_slice sl_str (pv 0) po_none (po_some pe_int)) pe_str (nomark _)) (pss_one (ps_set (i := 1) sc__law_number.nd rfl (Or.inl rfl) (pe_slice sl_str (pv 0) (po_some pe_int) po_none))) pss_nil)
        (pss_cons (ps_if (PW.pt (pw_or (pt_cmpR (SH.oEq hr.units) (pv 1) pe_str (nomark _)) (pw_or (pt_cmpR SH.oGt (pe_callB SH.cLen (by rfl) T.z_len (by decide +kernel) (pa_cons (pv 1) pa_nil)) pe_int (nomark _)) (pw_or1 (PW.pt (pw_and (pt_cmpR (SH.oEq hr.units) (pe_ix SH.ixA (pv 1) pe_int (fun _ _ => rfl)) pe_str (nomark _)) (pw_and1 (pt_cmpR (SH.oNe hr.units) (pv 0) pe_str (nomark _))))))))) (pss_one (ps_ret pe_non)) pss_nil)
        (pss_cons (ps_set (i := 2) sc__law_number.nd rfl (Or.inl rfl) pe_int)
        (pss_cons (ps_for PassesOwn.never rfl (pi_str (pv 1)) (pg_name (i := 3) sc__law_number.nd rfl (Or.inl rfl)) (pss_cons (ps_if (pt_cmpR op_notin_str (pv 3) pe_str (by rfl)) (pss_one (ps_ret pe_non)) pss_nil)
        (pss_one (ps_set (i := 2) sc__law_number.nd rfl (Or.inl rfl) (pe_op SH.oAdd (pe_op SH.oMul pe_int (pv 2)) (pe_bm PySem.F.plainAttrs_str PySem.F.slot_str_find PySem.F.type_str_find mt_find pe_str (pa_cons (pv 3) pa_nil)))))))
        (pss_cons (ps_if (pt_cmpR (SH.oNe hr.units) (pv 1) (pv 0) (nomark _)) (pss_one (ps_ret (pe_op SH.oSub pe_int (pv 2)))) pss_nil)
        (pss_one (ps_ret (pv 2))))))))), ?_⟩
  walk_at "begin"
  walk_at "ri"
  refine r_J (fun σ H' => H' = H ∧ σ = [some (.str x), some (.str (figT x)), none, none]) ?_ fun N hN => ?_
  rotate_left
  · walk_at "rd"
    refine ⟨_, rfl, Nat.le_trans hl (by decide), ?_⟩
    walk_at "rd"
    refine v_eqS ?_
    rw [show decide (cutS x none (some 1) = Str.ofString "-") = decide ((tl x).head? = some 45) from by
      rw [decide_eq_decide, str_eq, tl_cut01, tl_min]
      cases tl x with
      | nil => simp
      | cons c r => simp]
    walk_at "rd"
    refine r_w (fun hc => ?_) fun hc => ?_
    · walk_at "rd"
      refine ⟨_, rfl, Nat.le_trans hl (by decide), ?_⟩
      walk_at "rd"
      exact hN _ _ ⟨rfl, by unfold figT; rw [if_pos hc]⟩
    · walk_at "rd"
      exact hN _ _ ⟨rfl, by unfold figT; rw [if_neg hc]⟩
  rintro σ H1 ⟨rfl, rfl⟩
  have hf := tl_figT x
  have hof := okS_figT hx
  have hfl : (figT x).length = (figs (tl x)).length := by rw [len_tl, hf]
  unfold numS at k
  dsimp only
  walk_at "ri"
  refine r_J (fun σ H' => H' = H1 ∧ (figs (tl x) ≠ [] ∧ (figs (tl x)).length ≤ 60 ∧ ¬ ((figs (tl x)).head? = some 48 ∧ tl x ≠ [48])) ∧ σ = [some (.str x), some (.str (figT x)), none, none]) ?_ fun N hN => ?_
  rotate_left
  · walk_at "rd"
    refine v_eqS ?_
    by_cases he : figs (tl x) = []
    · rw [if_pos (.inl he)] at k
      rw [decide_eq_true (str_eq.mpr (by rw [hf, he]; decide +kernel))]
      walk_at "rd"
      exact k
    rw [decide_eq_false (fun z => he (by rw [← hf, z]; decide +kernel))]
    walk_at "rd"
    refine ⟨Nat.le_trans (Nat.le_trans (figT_len x) hl) (by decide), ?_⟩
    walk_at "rd"
    refine r_w (fun hc => ?_) fun hc => ?_
    · rw [if_pos (.inr (.inl (by omega)))] at k
      walk_at "rd"
      exact k
    have h60 : (figs (tl x)).length ≤ 60 := by omega
    obtain ⟨c0, r0, hcr⟩ := List.exists_cons_of_ne_nil he
    walk_at "rd"
    refine ⟨c0, Nat.le_trans (Nat.le_trans (figT_len x) hl) (by decide), atI_zero (by show (tl (figT x)).head? = _; rw [hf, hcr]; rfl), ?_⟩
    walk_at "rd"
    refine v_eqS ?_
    rw [show decide ((⟨#[c0]⟩ : Str) = Str.ofString "0") = decide ((figs (tl x)).head? = some 48) from by
      rw [decide_eq_decide, str_eq, tl_zero, hcr]
      show [c0] = [48] ↔ _
      simp]
    walk_at "rd"
    refine r_w (fun hc => ?_) fun hc => ?_
    · walk_at "rd"
      refine v_neS ?_
      by_cases hz : x = Str.ofString "0"
      · rw [decide_eq_true hz]
        have hz' : tl x = [48] := by rw [hz, tl_zero]
        walk_at "rd"
        exact hN _ _ ⟨rfl, ⟨he, h60, fun z => z.2 hz'⟩, rfl⟩
      · rw [decide_eq_false hz]
        walk_at "rd"
        rw [if_pos (.inr (.inr (.inl ⟨hc, fun z => hz (ext_tl (by rw [z, tl_zero]))⟩)))] at k
        exact k
    · walk_at "rd"
      exact hN _ _ ⟨rfl, ⟨he, h60, fun z => hc z.1⟩, rfl⟩
  rintro σ H2 ⟨rfl, ⟨he, h60, h3⟩, rfl⟩
  dsimp only
  walk_at "rd"
  refine r_iStr ?_
  walk_at "rd"
  refine ⟨_, rfl, ?_⟩
  refine for_it walk_text (fun j σ H' => H' = H2 ∧ ((figs (tl x)).take j).all dig = true ∧ ∃ v3, σ = [some (.str x), some (.str (figT x)), some (.int (hval ((figs (tl x)).take j))), v3]) ⟨rfl, rfl, _, rfl⟩ (fun _ _ _ _ _ => True.intro) ?_ ?_
  · rintro j v σ H3 H4 hj ⟨rfl, hdj, v3, rfl⟩ ⟨rfl, hv⟩
    obtain ⟨c, hc, rfl⟩ := map_at hv
    rw [hf] at hc
    have hcm : c ∈ menu := hof c (by rw [hf]; exact List.mem_of_getElem? hc)
    obtain ⟨f1, f2⟩ := sign_facts c hcm
    have hst : (figs (tl x)).take (j + 1) = (figs (tl x)).take j ++ [c] := by rw [List.take_succ, hc]; rfl
    walk_at "rd"
    refine ⟨_, _, rfl, rfl, ?_⟩
    rw [f1]
    cases hd : dig c with
    | false =>
      walk_at "rd"
      have hall : (figs (tl x)).all dig = false := by
        rw [Bool.eq_false_iff]
        intro z
        have := List.all_eq_true.mp z c (List.mem_of_getElem? hc)
        rw [hd] at this; cases this
      rw [if_pos (.inr (.inr (.inr hall)))] at k
      exact k
    | true =>
      walk_at "rd"
      refine ⟨ty_str, ?_⟩
      walk_at "rd"
      refine ⟨_, _, rfl, rfl, ?_⟩
      rw [f2 hd]
      walk_at "rd"
      rw [hst, hval_snoc hd]
      refine ⟨rfl, by rw [List.all_append, hdj]; simp [hd], _, rfl⟩
  · rintro σ H3 ⟨rfl, hdj, v3, rfl⟩
    have hlen : (figs (tl x)).take (figT x).length = figs (tl x) := by rw [hfl]; exact List.take_length
    rw [hlen] at hdj ⊢
    rw [if_neg (fun z => by
      rcases z with z | z | z | z
      · exact he z
      · omega
      · exact h3 z
      · rw [hdj] at z; cases z)] at k
    walk_at "rd"
    refine v_neS ?_
    have hne : figT x = x ↔ (tl x).head? ≠ some 45 := by
      unfold figT
      split
      · rename_i h45
        refine ⟨fun z => ?_, fun z => (z h45).elim⟩
        have := congrArg (fun y => (tl y).length) z
        simp only [tl_cut1] at this
        cases htl : tl x with
        | nil => rw [htl] at h45; cases h45
        | cons c r => rw [htl] at this; simp at this
      · rename_i h45
        exact ⟨fun _ => h45, fun _ => rfl⟩
    by_cases h45 : (tl x).head? = some 45
    · rw [decide_eq_false (fun z => hne.mp z h45)]
      rw [if_pos h45] at k
      walk_at "rd"
      rw [show (0 : Int) - hval (figs (tl x)) = -((NumText.digitsVal (figs (tl x)) : Nat) : Int) from by unfold hval; omega]
      exact k
    · rw [decide_eq_true (hne.mpr h45)]
      rw [if_neg h45] at k
      walk_at "rd"
      exact k
/-! ### the law's own cutting -/
theorem spl32 : ∀ (l acc : List Nat), TL.spl [32] 0 acc l = if 32 ∈ l then (acc ++ fst32 l) :: TL.spl [32] 0 [] (rst32 l) else [acc ++ l]
  | [], acc => by rw [spl_nil]; simp
  | c :: r, acc => by
    by_cases h : c = 32
    · subst h
      rw [spl_hit (by rw [pre1]; rfl)]
      simp [fst32, rst32]
    · have h' : (32 : Nat) ≠ c := fun e => h e.symm
      rw [spl_miss (by rw [pre1]; simp [h]), spl32 r]
      simp [fst32, rst32, h, h', List.takeWhile_cons, List.dropWhile_cons]
/-- the key of a plain part, by its words -/
def pkW : List (List Nat) → Option Nat
  | [a, b] => if a = lUp ∨ a = lDown then keyS b else none
  | [a, b, c] => if a = lNear ∨ a = lRing then (numS c).bind fun n => if n < (if a = lRing then 1 else 0) then none else keyS b else none
  | _ => none
theorem keyS_blank {l : List Nat} (h : 32 ∈ l) : keyS l = none := by
  unfold keyS
  split
  · rename_i c
    rw [List.mem_singleton] at h
    subst h
    rfl
  · rfl
theorem numS_blank {l : List Nat} (h : 32 ∈ l) : numS l = none := by
  unfold numS
  have hf : 32 ∈ figs l := by
    unfold figs
    split
    · rename_i h45
      cases l with
      | nil => cases h
      | cons c r =>
        cases h45
        rcases List.mem_cons.mp h with e | e
        · cases e
        · exact e
    · exact h
  rw [if_pos (.inr (.inr (.inr (by
    rw [Bool.eq_false_iff]
    intro z
    have := List.all_eq_true.mp z 32 hf
    cases this))))]
/-- what a plain part's first word and the rest tell -/
def pkG (a r : List Nat) : Option Nat := if a = lUp ∨ a = lDown then keyS r else (numS (rst32 r)).bind fun n => if a = lNear ∨ a = lRing then (if n < (if a = lRing then 1 else 0) then none else keyS (fst32 r)) else none
theorem plainS_wid (l : List Nat) : (plainS l).map R0.wid = (pkG (fst32 l) (rst32 l)).map fun k => (k : Int) := by
  have hkw : ∀ (o : Option Nat) (b : Bool), (o.map fun k => R0.key [(k, b)]).map R0.wid = o.map fun k => (k : Int) := fun o b => by
    cases o with
    | none => rfl
    | some k =>
      show some (max (-1) (k : Int)) = some (k : Int)
      rw [show max (-1) (k : Int) = k by omega]
  unfold plainS pkG
  generalize fst32 l = a
  generalize rst32 l = r
  by_cases hu : a = lUp
  · rw [if_pos hu, if_pos (.inl hu), hkw]
  rw [if_neg hu]
  by_cases hd : a = lDown
  · rw [if_pos hd, if_pos (.inr hd), hkw]
  rw [if_neg hd, if_neg (fun z => z.elim hu hd)]
  cases numS (rst32 r) with
  | none => rfl
  | some n =>
    dsimp only
    rw [Option.bind_some]
    by_cases hn : a = lNear
    · rw [if_pos hn, if_pos (.inl hn), if_neg (show ¬ a = lRing from fun z => by rw [hn] at z; revert z; decide)]
      cases keyS (fst32 r) with
      | none => by_cases h : n < 0 <;> simp [h]
      | some k =>
        by_cases h : n < 0
        · rw [if_pos h, Option.bind_some, if_neg (by omega)]; rfl
        · rw [if_neg h, Option.bind_some, if_pos (by omega)]; rfl
    rw [if_neg hn]
    by_cases hr : a = lRing
    · rw [if_pos hr, if_pos (.inr hr), if_pos hr]
      cases keyS (fst32 r) with
      | none => by_cases h : n < 1 <;> simp [h]
      | some k =>
        by_cases h : n < 1
        · rw [if_pos h, Option.bind_some, if_neg (by omega)]; rfl
        · rw [if_neg h, Option.bind_some, if_pos (by omega)]; rfl
    · rw [if_neg hr, if_neg (fun z => z.elim hn hr)]; rfl
theorem pk_is (l : List Nat) : (plainS l).map R0.wid = (pkW (TL.spl [32] 0 [] l)).map fun k => (k : Int) := by
  have kn : keyS [] = none := rfl
  have nn : numS [] = none := by decide +kernel
  have rn : rst32 [] = [] := rfl
  rw [plainS_wid]
  suffices key : pkG (fst32 l) (rst32 l) = pkW (TL.spl [32] 0 [] l) by rw [key]
  rw [spl32]
  by_cases h1 : 32 ∈ l
  · rw [if_pos h1, List.nil_append, spl32]
    generalize fst32 l = a
    generalize rst32 l = r
    by_cases h2 : 32 ∈ r
    · rw [if_pos h2, List.nil_append, spl32]
      have kr := keyS_blank h2
      by_cases h3 : 32 ∈ rst32 r
      · rw [if_pos h3, List.nil_append]
        obtain ⟨d, ds, hd⟩ := List.exists_cons_of_ne_nil (spl_ne [32] (rst32 (rst32 r)) 0 [])
        rw [hd]
        unfold pkG
        rw [kr, numS_blank h3]
        simp [pkW]
      · rw [if_neg h3, List.nil_append]
        unfold pkG
        rw [kr]
        show _ = if a = lNear ∨ a = lRing then (numS (rst32 r)).bind fun n => if n < (if a = lRing then 1 else 0) then none else keyS (fst32 r) else none
        by_cases hud : a = lUp ∨ a = lDown
        · rw [if_pos hud, if_neg (fun z => by rcases hud with rfl | rfl <;> rcases z with z | z <;> revert z <;> decide)]
        · rw [if_neg hud]
          by_cases hnr : a = lNear ∨ a = lRing
          · simp only [if_pos hnr]
          · simp only [if_neg hnr]
            cases numS (rst32 r) <;> rfl
    · rw [if_neg h2, List.nil_append]
      obtain ⟨e1, e2⟩ := fst32_no h2
      unfold pkG
      rw [e2, nn]
      rfl
  · rw [if_neg h1]
    obtain ⟨e1, e2⟩ := fst32_no h1
    unfold pkG
    rw [e2, rn, nn, kn]
    simp [pkW]
def sp__law_plain_key (K : PySem.W.Frag) (A : Ad) : Sp := fun vs H Q _ => ∃ (x : Str), vs = [.str x] ∧ (okS x ∧ x.length ≤ 100000) ∧ ∀ H', Stp [] H H' → Q (keyV (pkW (TL.spl [32] 0 [] (tl x)))) H'
theorem ok__law_plain_key {P : Program} {w : World} {K : PySem.W.Frag} {mg : Str → Option Value} {base : Heap} {A : Ad} {f : Addr} {fd : FuncData} (F : Fun K "_law_plain_key" "_law_plain_key" s__law_plain_key f fd) (T : Txt K mg A) (C__law_key : SH.Cal P w K mg base CX0 1 "_law_key" [] (sp__law_key K A)) (C__law_number : SH.Cal P w K mg base CX0 1 "_law_number" [] (sp__law_number K A)) : FnOk P w K mg base CX0 2 f fd ["_law_text"] (sp__law_plain_key K A) := by
  refine F.ok sc__law_plain_key (fun vs H Q E h => by obtain ⟨_, rfl, _⟩ := h; rfl) (fun cdv A' outer s H vs Q E hr h => ?_)
  obtain ⟨x, rfl, ⟨hx, hl⟩, k⟩ := h
  refine ⟨_, (pss_cons (ps_set (i := 1) sc__law_plain_key.nd rfl (Or.inl rfl) (pe_bm PySem.F.plainAttrs_str PySem.F.slot_str_split PySem.F.type_str_split mt_split (pv 0) (pa_cons pe_str pa_nil)))
        (pss_cons (ps_if (PW.pt (pw_and (pt_cmpR (SH.oEq hr.units) (pe_callB SH.cLen (by rfl) T.z_len (by decide +kernel) (pa_cons (pv 1) pa_nil)) pe_int (nomark _)) (pw_and1 (PW.pt (pw_or (pt_cmpR (SH.oEq hr.units) (pe_ix SH.ixA (pv 1) pe_int (fun _ _ => rfl)) pe_str (nomark _)) (pw_or1 (pt_cmpR (SH.oEq hr.units) (pe_ix SH.ixA (pv 1) pe_int (fun _ _ => rfl)) pe_str (nomark _)))))))) (pss_one (ps_ret (SH.pe_callF C__law_key hr (by rfl) pass0 (pa_cons (pe_ix SH.ixA (pv 1) pe_int (fun _ _ => rfl)) pa_nil)))) pss_nil)
        (pss_cons (ps_if (PW.pt (pw_or (pt_cmpR (SH.oNe hr.units) (pe_callB SH.cLen (by rfl) T.z_len (by decide +kernel) (pa_cons (pv 1) pa_nil)) pe_int (nomark _)) (pw_or1 (PW.pt (pw_and (pt_cmpR (SH.oNe hr.units) (pe_ix SH.ixA (pv 1) pe_int (fun _ _ => rfl)) pe_str (nomark _)) (pw_and1 (pt_cmpR (SH.oNe hr.units) (pe_ix SH.ixA (pv 1) pe_int (fun _ _ => rfl)) pe_str (nomark _)))))))) (pss_one (ps_ret pe_non)) pss_nil)
        (pss_cons (ps_set (i := 2) sc__law_plain_key.nd rfl (Or.inl rfl) (SH.pe_callF C__law_number hr (by rfl) pass0 (pa_cons (pe_ix SH.ixA (pv 1) pe_int (fun _ _ => rfl)) pa_nil)))
        (pss_cons (ps_if (PW.pt (pw_or (pt_cmpR SH.oIsN (pv 2) pe_non (nomark _)) (pw_or1 (pt_cmpR (SH.oLt hr.units0) (pv 2) (pe_callTy SH.cInt1 (by rfl) T.z_int (by decide +kernel) (pa_cons (pe_cmpR (SH.oEq hr.units) (pe_ix SH.ixA (pv 1) pe_int (fun _ _ => rfl)) pe_str (nomark _)) pa_nil)) (nomark _))))) (pss_one (ps_ret pe_non)) pss_nil)
        (pss_one (ps_ret (SH.pe_callF C__law_key hr (by rfl) pass0 (pa_cons (pe_ix SH.ixA (pv 1) pe_int (fun _ _ => rfl)) pa_nil))))))))), ?_⟩
  walk_at "begin"
  obtain ⟨p1, p2⟩ := split_ok (y := sBl) (by rw [tl_bl]; simp) (by decide +kernel) hx
  have hsp : (Txt.split x sBl).map tl = TL.spl [32] 0 [] (tl x) := by
    have := split_spl x sBl (by rw [tl_bl]; simp) (kind_ok (by decide +kernel))
    rw [tl_bl] at this
    exact this
  rw [← hsp] at k
  walk_at "rd"
  refine ⟨ty_str, ?_⟩
  walk_at "rd"
  refine ⟨_, _, rfl, rfl, by decide +kernel, Nat.le_trans (m := 200000) (by omega) (by decide), ?_⟩
  generalize hps : Txt.split x (Str.ofString " ") = ps at *
  intro w' hw'
  have S0 := (Stp.refl [] H).new (o := .lst (ps.map V.str)) hw'
  have hw0 := upd_same (H := H) (a := w') (o := .lst (ps.map V.str))
  generalize upd H w' (.lst (ps.map V.str)) = H0 at S0 hw0 ⊢
  walk_at "ri"
  refine r_J (fun σ H' => H' = H0 ∧ (∀ a b, ps = [a, b] → ¬ (tl a = lUp ∨ tl a = lDown)) ∧ σ = [some (.str x), some (.ref w'), none]) ?_ fun N hN => ?_
  rotate_left
  · walk_at "rd"
    refine r_w (fun hc => ?_) fun hc => ?_
    · have h2 : ps.length = 2 := by omega
      obtain ⟨a, b, rfl⟩ : ∃ a b, ps = [a, b] := by
        match ps, h2 with
        | [a, b], _ => exact ⟨a, b, rfl⟩
      obtain ⟨hb1, hb2⟩ := p1 b (by simp)
      have hkey : tl a = lUp ∨ tl a = lDown → Q (keyV (keyS (tl b))) H0 := fun z => by
        have := k H0 S0
        rw [show pkW (List.map tl [a, b]) = keyS (tl b) from if_pos z] at this
        exact this
      walk_at "rd"
      refine v_ixLn (n := 0) (SqL.of hw0) rfl rfl ?_
      walk_at "rd"
      refine v_eqS ?_
      rw [deq rfl tl_up]
      by_cases hu : tl a = lUp
      · rw [decide_eq_true hu]
        walk_at "rd"
        refine v_ixLn (n := 1) (SqL.of hw0) rfl rfl ?_
        walk_at "rd"
        exact ⟨b, rfl, ⟨hb1, by omega⟩, hkey (.inl hu)⟩
      rw [decide_eq_false hu]
      walk_at "rd"
      refine v_ixLn (n := 0) (SqL.of hw0) rfl rfl ?_
      walk_at "rd"
      refine v_eqS ?_
      rw [deq rfl tl_down]
      by_cases hd : tl a = lDown
      · rw [decide_eq_true hd]
        walk_at "rd"
        refine v_ixLn (n := 1) (SqL.of hw0) rfl rfl ?_
        walk_at "rd"
        exact ⟨b, rfl, ⟨hb1, by omega⟩, hkey (.inr hd)⟩
      rw [decide_eq_false hd]
      walk_at "rd"
      exact hN _ _ ⟨rfl, fun a' b' e => by cases e; exact fun z => z.elim hu hd, rfl⟩
    · walk_at "rd"
      exact hN _ _ ⟨rfl, fun a' b' e => absurd (by rw [e]; rfl) hc, rfl⟩
  rintro σ H1 ⟨rfl, hud, rfl⟩
  dsimp only
  have knone : pkW (ps.map tl) = none → Q .non H1 := fun e => by
    have := k H1 S0
    rw [e] at this
    exact this
  walk_at "ri"
  refine r_J (fun σ H' => H' = H1 ∧ (∃ a b c, ps = [a, b, c] ∧ (tl a = lNear ∨ tl a = lRing)) ∧ σ = [some (.str x), some (.ref w'), none]) ?_ fun N hN => ?_
  rotate_left
  · walk_at "rd"
    refine r_nw (fun hc => ?_) fun hc => ?_
    · walk_at "rd"
      exact knone (by
        match ps, hud with
        | [], _ => rfl
        | [a], _ => rfl
        | [a, b], hud => exact if_neg (hud a b rfl)
        | [a, b, c], _ => exact absurd rfl hc
        | a :: b :: c :: d :: r, _ => rfl)
    obtain ⟨a, b, c, rfl⟩ : ∃ a b c, ps = [a, b, c] := by
      have h3 : ps.length = 3 := by omega
      match ps, h3 with
      | [a, b, c], _ => exact ⟨a, b, c, rfl⟩
    walk_at "rd"
    refine v_ixLn (n := 0) (SqL.of hw0) rfl rfl ?_
    walk_at "rd"
    refine v_neS ?_
    rw [deq rfl tl_near]
    by_cases hn : tl a = lNear
    · rw [decide_eq_true hn]
      walk_at "rd"
      exact hN _ _ ⟨rfl, ⟨a, b, c, rfl, .inl hn⟩, rfl⟩
    rw [decide_eq_false hn]
    walk_at "rd"
    refine v_ixLn (n := 0) (SqL.of hw0) rfl rfl ?_
    walk_at "rd"
    refine v_neS ?_
    rw [deq rfl tl_ring]
    by_cases hr : tl a = lRing
    · rw [decide_eq_true hr]
      walk_at "rd"
      exact hN _ _ ⟨rfl, ⟨a, b, c, rfl, .inr hr⟩, rfl⟩
    rw [decide_eq_false hr]
    walk_at "rd"
    exact knone (if_neg fun z => z.elim hn hr)
  rintro σ H2 ⟨rfl, ⟨a, b, c, rfl, hnr⟩, rfl⟩
  dsimp only
  obtain ⟨hb1, hb2⟩ := p1 b (by simp)
  obtain ⟨hc1, hc2⟩ := p1 c (by simp)
  have epk : pkW (List.map tl [a, b, c]) = (numS (tl c)).bind fun n => if n < (if tl a = lRing then 1 else 0) then none else keyS (tl b) := if_pos hnr
  rw [epk] at k knone
  walk_at "rd"
  refine v_ixLn (n := 2) (SqL.of hw0) rfl rfl ?_
  walk_at "rd"
  refine ⟨c, rfl, hc1, by omega, ?_⟩
  walk_at "ri"
  refine r_J (fun σ H' => H' = H2 ∧ (∃ n, numS (tl c) = some n ∧ ¬ n < (if tl a = lRing then 1 else 0)) ∧ ∃ v2, σ = [some (.str x), some (.ref w'), v2]) ?_ fun N hN => ?_
  rotate_left
  · cases hn : numS (tl c) with
    | none =>
      rw [hn] at knone
      walk_at "rd"
      rw [if_pos (by rfl)]
      walk_at "rd"
      exact knone rfl
    | some n =>
      rw [hn] at knone
      walk_at "rd"
      rw [if_neg (by simp [numV])]
      walk_at "rd"
      refine v_ixLn (n := 0) (SqL.of hw0) rfl rfl ?_
      walk_at "rd"
      refine v_eqS ?_
      rw [deq rfl tl_ring]
      by_cases hr : tl a = lRing
      · simp only [if_pos hr, Option.bind_some] at knone
        rw [decide_eq_true hr]
        walk_at "rd"
        show aLt K (V.int n) (V.int 1) _ _
        walk_at "rd"
        refine r_w (fun hc => ?_) fun hc => ?_
        · walk_at "rd"
          exact knone (if_pos hc)
        · walk_at "rd"
          exact hN _ _ ⟨rfl, ⟨n, hn, by rw [if_pos hr]; exact hc⟩, _, rfl⟩
      · simp only [if_neg hr, Option.bind_some] at knone
        rw [decide_eq_false hr]
        walk_at "rd"
        show aLt K (V.int n) (V.int 0) _ _
        walk_at "rd"
        refine r_w (fun hc => ?_) fun hc => ?_
        · walk_at "rd"
          exact knone (if_pos hc)
        · walk_at "rd"
          exact hN _ _ ⟨rfl, ⟨n, hn, by rw [if_neg hr]; exact hc⟩, _, rfl⟩
  rintro σ H3 ⟨rfl, ⟨n, hn, hnn⟩, v2, rfl⟩
  dsimp only
  walk_at "rd"
  refine v_ixLn (n := 1) (SqL.of hw0) rfl rfl ?_
  walk_at "rd"
  refine ⟨b, rfl, ⟨hb1, by omega⟩, ?_⟩
  have := k H3 S0
  rw [hn, Option.bind_some, if_neg hnn] at this
  exact this
/-! ### the greatest key, as the law reads it -/
theorem maxD_app (a b : List Int) : maxD (a ++ b) = max (maxD a) (maxD b) := by
  have h : ∀ (ns : List Int) (x : Int), ns.foldl max x = max x (ns.foldl max (-1)) ∨ x < -1 := by
    intro ns
    induction ns with
    | nil =>
      intro x
      by_cases h : x < -1
      · exact .inr h
      · left; show x = max x (-1); omega
    | cons n r ih =>
      intro x
      by_cases h : x < -1
      · exact .inr h
      · left
        rw [List.foldl_cons, List.foldl_cons]
        rcases ih (max x n) with e | e
        · rcases ih (max (-1) n) with e' | e'
          · rw [e, e']; omega
          · omega
        · omega
  unfold maxD
  rw [List.foldl_append]
  rcases h b (a.foldl max (-1)) with e | e
  · exact e
  · have := maxD_low a
    unfold maxD at this
    omega
theorem maxD_one {n : Int} (h : -1 ≤ n) : maxD [n] = n := by
  show max (-1) n = n
  omega
theorem allS_cons {β : Type} {f : List Nat → Option β} {l : List Nat} {r : List (List Nat)} : allS f (l :: r) = (f l).bind fun b => (allS f r).map fun bs => b :: bs := by
  cases h : f l with
  | none => simp [allS, h]
  | some b => simp [allS, h]
/-- the plain parts of a part -/
def plainsL (l : List Nat) : List (List Nat) := if pre [118, 111, 116, 101, 115, 32] l = true then TL.spl [32, 124, 32] 0 [] (l.drop 6) else [l]
theorem partS_wid (l : List Nat) : (partS l).map R1.wid = (allS plainS (plainsL l)).map fun rs => maxD (rs.map R0.wid) := by
  unfold partS plainsL
  split
  · cases allS plainS (TL.spl [32, 124, 32] 0 [] (l.drop 6)) <;> rfl
  · rw [allS_cons]
    cases plainS l with
    | none => rfl
    | some r =>
      show some r.wid = some (maxD [r.wid])
      rw [maxD_one r.wid_low]
theorem okS_cutS {x : Str} (h : okS x) (lo hi : Option Int) : okS (cutS x lo hi) := fun c hc => by
  unfold cutS at hc
  exact h c (List.mem_of_mem_drop (List.mem_of_mem_take hc))
theorem tl_cut06 (x : Str) : tl (cutS x none (some 6)) = (tl x).take 6 := by
  unfold cutS
  change List.take _ (List.drop _ (tl x)) = _
  rw [len_tl]
  simp [HT.sIx]
def widV : Option Int → V
  | none => .non
  | some z => .int z
def sp__law_widest (K : PySem.W.Frag) (A : Ad) : Sp := fun vs H Q _ => ∃ (x : Str), vs = [.str x] ∧ (okS x ∧ x.length ≤ 100000) ∧ ∀ H', Stp [] H H' → Q (widV ((ruleT (tl x)).map fun rs => maxD (rs.map R1.wid))) H'
theorem ok__law_widest {P : Program} {w : World} {K : PySem.W.Frag} {mg : Str → Option Value} {base : Heap} {A : Ad} {f : Addr} {fd : FuncData} (F : Fun K "_law_widest" "_law_widest" s__law_widest f fd) (T : Txt K mg A) (C__law_plain_key : SH.Cal P w K mg base CX0 2 "_law_plain_key" [] (sp__law_plain_key K A)) : FnOk P w K mg base CX0 3 f fd ["_law_text"] (sp__law_widest K A) := by
  refine F.ok sc__law_widest (fun vs H Q E h => by obtain ⟨_, rfl, _⟩ := h; rfl) (fun cdv A' outer s H vs Q E hr h => ?_)
  obtain ⟨x, rfl, ⟨hx, hl⟩, k⟩ := h
  refine ⟨_, (pss_cons (ps_set (i := 1) sc__law_widest.nd rfl (Or.inl rfl) (pe_un un_neg pe_int))
        (pss_cons (ps_if (pt_cmpR (SH.oEq hr.units) (pv 0) pe_str (nomark _)) (pss_one (ps_ret (pv 1))) pss_nil)
        (pss_cons (ps_for PassesOwn.never rfl (pi_list (pe_bm PySem.F.plainAttrs_str PySem.F.slot_str_split PySem.F.type_str_split mt_split (pv 0) (pa_cons pe_str pa_nil))) (pg_name (i := 2) sc__law_widest.nd rfl (Or.inl rfl)) (pss_cons (ps_set (i := 3) sc__law_widest.nd rfl (Or.inl rfl) (pe_lst (pa_cons (pv 2) pa_nil)))
        (pss_cons (ps_if (pt_cmpR (SH.oEq hr.units) (pe_slice sl_str (pv 2) po_none (po_some pe_int)) pe_str (nomark _)) (pss_one (ps_set (i := 3) sc__law_widest.nd rfl (Or.inl rfl) (pe_bm PySem.F.plainAttrs_str PySem.F.slot_str_split PySem.F.type_str_split mt_split (pe_slice sl_str (pv 2) (po_some pe_int) po_none) (pa_cons pe_str pa_nil)))) pss_nil)
        (pss_one (ps_for PassesOwn.never rfl (pi_list (pv 3)) (pg_name (i := 4) sc__law_widest.nd rfl (Or.inl rfl)) (pss_cons (ps_set (i := 5) sc__law_widest.nd rfl (Or.inl rfl) (SH.pe_callF C__law_plain_key hr (by rfl) pass0 (pa_cons (pv 4) pa_nil)))
        (pss_cons (ps_if (pt_cmpR SH.oIsN (pv 5) pe_non (nomark _)) (pss_one (ps_ret pe_non)) pss_nil)
        (pss_one (ps_set (i := 1) sc__law_widest.nd rfl (Or.inl rfl) (pe_callB (SH.cMax2 rfl) (by rfl) T.z_max (by decide +kernel) (pa_cons (pv 1) (pa_cons (pv 5) pa_nil))))))))))))
        (pss_one (ps_ret (pv 1)))))), ?_⟩
  walk_at "begin"
  unfold ruleT at k
  walk_at "rd"
  refine v_eqS ?_
  by_cases he : tl x = []
  · rw [if_pos he] at k
    rw [decide_eq_true (str_eq.mpr (by rw [he]; decide +kernel))]
    walk_at "rd"
    exact k H (Stp.refl _ _)
  rw [if_neg he] at k
  rw [decide_eq_false (fun z => he (by rw [z]; decide +kernel))]
  obtain ⟨p1, p2⟩ := split_ok (y := sCom) (by rw [tl_com]; simp) (by decide +kernel) hx
  have hsp : (Txt.split x sCom).map tl = TL.spl [44, 32] 0 [] (tl x) := by
    have := split_spl x sCom (by rw [tl_com]; simp) (kind_ok (by decide +kernel))
    rw [tl_com] at this
    exact this
  rw [← hsp] at k
  walk_at "rd"
  refine ⟨ty_str, ?_⟩
  walk_at "rd"
  refine ⟨_, _, rfl, rfl, by decide +kernel, Nat.le_trans (m := 200000) (by omega) (by decide), ?_⟩
  generalize hps : Txt.split x (Str.ofString ", ") = ps at *
  intro w' hw'
  have S0 := (Stp.refl [] H).new (o := .lst (ps.map V.str)) hw'
  have hw0 := upd_same (H := H) (a := w') (o := .lst (ps.map V.str))
  generalize upd H w' (.lst (ps.map V.str)) = H0 at S0 hw0 ⊢
  have knone : ∀ {z : Str} {H' : Hp}, z ∈ ps → partS (tl z) = none → Stp [] H H' → Q .non H' := fun {z H'} hz hn S => by
    have := k H' S
    rw [allS_none hn (List.mem_map.mpr ⟨z, hz, rfl⟩)] at this
    exact this
  walk_at "rd"
  refine for_it (walk_list (xs := ps.map V.str)) (fun j σ H' => Stp [] H0 H' ∧ ∃ rs v2 v3 v4 v5, allS partS ((ps.map tl).take j) = some rs ∧ σ = [some (.str x), some (.int (maxD (rs.map R1.wid))), v2, v3, v4, v5]) ⟨.refl _ _, [], _, _, _, _, rfl, rfl⟩ (fun j σ H' _ z => z.1.sql0 (SqL.of hw0)) ?_ ?_
  · rintro j v σ H3 H4 hj ⟨S, rs, v2, v3, v4, v5, hall, rfl⟩ ⟨rfl, hv⟩
    obtain ⟨z, hz, rfl⟩ := map_at hv
    have hzm := List.mem_of_getElem? hz
    obtain ⟨q1, q2⟩ := p1 z hzm
    have hzt : (ps.map tl)[j]? = some (tl z) := by rw [List.getElem?_map, hz]; rfl
    walk_at "ri"
    intro D hD
    have S1 := (Stp.refl [] H4).new (o := .lst [.str z]) hD
    have hD1 := upd_same (H := H4) (a := D) (o := .lst [.str z])
    generalize upd H4 D (.lst [.str z]) = H5 at S1 hD1 ⊢
    walk_at "ri"
    refine r_J (fun σ H' => (Stp [] H5 H' ∧ ∃ (q : Addr) (qs : List Str), H' q = some (.lst (qs.map V.str)) ∧ qs.map tl = plainsL (tl z) ∧ (∀ p ∈ qs, okS p ∧ p.length ≤ 100000) ∧ σ = [some (.str x), some (.int (maxD (rs.map R1.wid))), some (.str z), some (.ref q), v4, v5])) ?_ fun N hN => ?_
    rotate_left
    · walk_at "rd"
      refine ⟨_, rfl, Nat.le_trans (m := 100000) (by omega) (by decide), ?_⟩
      walk_at "rd"
      refine v_eqS ?_
      rw [show decide (cutS z none (some 6) = Str.ofString "votes ") = pre [118, 111, 116, 101, 115, 32] (tl z) from by
        have e : pre [118, 111, 116, 101, 115, 32] (tl z) = decide ((tl z).take 6 = [118, 111, 116, 101, 115, 32]) := by
          unfold pre
          rw [Bool.eq_iff_iff, beq_iff_eq, decide_eq_true_iff]
          rfl
        rw [e, decide_eq_decide, str_eq, tl_cut06, tl_vot]]
      cases hp : pre [118, 111, 116, 101, 115, 32] (tl z) with
      | false =>
        walk_at "rd"
        exact hN _ _ ⟨.refl _ _, D, [z], hD1, by unfold plainsL; rw [if_neg (by rw [hp]; decide)]; rfl, fun p hp => by rw [List.mem_singleton] at hp; subst hp; exact ⟨q1, by omega⟩, rfl⟩
      | true =>
        walk_at "rd"
        refine ⟨_, rfl, Nat.le_trans (m := 100000) (by omega) (by decide), ?_⟩
        have h6 := tl_cut6 hp
        have h6x : okS (cutS z (some 6) none) := fun c hc => q1 c (List.mem_of_mem_drop (by rw [h6] at hc; exact hc))
        have h6l : (cutS z (some 6) none).length ≤ 100000 := Nat.le_trans (cutS_length _ _ _) (by omega)
        generalize hy : cutS z (some 6) none = y at *
        obtain ⟨t1, t2⟩ := split_ok (y := sBar) (by rw [tl_bar]; simp) (by decide +kernel) h6x
        have hsp2 : (Txt.split y sBar).map tl = TL.spl [32, 124, 32] 0 [] (tl y) := by
          have := split_spl y sBar (by rw [tl_bar]; simp) (kind_ok (by decide +kernel))
          rw [tl_bar] at this
          exact this
        refine ⟨ty_str, ?_⟩
        walk_at "rd"
        refine ⟨_, _, rfl, rfl, by decide +kernel, Nat.le_trans (m := 200000) (by omega) (by decide), ?_⟩
        generalize hqs : Txt.split y (Str.ofString " | ") = qs at *
        intro w2 hw2
        walk_at "rd"
        exact hN _ _ ⟨(Stp.refl [] H5).new hw2, w2, qs, upd_same, by unfold plainsL; rw [if_pos hp, ← h6]; exact hsp2, fun p hp => ⟨(t1 p hp).1, by have := (t1 p hp).2; omega⟩, rfl⟩
    rintro σ H6 ⟨S6, q, qs, hq, hpl, hqok, rfl⟩
    dsimp only
    have S06 : Stp [] H0 H6 := (S.trans S1).trans S6
    walk_at "rd"
    refine for_it (walk_list (xs := qs.map V.str)) (fun i σ H' => Stp [] H6 H' ∧ ∃ r0s v4 v5, allS plainS ((qs.map tl).take i) = some r0s ∧ σ = [some (.str x), some (.int (max (maxD (rs.map R1.wid)) (maxD (r0s.map R0.wid)))), some (.str z), some (.ref q), v4, v5]) ⟨.refl _ _, [], _, _, rfl, by
      have := maxD_low (rs.map R1.wid)
      rw [show max (maxD (rs.map R1.wid)) (maxD (([] : List R0).map R0.wid)) = maxD (rs.map R1.wid) from by
        show max _ (-1) = _
        omega]⟩ (fun j σ H' _ z => z.1.sql0 (SqL.of hq)) ?_ ?_
    · rintro i v σ H7 H8 hi ⟨S7, r0s, v4, v5, hall0, rfl⟩ ⟨rfl, hv⟩
      obtain ⟨y, hy, rfl⟩ := map_at hv
      have hym := List.mem_of_getElem? hy
      obtain ⟨y1, y2⟩ := hqok y hym
      have hyt : (qs.map tl)[i]? = some (tl y) := by rw [List.getElem?_map, hy]; rfl
      walk_at "rd"
      refine ⟨y, rfl, ⟨y1, y2⟩, fun H9 S9 => ?_⟩
      have hpk := pk_is (tl y)
      cases hk : pkW (TL.spl [32] 0 [] (tl y)) with
      | none =>
        rw [hk] at hpk
        have hn : plainS (tl y) = none := by
          cases h : plainS (tl y) with
          | none => rfl
          | some r => rw [h] at hpk; cases hpk
        have hpn : partS (tl z) = none := by
          have h1 := partS_wid (tl z)
          rw [← hpl, allS_none hn (List.mem_map.mpr ⟨y, hym, rfl⟩)] at h1
          cases h : partS (tl z) with
          | none => rfl
          | some r => rw [h] at h1; cases h1
        walk_at "rd"
        rw [if_pos (by rfl)]
        walk_at "rd"
        exact knone hzm hpn ((S0.trans S06).trans (S7.trans S9))
      | some kk =>
        rw [hk] at hpk
        obtain ⟨r, hr, hrw⟩ : ∃ r, plainS (tl y) = some r ∧ r.wid = kk := by
          cases h : plainS (tl y) with
          | none => rw [h] at hpk; cases hpk
          | some r => rw [h] at hpk; exact ⟨r, rfl, Option.some.inj hpk⟩
        walk_at "rd"
        rw [if_neg (by simp [keyV])]
        rw [show keyV (some kk) = V.int kk from rfl]
        walk_at "rd"
        refine ⟨S7.trans S9, r0s ++ [r], some (.str y), some (.int kk), by rw [take_snoc hyt, allS_snoc, hall0, Option.bind_some, hr]; rfl, ?_⟩
        have e : ∀ a b c : Int, (if c > max a b then c else max a b) = max a (max b c) := fun a b c => by split <;> omega
        rw [List.map_append, maxD_app, show maxD ([r].map R0.wid) = kk from by rw [show [r].map R0.wid = [r.wid] from rfl, maxD_one r.wid_low, hrw], e]
    · rintro σ H7 ⟨S7, r0s, v4, v5, hall0, rfl⟩
      rw [List.length_map, ← List.length_map (f := tl), List.take_length, hpl] at hall0
      obtain ⟨r1, hr1, hrw⟩ : ∃ r1, partS (tl z) = some r1 ∧ r1.wid = maxD (r0s.map R0.wid) := by
        have h1 := partS_wid (tl z)
        rw [hall0] at h1
        cases h : partS (tl z) with
        | none => rw [h] at h1; cases h1
        | some r => rw [h] at h1; exact ⟨r, rfl, Option.some.inj h1⟩
      walk_at "rd"
      refine ⟨S06.trans S7, rs ++ [r1], some (.str z), some (.ref q), v4, v5, by rw [take_snoc hzt, allS_snoc, hall, Option.bind_some, hr1]; rfl, ?_⟩
      rw [List.map_append, maxD_app, ← hrw]
      rw [show maxD ([r1].map R1.wid) = r1.wid from maxD_one r1.wid_low]
  · rintro σ H3 ⟨S, rs, v2, v3, v4, v5, hall, rfl⟩
    rw [List.length_map, ← List.length_map (f := tl), List.take_length] at hall
    walk_at "rd"
    have := k H3 (S0.trans S)
    rw [hall] at this
    exact this
/-! ### the texts that are tried -/
theorem okS_app {x y : Str} (h : okS x) (k : okS y) : okS (x ++ y) := fun c hc => by
  rw [tl_append] at hc
  rcases List.mem_append.mp hc with z | z
  · exact h c z
  · exact k c z
theorem okS_istr (z : Int) : okS (istr z) := fun c hc => by
  have : c = 45 ∨ (48 ≤ c ∧ c ≤ 57) := by
    cases z with
    | ofNat n =>
      rw [show Int.ofNat n = (n : Int) from rfl, tl_istr_nat] at hc
      exact .inr (numL_digits n c hc)
    | negSucc n =>
      rw [tl_istr_neg] at hc
      rcases List.mem_cons.mp hc with h | h
      · exact .inl h
      · exact .inr (numL_digits _ c h)
  have e : c = 45 ∨ c = 48 ∨ c = 49 ∨ c = 50 ∨ c = 51 ∨ c = 52 ∨ c = 53 ∨ c = 54 ∨ c = 55 ∨ c = 56 ∨ c = 57 := by omega
  rcases e with rfl | rfl | rfl | rfl | rfl | rfl | rfl | rfl | rfl | rfl | rfl <;> decide
theorem okS_join {y : Str} {ps : List Str} (h : okS y) (k : ∀ p ∈ ps, okS p) : okS (Txt.join y ps) := fun c hc => by
  rw [join_eq, tl_join] at hc
  rcases joinL_mem hc with z | ⟨p, hp, z⟩
  · exact h c z
  · obtain ⟨q, hq, rfl⟩ := List.mem_map.mp hp
    exact k q hq c z
theorem join_len2 {y : Str} {ps : List Str} {m : Nat} (h : ∀ p ∈ ps, p.length ≤ m) (hy : y.length = 2) : (Txt.join y ps).length ≤ ps.length * (m + 2) := by
  rw [join_eq]
  have h0 := StrLaws.join_length_le y ps
  have h1 : (ps.map (·.length)).sum ≤ ps.length * m := sum_le h
  rw [hy] at h0
  rw [Nat.mul_add]
  omega
theorem log61 {z : Int} (h0 : -(10 ^ 61 : Int) < z) (h1 : z < 10 ^ 61) : z.natAbs.log2 < 1920 := by
  have h2 : z.natAbs < 2 ^ 1200 := by
    have : z.natAbs < 10 ^ 61 := by omega
    exact Nat.lt_of_lt_of_le this (by decide +kernel)
  by_cases h0 : z.natAbs = 0
  · rw [h0]; decide
  · exact Nat.lt_of_lt_of_le ((Nat.log2_lt h0).mpr h2) (by decide)
def sp__law_plain (K : PySem.W.Frag) (A : Ad) : Sp := fun vs H Q _ => ∃ (c : Int), vs = [.int c] ∧ ∀ (x : Str) H', okS x → x.length ≤ 200 → Stp [] H H' → Q (.str x) H'
theorem ok__law_plain {P : Program} {w : World} {K : PySem.W.Frag} {mg : Str → Option Value} {base : Heap} {A : Ad} {f : Addr} {fd : FuncData} (F : Fun K "_law_plain" "_law_plain" s__law_plain f fd) (T : Txt K mg A)  : FnOk P w K mg base CX0 1 f fd ["_law_cell"] (sp__law_plain K A) := by
  refine F.ok sc__law_plain (fun vs H Q E h => by obtain ⟨_, rfl, _⟩ := h; rfl) (fun cdv A' outer s H vs Q E hr h => ?_)
  obtain ⟨c, rfl, k⟩ := h
  refine ⟨_, (pss_cons (ps_set (i := 1) sc__law_plain.nd rfl (Or.inl rfl) (pe_ix SH.ixA (pe_lst (pa_cons pe_str (pa_cons pe_str (pa_cons pe_str (pa_cons pe_str pa_nil))))) (pe_op SH.oMod (pv 0) pe_int) (fun _ _ => rfl)))
        (pss_cons (ps_set (i := 2) sc__law_plain.nd rfl (Or.inl rfl) (pe_op SH.oAdd (pe_op SH.oAdd (pv 1) pe_str) (pe_callTy call_str_int (by rfl) T.z_str (by decide +kernel) (pa_cons (pe_op SH.oMod (pe_op SH.oDiv (pv 0) pe_int) pe_int) pa_nil))))
        (pss_cons (ps_if (pt_cmpR (SH.oLt hr.units0) (pe_op SH.oMod (pv 0) pe_int) pe_int (nomark _)) (pss_one (ps_ret (pv 2))) pss_nil)
        (pss_cons (ps_set (i := 3) sc__law_plain.nd rfl (Or.inl rfl) (pe_op SH.oSub (pe_op SH.oMod (pe_op SH.oDiv (pv 0) pe_int) pe_int) pe_int))
        (pss_cons (ps_if (pt_cmpR (SH.oEq hr.units) (pe_op SH.oMod (pe_op SH.oDiv (pv 0) pe_int) pe_int) pe_int (nomark _)) (pss_one (ps_set (i := 3) sc__law_plain.nd rfl (Or.inl rfl) (pe_ix SH.ixA (pe_lst (pa_cons (pe_op SH.oAdd (pe_op SH.oPow pe_int pe_int) (pe_op SH.oMod (pv 0) pe_int)) (pa_cons (pe_op SH.oSub (pe_op SH.oPow pe_int pe_int) pe_int) (pa_cons (pe_op SH.oPow pe_int pe_int) (pa_cons (pe_op SH.oSub pe_int (pe_op SH.oPow pe_int pe_int)) pa_nil))))) (pe_op SH.oMod (pe_op SH.oDiv (pv 0) pe_int) pe_int) (fun _ _ => rfl)))) pss_nil)
        (pss_one (ps_ret (pe_op SH.oAdd (pe_op SH.oAdd (pv 2) pe_str) (pe_callTy call_str_int (by rfl) T.z_str (by decide +kernel) (pa_cons (pv 3) pa_nil)))))))))), ?_⟩
  walk_at "begin"
  walk_at "rd"
  intro p hp
  have S1 := (Stp.refl [] H).new (o := .lst [.str "up", .str "down", .str "near", .str "ring"]) hp
  have hp1 := upd_same (H := H) (a := p) (o := .lst [.str "up", .str "down", .str "near", .str "ring"])
  walk_at "rd"
  refine v_ixMod (m := 4) (SqL.of hp1) rfl (by decide) fun v hv => ?_
  have fin : ∃ y : Str, v = .str y ∧ okS y ∧ y.length ≤ 4 := by
    simp only [List.mem_cons, List.not_mem_nil, or_false] at hv
    rcases hv with rfl | rfl | rfl | rfl <;> exact ⟨_, rfl, by unfold okS; decide +kernel, by decide +kernel⟩
  obtain ⟨y, rfl, hy, hyl⟩ := fin
  generalize upd H p (.lst [.str "up", .str "down", .str "near", .str "ring"]) = H1 at S1 hp1 ⊢
  have sl : ∀ n, n ≤ 100000 → n ≤ sizeLine := fun n h => Nat.le_trans h (by decide)
  have okb : okS (Str.ofString " ") := by unfold okS; rw [tl_bl]; decide
  have lb : (Str.ofString " ").length = 1 := by rw [len_tl, tl_bl]; rfl
  have b61 : (10 : Int) ^ 61 = 10000000000000000000000000000000000000000000000000000000000000 := by decide +kernel
  have m0 := Int.emod_nonneg (c / 4) (show (10 : Int) ≠ 0 by decide)
  have m1 := Int.emod_lt_of_pos (c / 4) (show (0 : Int) < 10 by decide)
  have q0 := istr_len (z := c / 4 % 10) (k := 61) (by decide) (by rw [b61]; omega) (by rw [b61]; omega)
  walk_at "rd"
  refine ⟨sl _ (by rw [lb]; omega), ?_⟩
  walk_at "rd"
  refine ⟨_, rfl, log61 (by rw [b61]; omega) (by rw [b61]; omega), ?_⟩
  refine ⟨sl _ (by rw [len_app, lb]; simp only [istr] at q0; omega), ?_⟩
  have okt : okS (y ++ Str.ofString " " ++ istr (c / 4 % 10)) := okS_app (okS_app hy okb) (okS_istr _)
  have lt : (y ++ Str.ofString " " ++ istr (c / 4 % 10)).length ≤ 70 := by rw [len_app, len_app, lb]; omega
  change gName 2 (V.str (y ++ Str.ofString " " ++ istr (c / 4 % 10))) _ _ _
  generalize y ++ Str.ofString " " ++ istr (c / 4 % 10) = x0 at okt lt
  walk_at "rd"
  refine r_w (fun hc => ?_) fun hc => ?_
  · walk_at "rd"
    exact k _ _ okt (by omega) S1
  walk_at "ri"
  refine r_J (fun σ H' => Stp [] H1 H' ∧ ∃ z : Int, (-(10 ^ 61 : Int) < z ∧ z < 10 ^ 61) ∧ σ = [some (.int c), some (.str y), some (.str x0), some (.int z)]) ?_ fun N hN => ?_
  rotate_left
  · have m2 := Int.emod_nonneg (c / 40) (show (10 : Int) ≠ 0 by decide)
    have m3 := Int.emod_lt_of_pos (c / 40) (show (0 : Int) < 10 by decide)
    have m4 := Int.emod_nonneg c (show (7 : Int) ≠ 0 by decide)
    have m5 := Int.emod_lt_of_pos c (show (0 : Int) < 7 by decide)
    walk_at "rd"
    refine r_w (fun hc => ?_) fun hc => ?_
    · walk_at "rd"
      refine ⟨⟨by decide, by decide, by decide⟩, ?_⟩
      walk_at "rd"
      refine ⟨⟨by decide, by decide, by decide⟩, ?_⟩
      walk_at "rd"
      intro p2 hp2
      have S3 := (Stp.refl [] H1).new (o := .lst [.int (10 ^ ((58 : Int)).toNat + c % 7), .int (big60 - 1), .int big60, .int (0 - 10 ^ ((59 : Int)).toNat)]) hp2
      have hp3 := upd_same (H := H1) (a := p2) (o := .lst [.int (10 ^ ((58 : Int)).toNat + c % 7), .int (big60 - 1), .int big60, .int (0 - 10 ^ ((59 : Int)).toNat)])
      walk_at "rd"
      refine v_ixMod (m := 4) (SqL.of hp3) rfl (by decide) fun v hv => ?_
      have b1 : (10 : Int) ^ ((58 : Int)).toNat = 10000000000000000000000000000000000000000000000000000000000 := by decide +kernel
      have b2 : big60 = 1000000000000000000000000000000000000000000000000000000000000 := by decide +kernel
      have b3 : (10 : Int) ^ ((59 : Int)).toNat = 100000000000000000000000000000000000000000000000000000000000 := by decide +kernel
      have fin : ∃ z : Int, v = .int z ∧ (-(10 ^ 61 : Int) < z ∧ z < 10 ^ 61) := by
        rw [b1, b2, b3] at hv
        rw [b61]
        simp only [List.mem_cons, List.not_mem_nil, or_false] at hv
        rcases hv with rfl | rfl | rfl | rfl <;> exact ⟨_, rfl, by omega, by omega⟩
      obtain ⟨z, rfl, hz⟩ := fin
      walk_at "rd"
      exact hN _ _ ⟨S3, z, hz, rfl⟩
    · walk_at "rd"
      exact hN _ _ ⟨.refl _ _, _, ⟨by rw [b61]; omega, by rw [b61]; omega⟩, rfl⟩
  rintro σ H2 ⟨S2, z, ⟨z0, z1⟩, rfl⟩
  dsimp only
  have q2 := istr_len (z := z) (k := 61) (by decide) z0 z1
  walk_at "rd"
  refine ⟨sl _ (by rw [lb]; omega), ?_⟩
  walk_at "rd"
  refine ⟨_, rfl, log61 z0 z1, ?_⟩
  refine ⟨sl _ (by rw [len_app, lb]; simp only [istr] at q2; omega), ?_⟩
  exact k _ _ (okS_app (okS_app okt okb) (okS_istr _)) (by rw [len_app, len_app, lb]; simp only [istr] at q2; omega) (S1.trans S2)
def sp__law_part (K : PySem.W.Frag) (A : Ad) : Sp := fun vs H Q _ => ∃ (c : Int), vs = [.int c] ∧ ∀ (x : Str) H', okS x → x.length ≤ 500 → Stp [] H H' → Q (.str x) H'
theorem ok__law_part {P : Program} {w : World} {K : PySem.W.Frag} {mg : Str → Option Value} {base : Heap} {A : Ad} {f : Addr} {fd : FuncData} (F : Fun K "_law_part" "_law_part" s__law_part f fd) (T : Txt K mg A) (C__law_plain : SH.Cal P w K mg base CX0 1 "_law_plain" [] (sp__law_plain K A)) : FnOk P w K mg base CX0 2 f fd ["_law_cell"] (sp__law_part K A) := by
  refine F.ok sc__law_part (fun vs H Q E h => by obtain ⟨_, rfl, _⟩ := h; rfl) (fun cdv A' outer s H vs Q E hr h => ?_)
  obtain ⟨c, rfl, k⟩ := h
  refine ⟨_, (pss_cons (ps_if (pt_cmpR (SH.oEq hr.units) (pe_op SH.oMod (pv 0) pe_int) pe_int (nomark _)) (pss_one (ps_ret (pe_op SH.oAdd (pe_op SH.oAdd (pe_op SH.oAdd pe_str (SH.pe_callF C__law_plain hr (by rfl) pass0 (pa_cons (pe_op SH.oDiv (pv 0) pe_int) pa_nil))) pe_str) (SH.pe_callF C__law_plain hr (by rfl) pass0 (pa_cons (pe_op SH.oDiv (pv 0) pe_int) pa_nil))))) pss_nil)
        (pss_one (ps_ret (SH.pe_callF C__law_plain hr (by rfl) pass0 (pa_cons (pe_op SH.oDiv (pv 0) pe_int) pa_nil))))), ?_⟩
  walk_at "begin"
  have sl : ∀ n, n ≤ 100000 → n ≤ sizeLine := fun n h => Nat.le_trans h (by decide)
  have okv : okS sVot ∧ sVot.length ≤ 6 := ⟨by unfold okS; rw [tl_vot]; decide, by rw [len_tl, tl_vot]; decide⟩
  have okb : okS sBar ∧ sBar.length ≤ 3 := ⟨by unfold okS; rw [tl_bar]; decide, by rw [len_tl, tl_bar]; decide⟩
  walk_at "rd"
  refine r_w (fun hc => ?_) fun hc => ?_
  · walk_at "rd"
    refine ⟨_, rfl, fun x H1 hx hxl S1 => ?_⟩
    refine ⟨sl _ (by have := okv.2; simp only [sVot] at this; omega), ?_⟩
    walk_at "rd"
    have l1 : (sVot ++ x).length ≤ 206 := by rw [len_app]; have := okv.2; omega
    have l2 : (sVot ++ x ++ sBar).length ≤ 209 := by rw [len_app]; have := okb.2; omega
    refine ⟨sl _ (by have := okb.2; simp only [sBar] at this; change _ ≤ _; simp only [sVot] at l1; omega), ?_⟩
    walk_at "rd"
    refine ⟨_, rfl, fun y H2 hy hyl S2 => ?_⟩
    refine ⟨sl _ (by simp only [sVot, sBar] at l2; omega), ?_⟩
    exact k _ _ (okS_app (okS_app (okS_app okv.1 hx) okb.1) hy) (by rw [len_app]; simp only [sVot, sBar] at l2; omega) (S1.trans S2)
  · walk_at "rd"
    exact ⟨_, rfl, fun x H' hx hl S => k x H' hx (by omega) S⟩
def sp__law_odd (K : PySem.W.Frag) (A : Ad) : Sp := fun vs H Q _ => ∃ (c : Int), vs = [.int c] ∧ ∀ (x : Str) H', okS x → x.length ≤ 100 → Stp [] H H' → Q (.str x) H'
theorem ok__law_odd {P : Program} {w : World} {K : PySem.W.Frag} {mg : Str → Option Value} {base : Heap} {A : Ad} {f : Addr} {fd : FuncData} (F : Fun K "_law_odd" "_law_odd" s__law_odd f fd) (T : Txt K mg A)  : FnOk P w K mg base CX0 1 f fd ["_law_cell"] (sp__law_odd K A) := by
  refine F.ok sc__law_odd (fun vs H Q E h => by obtain ⟨_, rfl, _⟩ := h; rfl) (fun cdv A' outer s H vs Q E hr h => ?_)
  obtain ⟨c, rfl, k⟩ := h
  refine ⟨_, (pss_cons (ps_set (i := 1) sc__law_odd.nd rfl (Or.inl rfl) (pe_lst (pa_cons pe_str (pa_cons pe_str (pa_cons pe_str (pa_cons pe_str (pa_cons pe_str (pa_cons pe_str (pa_cons pe_str (pa_cons pe_str (pa_cons pe_str (pa_cons pe_str (pa_cons pe_str pa_nil)))))))))))))
        (pss_cons (ps_set (i := 1) sc__law_odd.nd rfl (Or.inl rfl) (pe_op SH.oAdd (pv 1) (pe_lst (pa_cons pe_str (pa_cons pe_str (pa_cons pe_str (pa_cons pe_str (pa_cons pe_str (pa_cons pe_str (pa_cons pe_str pa_nil))))))))))
        (pss_cons (ps_set (i := 1) sc__law_odd.nd rfl (Or.inl rfl) (pe_op SH.oAdd (pv 1) (pe_lst (pa_cons pe_str pa_nil))))
        (pss_cons (ps_set (i := 1) sc__law_odd.nd rfl (Or.inl rfl) (pe_op SH.oAdd (pv 1) (pe_lst (pa_cons pe_str (pa_cons pe_str (pa_cons pe_str (pa_cons pe_str (pa_cons pe_str pa_nil))))))))
        (pss_one (ps_ret (pe_ix SH.ixA (pv 1) (pe_op SH.oMod (pv 0) pe_int) (fun _ _ => rfl)))))))), ?_⟩
  walk_at "begin"
  walk_at "rd"
  let A : List V := [.str "up", .str "up ", .str "Up 0", .str "up 00", .str "up 0 ", .str " up 0", .str "up  0", .str "up 8", .str "up -1", .str "up 0,down 1", .str "up 0,  down 1"]
  let B : List V := [.str "up 0, ", .str ", up 0", .str "up 0\n", .str "votes", .str "votes ", .str "votes votes up 0", .str "votes up 0 |"]
  let C : List V := [.str "votes up 0|up 1"]
  let D : List V := [.str "near 0", .str "near 0 -0", .str "near 0 +1", .str "ring 0 01", .str "key 0"]
  refine SH.v_lst (vs := A) (by simp [A]) fun l0 hl0 => ?_
  have S0 := (Stp.refl [] H).new (o := .lst A) hl0
  have h0 := upd_same (H := H) (a := l0) (o := .lst A)
  generalize upd H l0 (.lst A) = H0 at S0 h0 ⊢
  walk_at "rd"
  refine SH.v_lst (vs := B) (by simp [B]) fun l1 hl1 => ?_
  refine v_addL (upd_old h0 hl1) upd_same (by decide) fun l2 hl2 => ?_
  have S1 := (S0.new (o := .lst B) hl1).new (o := .lst (A ++ B)) hl2
  have h1 := upd_same (H := upd H0 l1 (.lst B)) (a := l2) (o := .lst (A ++ B))
  generalize upd (upd H0 l1 (.lst B)) l2 (.lst (A ++ B)) = H1 at S1 h1 ⊢
  walk_at "rd"
  intro l3 hl3
  refine v_addL (upd_old h1 hl3) upd_same (by decide) fun l4 hl4 => ?_
  have S2 := (S1.new (o := .lst C) hl3).new (o := .lst (A ++ B ++ C)) hl4
  have h2 := upd_same (H := upd H1 l3 (.lst C)) (a := l4) (o := .lst (A ++ B ++ C))
  change gName 1 (V.ref l4) _ (upd (upd H1 l3 (.lst C)) l4 (.lst (A ++ B ++ C))) _
  generalize upd (upd H1 l3 (.lst C)) l4 (.lst (A ++ B ++ C)) = H2 at S2 h2 ⊢
  walk_at "rd"
  refine SH.v_lst (vs := D) (by simp [D]) fun l5 hl5 => ?_
  refine v_addL (upd_old h2 hl5) upd_same (by decide) fun l6 hl6 => ?_
  have S3 := (S2.new (o := .lst D) hl5).new (o := .lst (A ++ B ++ C ++ D)) hl6
  have h3 := upd_same (H := upd H2 l5 (.lst D)) (a := l6) (o := .lst (A ++ B ++ C ++ D))
  generalize upd (upd H2 l5 (.lst D)) l6 (.lst (A ++ B ++ C ++ D)) = H3 at S3 h3 ⊢
  walk_at "rd"
  refine v_ixMod (m := 24) (SqL.of h3) rfl (by decide) fun v hv => ?_
  have fin : ∃ y : Str, v = .str y ∧ okS y ∧ y.length ≤ 100 := by
    simp only [A, B, C, D, List.cons_append, List.nil_append, List.mem_cons, List.not_mem_nil, or_false] at hv
    unfold okS
    rcases hv with rfl | rfl | rfl | rfl | rfl | rfl | rfl | rfl | rfl | rfl | rfl | rfl | rfl | rfl | rfl | rfl | rfl | rfl | rfl | rfl | rfl | rfl | rfl | rfl <;> exact ⟨_, rfl, by decide +kernel, by decide +kernel⟩
  obtain ⟨y, rfl, hy, hyl⟩ := fin
  exact k y _ hy hyl S3
theorem tl_cutS (y : Str) (lo hi : Option Int) : tl (cutS y lo hi) = cutL (tl y) lo hi := by
  unfold cutS cutL
  change List.take _ (List.drop _ (tl y)) = _
  rw [len_tl]
theorem cut_lo (y : Str) (a : Nat) : (cutS y none (some (a : Int))).length ≤ a := by
  rw [len_tl, tl_cutS, cutL_upto, List.length_take]
  omega
theorem cut_hi (y : Str) (a : Nat) : (cutS y (some (a : Int)) none).length = y.length - a := by
  rw [len_tl, tl_cutS, cutL_from, List.length_drop, len_tl]
def sp__law_spoiled (K : PySem.W.Frag) (A : Ad) : Sp := fun vs H Q _ => ∃ (x : Str) (q : Addr) (cs : List Int), vs = [.str x, .ref q] ∧ (okS x ∧ x.length ≤ 60000 ∧ H q = some (.lst (cs.map V.int)) ∧ cs.length ≤ 3) ∧ ∀ (y : Str), okS y → y.length ≤ 60003 → Q (.str y) H
theorem ok__law_spoiled {P : Program} {w : World} {K : PySem.W.Frag} {mg : Str → Option Value} {base : Heap} {A : Ad} {f : Addr} {fd : FuncData} (F : Fun K "_law_spoiled" "_law_spoiled" s__law_spoiled f fd) (T : Txt K mg A)  : FnOk P w K mg base CX0 1 f fd ["_law_text", "_law_cells"] (sp__law_spoiled K A) := by
  refine F.ok sc__law_spoiled (fun vs H Q E h => by obtain ⟨_, _, _, rfl, _⟩ := h; rfl) (fun cdv A' outer s H vs Q E hr h => ?_)
  obtain ⟨x, q, cs, rfl, ⟨hx, hl, hq, hc⟩, k⟩ := h
  refine ⟨_, (pss_cons (ps_for PassesOwn.never rfl (pi_list (pv 1)) (pg_name (i := 2) sc__law_spoiled.nd rfl (Or.inl rfl)) (pss_cons (ps_set (i := 3) sc__law_spoiled.nd rfl (Or.inl rfl) (pe_op SH.oMod (pe_op SH.oDiv (pv 2) pe_int) (pe_op SH.oAdd (pe_callB SH.cLen (by rfl) T.z_len (by decide +kernel) (pa_cons (pv 0) pa_nil)) pe_int)))
        (pss_cons (ps_set (i := 4) sc__law_spoiled.nd rfl (Or.inl rfl) (pe_ix SH.ixA pe_str (pe_op SH.oMod (pe_op SH.oMod (pe_op SH.oMul (pv 2) pe_int) pe_int) pe_int) (fun _ _ => rfl)))
        (pss_one (ps_if (pt_cmpR (SH.oEq hr.units) (pe_op SH.oMod (pv 2) pe_int) pe_int (nomark _)) (pss_one (ps_set (i := 0) sc__law_spoiled.nd rfl (Or.inl rfl) (pe_op SH.oAdd (pe_op SH.oAdd (pe_slice sl_str (pv 0) po_none (po_some (pv 3))) (pv 4)) (pe_slice sl_str (pv 0) (po_some (pv 3)) po_none)))) (pss_one (ps_if (pt_cmpR (SH.oEq hr.units) (pe_op SH.oMod (pv 2) pe_int) pe_int (nomark _)) (pss_one (ps_set (i := 0) sc__law_spoiled.nd rfl (Or.inl rfl) (pe_op SH.oAdd (pe_slice sl_str (pv 0) po_none (po_some (pv 3))) (pe_slice sl_str (pv 0) (po_some (pe_op SH.oAdd (pv 3) pe_int)) po_none)))) (pss_one (ps_set (i := 0) sc__law_spoiled.nd rfl (Or.inl rfl) (pe_op SH.oAdd (pe_op SH.oAdd (pe_slice sl_str (pv 0) po_none (po_some (pv 3))) (pv 4)) (pe_slice sl_str (pv 0) (po_some (pe_op SH.oAdd (pv 3) pe_int)) po_none)))))))))))
        (pss_one (ps_ret (pv 0)))), ?_⟩
  walk_at "begin"
  walk_at "rd"
  refine for_it (walk_list (xs := cs.map V.int)) (fun j σ H' => H' = H ∧ ∃ (y : Str) (v2 v3 v4 : Option V), (okS y ∧ y.length ≤ 60000 + j) ∧ σ = [some (.str y), some (.ref q), v2, v3, v4]) ⟨rfl, x, _, _, _, ⟨hx, by omega⟩, rfl⟩ (fun _ _ _ _ z => by rw [z.1]; exact SqL.of hq) ?_ ?_
  · rintro j v σ H1 H2 hj ⟨rfl, y, v2, v3, v4, ⟨hy, hyl⟩, rfl⟩ ⟨rfl, hv⟩
    obtain ⟨c, hc', rfl⟩ := map_at hv
    have hj3 : j < 3 := by rw [List.length_map] at hj; omega
    have hys : y.length ≤ sizeLine := Nat.le_trans (m := 60010) (by omega) (by decide)
    walk_at "rd"
    refine ⟨hys, ?_⟩
    walk_at "rd"
    have a0 := Int.emod_nonneg (c / 3) (show ((y.length : Int) + 1) ≠ 0 by omega)
    have a1 := Int.emod_lt_of_pos (c / 3) (show (0 : Int) < (y.length : Int) + 1 by omega)
    generalize c / 3 % ((y.length : Int) + 1) = at' at a0 a1 ⊢
    have s0 := Int.emod_nonneg (c * 48271 % 65521) (show (13 : Int) ≠ 0 by decide)
    have s1 := Int.emod_lt_of_pos (c * 48271 % 65521) (show (0 : Int) < 13 by decide)
    walk_at "rd"
    generalize c * 48271 % 65521 % 13 = sg at s0 s1 ⊢
    obtain ⟨g, rfl⟩ := Int.eq_ofNat_of_zero_le s0
    have hsg : ∀ g, g < 13 → ∃ d ∈ menu, (tl (Str.ofString "0179-, |upr._"))[g]? = some d := by decide +kernel
    obtain ⟨d, hd, hgd⟩ := hsg g (by omega)
    refine ⟨d, by decide +kernel, atI_nat hgd, ?_⟩
    have okd : okS (⟨#[d]⟩ : Str) := fun e he => by
      have he : e ∈ [d] := he
      rw [List.mem_singleton] at he; subst he; exact hd
    have ld : (⟨#[d]⟩ : Str).length = 1 := rfl
    have cl : ∀ lo hi, (cutS y lo hi).length ≤ 60000 + j := fun lo hi => Nat.le_trans (cutS_length _ _ _) hyl
    have s64 : 200000 ≤ sizeLine := by decide
    obtain ⟨an, rfl⟩ := Int.eq_ofNat_of_zero_le a0
    have c1 := cut_lo y an
    have c2 := cut_hi y an
    have c3 := cut_hi y (an + 1)
    have e3 : ((an : Int) + 1) = ((an + 1 : Nat) : Int) := rfl
    have fin : ∀ z : Str, okS z → z.length ≤ y.length + 1 → okS z ∧ z.length ≤ 60000 + (j + 1) := fun z h1 h2 => ⟨h1, by omega⟩
    walk_at "rd"
    refine r_w (fun hc => ?_) fun hc => ?_
    · walk_at "rd"
      refine ⟨_, rfl, hys, ?_⟩
      walk_at "rd"
      refine ⟨Nat.le_trans (m := 200000) (by rw [ld]; omega) s64, ?_⟩
      walk_at "rd"
      refine ⟨_, rfl, hys, ?_⟩
      walk_at "rd"
      refine ⟨Nat.le_trans (m := 200000) (by rw [len_app, ld]; omega) s64, ?_⟩
      walk_at "rd"
      exact ⟨rfl, _, _, _, _, fin _ (okS_app (okS_app (okS_cutS hy _ _) okd) (okS_cutS hy _ _)) (by rw [len_app, len_app, ld]; omega), rfl⟩
    · walk_at "rd"
      refine r_w (fun hc => ?_) fun hc => ?_
      · walk_at "rd"
        refine ⟨_, rfl, hys, ?_⟩
        walk_at "rd"
        refine ⟨_, rfl, hys, ?_⟩
        walk_at "rd"
        rw [e3]
        refine ⟨Nat.le_trans (m := 200000) (by omega) s64, ?_⟩
        walk_at "rd"
        exact ⟨rfl, _, _, _, _, fin _ (okS_app (okS_cutS hy _ _) (okS_cutS hy _ _)) (by rw [len_app]; omega), rfl⟩
      · walk_at "rd"
        refine ⟨_, rfl, hys, ?_⟩
        walk_at "rd"
        refine ⟨Nat.le_trans (m := 200000) (by rw [ld]; omega) s64, ?_⟩
        walk_at "rd"
        refine ⟨_, rfl, hys, ?_⟩
        walk_at "rd"
        rw [e3]
        refine ⟨Nat.le_trans (m := 200000) (by rw [len_app, ld]; omega) s64, ?_⟩
        walk_at "rd"
        exact ⟨rfl, _, _, _, _, fin _ (okS_app (okS_app (okS_cutS hy _ _) okd) (okS_cutS hy _ _)) (by rw [len_app, len_app, ld]; omega), rfl⟩
  · rintro σ H1 ⟨rfl, y, v2, v3, v4, ⟨hy, hyl⟩, rfl⟩
    rw [List.length_map] at hyl
    walk_at "rd"
    exact k y hy (by omega)

theorem allS_mem {β : Type} {f : List Nat → Option β} : ∀ {ls : List (List Nat)} {bs : List β}, allS f ls = some bs → ∀ b ∈ bs, ∃ l ∈ ls, f l = some b
  | [], bs, h, b, hb => by cases h; cases hb
  | l :: r, bs, h, b, hb => by
    rw [allS_cons] at h
    cases hl : f l with
    | none => rw [hl] at h; cases h
    | some c =>
      rw [hl, Option.bind_some] at h
      cases hr : allS f r with
      | none => rw [hr] at h; cases h
      | some cs =>
        rw [hr] at h
        cases h
        rcases List.mem_cons.mp hb with e | hb
        · exact ⟨l, List.mem_cons_self .., by rw [hl, e]⟩
        · obtain ⟨m, hm, e⟩ := allS_mem hr b hb
          exact ⟨m, List.mem_cons_of_mem _ hm, e⟩
theorem plainS_few {l : List Nat} {r : R0} (h : plainS l = some r) : r.few := by
  cases r with
  | near i g => exact True.intro
  | ring i g => exact True.intro
  | key cols =>
    show cols.length ≤ 99000
    unfold plainS at h
    have hk : ∀ {o : Option Nat} {b : Bool}, (o.map fun k => R0.key [(k, b)]) = some (.key cols) → cols.length ≤ 99000 := fun {o b} e => by
      cases o with
      | none => cases e
      | some k => cases e; simp
    split at h
    · exact hk h
    · split at h
      · exact hk h
      · split at h
        · cases h
        · rename_i n hn
          split at h
          · cases hq : keyS (fst32 (rst32 l)) with
            | none => rw [hq] at h; cases h
            | some k =>
              rw [hq, Option.bind_some] at h
              split at h <;> cases h
          · split at h
            · cases hq : keyS (fst32 (rst32 l)) with
              | none => rw [hq] at h; cases h
              | some k =>
                rw [hq, Option.bind_some] at h
                split at h <;> cases h
            · cases h
theorem partS_few {l : List Nat} {r : R1} (h : partS l = some r) (hl : l.length < 99000) : r.few := by
  unfold partS at h
  split at h
  · cases hv : allS plainS (TL.spl [32, 124, 32] 0 [] (l.drop 6)) with
    | none => rw [hv] at h; cases h
    | some rs =>
      rw [hv] at h
      cases h
      refine ⟨fun r hr => ?_, ?_⟩
      · obtain ⟨m, _, e⟩ := allS_mem hv r hr
        exact plainS_few e
      · have h1 := allS_len hv
        have h2 := (spl_in [32, 124, 32] _ (l.drop 6) (Nat.le_refl _) 0 []).2
        rw [List.length_drop] at h2
        omega
  · cases hv : plainS l with
    | none => rw [hv] at h; cases h
    | some r =>
      rw [hv] at h
      cases h
      exact plainS_few hv
theorem ruleT_few {l : List Nat} {rs : List R1} (h : ruleT l = some rs) (hl : l.length < 99000) : (∀ r ∈ rs, r.few) ∧ rs.length ≤ 99000 := by
  unfold ruleT at h
  split at h
  · cases h
    exact ⟨fun r hr => (by cases hr), by simp⟩
  · obtain ⟨h1, h2⟩ := spl_in [44, 32] _ l (Nat.le_refl _) 0 []
    refine ⟨fun r hr => ?_, by have := allS_len h; omega⟩
    obtain ⟨m, hm, e⟩ := allS_mem h r hr
    exact partS_few e (by have := (h1 m hm).2; simp at this; omega)
theorem RT.goC {K : PySem.W.Frag} {A : Ad} {σ : L2.St} {H : Hp} {Q : VK} {E : XK} {te : TE} {rs : List R1} (f : ∀ r ∈ rs, r.few) (hn : rs.length ≤ 99000)
    (hte : ∀ {R : VK}, (∀ u H', Stp [] H H' → RT.At K A H' u rs → R (.ref u) H') → te σ H R) (q : ∀ H', Stp [] H H' → Q (.int (maxD (rs.map R1.wid))) H') :
    tOrE (tMeth A.Rule "widest" (sp_Rule_widest K A) [] E te tNil) (tOrE (tMeth A.ChainRule "widest" (sp_ChainRule_widest K A) [] E te tNil) (tOrE (tMeth A.VoteRule "widest" (sp_VoteRule_widest K A) [] E te tNil) (tOrE (tMeth A.KeyRule "widest" (sp_KeyRule_widest K A) [] E te tNil) (tOrE (tMeth A.NearRule "widest" (sp_NearRule_widest K A) [] E te tNil) (tMeth A.RingRule "widest" (sp_RingRule_widest K A) [] E te tNil))))) σ H Q := by
  match rs, f, hn, @hte, q with
  | [], f, hn, hte, q =>
    refine r_orL (SH.r_meth (hte fun u H' S hA => ?_))
    cases hA with
    | plain h => exact SH.v_meth h rfl ⟨u, rfl, q H' S⟩
    | chain h hl hR h2 => exact absurd rfl h2.2
  | [.one r], f, hn, hte, q =>
    rw [show maxD ([R1.one r].map R1.wid) = r.wid from maxD_one r.wid_low] at q
    have hf : r.few := f _ (List.mem_singleton.mpr rfl)
    have hte' : ∀ {R : VK}, (∀ u H', Stp [] H H' → R0.At K A H' u r → R (.ref u) H') → te σ H R := fun {R} z => hte fun u H' S hA => by
      cases hA with
      | part h => cases h with
        | one h => exact z u H' S h
      | chain h hl hR h2 => exact absurd rfl h2.1
    cases r with
    | key cols =>
      refine r_orR (r_orR (r_orR (r_orL (SH.r_meth (hte' fun u H' S hA => ?_)))))
      cases hA with
      | @key d l cvs cols h hl hc => exact SH.v_meth h rfl ⟨u, d, l, cvs, cols, rfl, h, ⟨SqL.of hl, hc, hf⟩, fun H'' S2 => q _ (S.trans S2)⟩
    | near i g =>
      refine r_orR (r_orR (r_orR (r_orR (r_orL (SH.r_meth (hte' fun u H' S hA => ?_))))))
      cases hA with
      | near h => exact SH.v_meth h rfl ⟨u, _, _, _, rfl, h, q _ S⟩
    | ring i g =>
      refine r_orR (r_orR (r_orR (r_orR (r_orR (SH.r_meth (hte' fun u H' S hA => ?_))))))
      cases hA with
      | ring h hm => exact SH.v_meth h rfl ⟨u, _, _, _, rfl, h, q _ S⟩
  | [.votes vs], f, hn, hte, q =>
    have hf : (∀ r ∈ vs, r.few) ∧ vs.length ≤ 99000 := f _ (List.mem_singleton.mpr rfl)
    rw [show maxD ([R1.votes vs].map R1.wid) = maxD (vs.map R0.wid) from maxD_one (maxD_low _)] at q
    refine r_orR (r_orR (r_orL (SH.r_meth (hte fun u H' S hA => ?_))))
    cases hA with
    | part h => cases h with
      | @votes d l uvs _ h hl hR => exact SH.v_meth h rfl ⟨u, d, l, uvs, vs, rfl, h, ⟨SqL.of hl, hR, hf.1, hf.2⟩, fun H'' S2 => q _ (S.trans S2)⟩
    | chain h hl hR h2 => exact absurd rfl h2.1
  | r1 :: r2 :: rr, f, hn, hte, q =>
    refine r_orR (r_orL (SH.r_meth (hte fun u H' S hA => ?_)))
    cases hA with
    | @chain d l uvs _ h hl hR h2 => exact SH.v_meth h rfl ⟨u, d, l, uvs, _, rfl, h, ⟨SqL.of hl, hR, f, hn⟩, fun H'' S2 => q _ (S.trans S2)⟩
def sp_law (K : PySem.W.Frag) (A : Ad) : Sp := lawSp K
theorem ok_law {P : Program} {w : World} {K : PySem.W.Frag} {mg : Str → Option Value} {base : Heap} {A : Ad} {f : Addr} {fd : FuncData} (F : Fun K "law" "law" s_law f fd) (T : Txt K mg A) (M_ChainRule_widest : SH.CalM P w K mg base CX0 3 A.ChainRule "widest" [] (sp_ChainRule_widest K A)) (M_KeyRule_widest : SH.CalM P w K mg base CX0 1 A.KeyRule "widest" [] (sp_KeyRule_widest K A)) (M_NearRule_widest : SH.CalM P w K mg base CX0 1 A.NearRule "widest" [] (sp_NearRule_widest K A)) (M_RingRule_widest : SH.CalM P w K mg base CX0 1 A.RingRule "widest" [] (sp_RingRule_widest K A)) (M_Rule_widest : SH.CalM P w K mg base CX0 1 A.Rule "widest" [] (sp_Rule_widest K A)) (M_VoteRule_widest : SH.CalM P w K mg base CX0 2 A.VoteRule "widest" [] (sp_VoteRule_widest K A)) (C__law_cell_at : SH.Cal P w K mg base CX0 1 "_law_cell_at" [] (sp__law_cell_at K A)) (C__law_odd : SH.Cal P w K mg base CX0 1 "_law_odd" [] (sp__law_odd K A)) (C__law_part : SH.Cal P w K mg base CX0 2 "_law_part" [] (sp__law_part K A)) (C__law_refused : SH.Cal P w K mg base CX0 7 "_law_refused" [] (sp__law_refused K A)) (C__law_spoiled : SH.Cal P w K mg base CX0 1 "_law_spoiled" [] (sp__law_spoiled K A)) (C__law_whole : SH.Cal P w K mg base CX0 1 "_law_whole" [] (sp__law_whole K A)) (C__law_widest : SH.Cal P w K mg base CX0 3 "_law_widest" [] (sp__law_widest K A)) (C_read_rule : SH.Cal P w K mg base (L2N.CX P w) 6 "read_rule" [] (sp_read_rule K A)) : FnOk P w K mg base CX0 8 f fd ["_law_script"] (sp_law K A) := by
  refine F.ok sc_law (fun vs H Q E h => by obtain ⟨_, _, rfl, _⟩ := h; rfl) (fun cdv A' outer s H vs Q E hr h => ?_)
  obtain ⟨a, ns, rfl, hS, hlen, k⟩ := h
  refine ⟨_, (pss_cons (ps_setLc (i := 1) (own := [("_law_k", 6)]) (g := (gName 6)) (tt := tYes) (by rfl) sc_law.nd rfl rfl (sw_true rfl rfl rfl (by decide +kernel)) (pi_range1 (by rfl) T.z_range (pa_cons (pe_op SH.oAdd pe_int (pe_op SH.oMod (SH.pe_callF C__law_cell_at hr (by rfl) pass0 (pa_cons (pv 0) (pa_cons pe_int pa_nil))) pe_int)) pa_nil)) (blkOk_by (own := [("_law_k", 6)]) (N := ["_law_script", "_law_parts", "_law_text", "_law_many", "_law_due", "_law_found", "_law_k"]) (sc := defScope s_law) (by decide +kernel)) (fun _ _ _ _ _ => (pg_name (i := 6) sc_law.nd rfl (Or.inl rfl))) (fun _ _ _ _ _ => pts_nil) (fun _ _ _ _ _ => (SH.pe_callF C__law_part hr (by rfl) pass0 (pa_cons (SH.pe_callF C__law_cell_at hr (by rfl) pass0 (pa_cons (pv 0) (pa_cons (pe_op (SH.opK SH.aAdd K SH.oAdd) pe_int (pv 6)) pa_nil))) pa_nil))))
        (pss_cons (ps_set (i := 2) sc_law.nd rfl (Or.inl rfl) (pe_bm PySem.F.plainAttrs_str PySem.F.slot_str_join PySem.F.type_str_join mt_join pe_str (pa_cons (pv 1) pa_nil)))
        (pss_cons (ps_set (i := 3) sc_law.nd rfl (Or.inl rfl) (pe_op SH.oMod (SH.pe_callF C__law_cell_at hr (by rfl) pass0 (pa_cons (pv 0) (pa_cons pe_int pa_nil))) pe_int))
        (pss_cons (ps_set (i := 2) sc_law.nd rfl (Or.inl rfl) (SH.pe_callF C__law_spoiled hr (by rfl) pass0 (pa_cons (pv 2) (pa_cons (pe_lc (own := [("_law_k", 6)]) (g := (gName 6)) (tt := tYes) (by rfl) sc_law.nd (pi_range1 (by rfl) T.z_range (pa_cons (pv 3) pa_nil)) (blkOk_by (own := [("_law_k", 6)]) (N := ["_law_script", "_law_parts", "_law_text", "_law_many", "_law_due", "_law_found", "_law_k"]) (sc := defScope s_law) (by decide +kernel)) (fun _ _ _ _ _ => (pg_name (i := 6) sc_law.nd rfl (Or.inl rfl))) (fun _ _ _ _ _ => pts_nil) (fun _ _ _ _ _ => (SH.pe_callF C__law_cell_at hr (by rfl) pass0 (pa_cons (pv 0) (pa_cons (pe_op (SH.opK SH.aAdd K SH.oAdd) pe_int (pv 6)) pa_nil))))) pa_nil))))
        (pss_cons (ps_if (pt_cmpR (SH.oEq hr.units) (pe_op SH.oMod (pe_op SH.oDiv (SH.pe_callF C__law_cell_at hr (by rfl) pass0 (pa_cons (pv 0) (pa_cons pe_int pa_nil))) pe_int) pe_int) pe_int (nomark _)) (pss_one (ps_set (i := 2) sc_law.nd rfl (Or.inl rfl) (SH.pe_callF C__law_odd hr (by rfl) pass0 (pa_cons (SH.pe_callF C__law_cell_at hr (by rfl) pass0 (pa_cons (pv 0) (pa_cons pe_int pa_nil))) pa_nil)))) pss_nil)
        (pss_cons (ps_if (pt_not (pt_val (SH.pe_callF C__law_refused hr (by rfl) pass0 (pa_cons (pe_ix SH.ixA (pe_lst (pa_cons pe_non (pa_cons pe_int (pa_cons (pe_lst (pa_cons pe_str pa_nil)) (pa_cons pe_bl (pa_cons (pe_tup (pa_cons pe_str (pa_cons pe_int pa_nil))) pa_nil)))))) (pe_op SH.oMod (pe_op SH.oDiv (SH.pe_callF C__law_cell_at hr (by rfl) pass0 (pa_cons (pv 0) (pa_cons pe_int pa_nil))) pe_int) pe_int) (fun _ _ => rfl)) pa_nil)))) (pss_one (ps_ret pe_bl)) pss_nil)
        (pss_cons (ps_set (i := 4) sc_law.nd rfl (Or.inl rfl) (SH.pe_callF C__law_widest hr (by rfl) pass0 (pa_cons (pv 2) pa_nil)))
        (pss_cons (ps_if (pt_cmpR SH.oIsN (pv 4) pe_non (nomark _)) (pss_one (ps_ret (SH.pe_callF C__law_refused hr (by rfl) pass0 (pa_cons (pv 2) pa_nil)))) pss_nil)
        (pss_cons (ps_set (i := 5) sc_law.nd rfl (Or.inl rfl) (SH.peOrE (SH.pe_methF0 (SH.pe_callF C_read_rule hr (by rfl) SH.passLN (pa_cons (pv 2) pa_nil)) M_Rule_widest hr pass0) (SH.peOrE (SH.pe_methF0 (SH.pe_callF C_read_rule hr (by rfl) SH.passLN (pa_cons (pv 2) pa_nil)) M_ChainRule_widest hr pass0) (SH.peOrE (SH.pe_methF0 (SH.pe_callF C_read_rule hr (by rfl) SH.passLN (pa_cons (pv 2) pa_nil)) M_VoteRule_widest hr pass0) (SH.peOrE (SH.pe_methF0 (SH.pe_callF C_read_rule hr (by rfl) SH.passLN (pa_cons (pv 2) pa_nil)) M_KeyRule_widest hr pass0) (SH.peOrE (SH.pe_methF0 (SH.pe_callF C_read_rule hr (by rfl) SH.passLN (pa_cons (pv 2) pa_nil)) M_NearRule_widest hr pass0) (SH.pe_methF0 (SH.pe_callF C_read_rule hr (by rfl) SH.passLN (pa_cons (pv 2) pa_nil)) M_RingRule_widest hr pass0)))))))
        (pss_one (ps_ret (pe_and (SH.pe_callF C__law_whole hr (by rfl) pass0 (pa_cons (pv 5) pa_nil)) (pe_one (pe_cmpR (SH.oEq hr.units) (pv 5) (pv 4) (nomark _))))))))))))))), ?_⟩
  walk_at "begin"
  walk_at "rd"
  refine ⟨a, ns, 0, rfl, hS, fun c0 => ?_⟩
  walk_at "rd"
  have w0 := Int.emod_nonneg c0 (show (3 : Int) ≠ 0 by decide)
  have w1 := Int.emod_lt_of_pos c0 (show (0 : Int) < 3 by decide)
  generalize c0 % 3 = m at w0 w1 ⊢
  intro D hD
  refine lc_it walk_range (fun j H' => Stp [] H H' ∧ ∃ ps : List Str, H' D = some (.lst (ps.map V.str)) ∧ ps.length = j ∧ ∀ p ∈ ps, okS p ∧ p.length ≤ 500) ⟨(Stp.refl _ _).new hD, [], upd_same, rfl, fun p hp => (by cases hp)⟩ (fun _ _ _ _ => True.intro) ?_ ?_
  · rintro j v H3 H4 hj ⟨S, ps, hL, hl, hps⟩ ⟨rfl, rfl⟩
    simp only [Int.zero_add]
    walk_at "rd"
    refine ⟨a, ns, 6 + j, rfl, S.sql0 hS, fun c => ?_⟩
    walk_at "rd"
    refine ⟨c, rfl, fun x H5 hx hxl S5 => ?_⟩
    refine ⟨_, S5.keep0 hL, Nat.lt_of_le_of_lt (m := 99000) (by simp; omega) (by decide), (S.trans S5).putN hD, ps ++ [x], by rw [upd_same, List.map_append]; rfl, by simp [hl], fun p hp => ?_⟩
    rcases List.mem_append.mp hp with z | z
    · exact hps p z
    · rw [List.mem_singleton] at z; subst z; exact ⟨hx, hxl⟩
  rintro H1 ⟨S1, ps, hL, hl, hps⟩
  have hl3 : ps.length ≤ 3 := by omega
  have e2 : (Str.ofString ", ").length = 2 := by rw [len_tl, tl_com]; rfl
  have ok2 : okS (Str.ofString ", ") := by unfold okS; rw [tl_com]; decide
  walk_at "rd"
  refine ⟨ty_str, ?_⟩
  walk_at "rd"
  have hjl : (Txt.join (Str.ofString ", ") ps).length ≤ 1600 := by
    have := join_len2 (y := Str.ofString ", ") (ps := ps) (m := 500) (fun p hp => (hps p hp).2) e2
    have h9 := Nat.mul_le_mul_right (500 + 2) hl3
    omega
  refine ⟨_, D, ps, rfl, rfl, .inl (SqL.of hL), ?_, ?_⟩
  · have h1 : (ps.map (·.length)).sum ≤ ps.length * 500 := sum_le fun p hp => (hps p hp).2
    have := Nat.mul_le_mul_right 500 hl3
    rw [e2]
    omega
  have hx0 : okS (Txt.join (Str.ofString ", ") ps) := okS_join ok2 fun p hp => (hps p hp).1
  generalize Txt.join (Str.ofString ", ") ps = x0 at hx0 hjl ⊢
  have hS1 := S1.sql0 hS
  walk_at "rd"
  refine ⟨a, ns, 1, rfl, hS1, fun c1 => ?_⟩
  walk_at "rd"
  have m0 := Int.emod_nonneg c1 (show (4 : Int) ≠ 0 by decide)
  have m1 := Int.emod_lt_of_pos c1 (show (0 : Int) < 4 by decide)
  generalize c1 % 4 = m2 at m0 m1 ⊢
  walk_at "rd"
  intro D2 hD2
  refine lc_it walk_range (fun j H' => Stp [] H1 H' ∧ ∃ cs : List Int, H' D2 = some (.lst (cs.map V.int)) ∧ cs.length = j) ⟨(Stp.refl _ _).new hD2, [], upd_same, rfl⟩ (fun _ _ _ _ => True.intro) ?_ ?_
  · rintro j v H3 H4 hj ⟨S, cs, hL, hl⟩ ⟨rfl, rfl⟩
    simp only [Int.zero_add]
    walk_at "rd"
    refine ⟨a, ns, 2 + j, rfl, S.sql0 hS1, fun c => ?_⟩
    refine ⟨_, hL, Nat.lt_of_le_of_lt (m := 99000) (by simp; omega) (by decide), S.putN hD2, cs ++ [c], by rw [upd_same, List.map_append]; rfl, by simp [hl]⟩
  rintro H2 ⟨S2, cs, hL2, hl2⟩
  walk_at "rd"
  refine ⟨x0, D2, cs, rfl, ⟨hx0, by omega, hL2, by omega⟩, fun x1 hx1 hxl1 => ?_⟩
  have hS2 := S2.sql0 hS1
  walk_at "ri"
  refine r_J (fun σ H' => Stp [] H2 H' ∧ ∃ x : Str, (okS x ∧ x.length ≤ 60003) ∧ σ = [some (.ref a), some (.ref D), some (.str x), some (.int m2), none, none, none]) ?_ fun N hN => ?_
  rotate_left
  · walk_at "rd"
    refine ⟨a, ns, 0, rfl, hS2, fun c0' => ?_⟩
    walk_at "rd"
    refine r_w (fun hc => ?_) fun hc => ?_
    · walk_at "rd"
      refine ⟨a, ns, 5, rfl, hS2, fun c5 => ?_⟩
      walk_at "rd"
      refine ⟨c5, rfl, fun y H3 hy hyl S3 => ?_⟩
      walk_at "rd"
      exact hN _ _ ⟨S3, y, ⟨hy, by omega⟩, rfl⟩
    · walk_at "rd"
      exact hN _ _ ⟨.refl _ _, x1, ⟨hx1, hxl1⟩, rfl⟩
  rintro σ H3 ⟨S3, x, ⟨hx, hxl⟩, rfl⟩
  dsimp only
  have hS3 := S3.sql0 hS2
  walk_at "rd"
  intro p hp
  have S4 := (Stp.refl [] H3).new (o := .lst [.str "up 0"]) hp
  have hp4 := upd_same (H := H3) (a := p) (o := .lst [.str "up 0"])
  generalize upd H3 p (.lst [.str "up 0"]) = H4 at S4 hp4 ⊢
  walk_at "rd"
  intro t ht
  have S5 := (Stp.refl [] H4).new (o := .tup [.str "up", .int 0]) ht
  have ht5 := upd_same (H := H4) (a := t) (o := .tup [.str "up", .int 0])
  generalize upd H4 t (.tup [.str "up", .int 0]) = H5 at S5 ht5 ⊢
  have hp5 := S5.keep0 hp4
  walk_at "rd"
  refine SH.v_lst (vs := [.non, .int 7, .ref p, .bl true, .ref t]) (by simp) fun l hl => ?_
  have S6 := (Stp.refl [] H5).new (o := .lst [.non, .int 7, .ref p, .bl true, .ref t]) hl
  have hl6 := upd_same (H := H5) (a := l) (o := .lst [.non, .int 7, .ref p, .bl true, .ref t])
  generalize upd H5 l (.lst [.non, .int 7, .ref p, .bl true, .ref t]) = H6 at S6 hl6 ⊢
  have hp6 := S6.keep0 hp5
  have ht6 := S6.keep0 ht5
  have hS6 := ((S4.trans S5).trans S6).sql0 hS3
  walk_at "rd"
  refine ⟨a, ns, 5, rfl, hS6, fun c5 => ?_⟩
  walk_at "rd"
  refine v_ixMod (m := 5) (SqL.of hl6) rfl (by decide) fun v hv => ?_
  have hno : ∀ H', Stp [] H6 H' → ∃ t, TyX K H' v t ∧ PySem.W.kitOne K t (.type "str") = some false := fun H' S => by
    simp only [List.mem_cons, List.not_mem_nil, or_false] at hv
    rcases hv with rfl | rfl | rfl | rfl | rfl
    · exact ⟨_, .base .non, rfl⟩
    · exact ⟨_, .base (.int _), rfl⟩
    · exact ⟨_, .base (.lst (S.keep0 hp6)), rfl⟩
    · exact ⟨_, .base (.bl _), rfl⟩
    · exact ⟨_, .base (.tup (S.keep0 ht6)), rfl⟩
  walk_at "rd"
  refine ⟨v, rfl, .inr hno, fun H7 S7 => ?_⟩
  walk_at "rd"
  refine ⟨x, rfl, ⟨hx, by omega⟩, fun H8 S8 => ?_⟩
  cases hr : ruleT (tl x) with
  | none =>
    rw [show widV ((none : Option (List R1)).map fun rs => maxD (rs.map R1.wid)) = .non from rfl]
    walk_at "rd"
    rw [if_pos (by rfl)]
    walk_at "rd"
    exact ⟨_, rfl, .inl ⟨x, rfl, ⟨hx, by omega⟩, hr⟩, fun H9 S9 => k _⟩
  | some rs =>
    rw [show widV ((some rs).map fun rs => maxD (rs.map R1.wid)) = .int (maxD (rs.map R1.wid)) from rfl]
    obtain ⟨f1, f2⟩ := ruleT_few hr (by rw [← len_tl]; omega)
    walk_at "rd"
    rw [if_neg (by simp)]
    walk_at "rd"
    refine RT.goC f1 f2 (fun {R} z => ?_) fun H9 S9 => ?_
    · walk_at "rd"
      exact ⟨_, rfl, .inl ⟨x, rfl, ⟨hx, by omega⟩, fun rs' u H' e S hA => z u H' S (by rw [hr] at e; cases e; exact hA), fun H' e => by rw [hr] at e; cases e⟩⟩
    · walk_at "rd"
      refine ⟨_, rfl, ?_⟩
      walk_at "rd"
      rw [decide_eq_true rfl]
      exact k _
theorem all_mk {l : PySem.W.OpenLaw} {w : World} {K : PySem.W.Frag} {h : Heap} {mg : Str → Option Value} {fa : Addr} (X : K.In h) (G : h.Ns mainGlobals mg) (hfa : mg "law" = some (.ref fa))
    {f1 f2 f3 f4 f5 f6 f7 f8 f9 f10 f11 f12 f13 f14 f15 f16 f17 f18 f19 f20 f21 f22 f23 f24 f25 f26 f27 f28 f29 c_HallError c_NoRule c_NoPaper c_NoPlace c_NoKey c_NoRow c_NoOrder c_TooFar c_Spent c_Rule c_KeyRule c_NearRule c_RingRule c_VoteRule c_ChainRule : Addr} {od1 an1 od2 an2 od3 an3 od4 an4 od5 an5 od6 an6 od7 an7 od8 an8 od9 an9 od10 an10 od11 an11 od12 an12 od13 an13 od14 an14 od15 an15 od16 an16 od17 an17 od18 an18 od19 an19 od20 an20 od21 an21 od22 an22 od23 an23 od24 an24 od25 an25 od26 an26 od27 an27 od28 an28 od29 an29 : Option Addr} {sl1 sl2 sl3 sl4 sl5 sl6 sl7 sl8 sl9 sl10 sl11 sl12 sl13 sl14 sl15 sl16 sl17 sl18 sl19 sl20 sl21 sl22 sl23 sl24 sl25 sl26 sl27 sl28 sl29 : Array (Option Value)} {oc1 kV1 dc1 pm1 cd1 ct1 oc2 kV2 dc2 pm2 cd2 ct2 oc3 kV3 dc3 pm3 cd3 ct3 oc4 kV4 dc4 pm4 cd4 ct4 oc5 kV5 dc5 pm5 cd5 ct5 oc6 kV6 dc6 pm6 cd6 ct6 oc7 kV7 dc7 pm7 cd7 ct7 oc8 kV8 dc8 pm8 cd8 ct8 oc9 kV9 dc9 pm9 cd9 ct9 oc10 kV10 dc10 pm10 cd10 ct10 oc11 kV11 dc11 pm11 cd11 ct11 oc12 kV12 dc12 pm12 cd12 ct12 oc13 kV13 dc13 pm13 cd13 ct13 oc14 kV14 dc14 pm14 cd14 ct14 oc15 kV15 dc15 pm15 cd15 ct15 oc16 kV16 dc16 pm16 cd16 ct16 oc17 kV17 dc17 pm17 cd17 ct17 oc18 kV18 dc18 pm18 cd18 ct18 oc19 kV19 dc19 pm19 cd19 ct19 oc20 kV20 dc20 pm20 cd20 ct20 oc21 kV21 dc21 pm21 cd21 ct21 oc22 kV22 dc22 pm22 cd22 ct22 oc23 kV23 dc23 pm23 cd23 ct23 oc24 kV24 dc24 pm24 cd24 ct24 oc25 kV25 dc25 pm25 cd25 ct25 oc26 kV26 dc26 pm26 cd26 ct26 oc27 kV27 dc27 pm27 cd27 ct27 oc28 kV28 dc28 pm28 cd28 ct28 oc29 kV29 dc29 pm29 cd29 ct29 : Value} {t_MOST_FIGURES t_LAST : Tok}
    (aC_HallError : PySem.W.nsIn K mainGlobals "HallError" = some (some (.ref c_HallError)))
    (xn_HallError : PySem.W.excIn K c_HallError [.type "ValueError", .type "Exception", .type "BaseException", .type "object"] "ValueError.__new__" = true)
    (kp_HallError : PySem.W.keepIn K (.ref c_HallError) = true)
    (sb_HallError : PySem.W.subIn K (.ref c_HallError) (.type "BaseException") = some true)
    (ty_HallError : PySem.W.typeIn K (.ref c_HallError) = some (.type "type"))
    (e0_HallError : PySem.W.findIn K (.ref c_HallError) "__getattribute__" = some (some (.builtin "BaseException.__getattribute__")))
    (e1_HallError : PySem.W.findIn K (.ref c_HallError) "__getattr__" = some none)
    (e2_HallError : PySem.W.subIn K (.ref c_HallError) (.type "BaseException") = some true)
    (e3_HallError : PySem.W.hasDictIn K c_HallError = true)
    (e4_HallError : PySem.W.findIn K (.ref c_HallError) "__class__" = some (some (.builtin "object.__class__")))
    (e5_HallError : PySem.W.specialIn K (.builtin "object.__class__") "__get__" = some (some (.builtin "getset_descriptor.__get__")))
    (e6_HallError : PySem.W.takesIn K (.builtin "object.__class__") = some true)
    (e7_HallError : PySem.W.mroIn K c_HallError (.type "object") = some true)
    (aC_NoRule : PySem.W.nsIn K mainGlobals "NoRule" = some (some (.ref c_NoRule)))
    (xn_NoRule : PySem.W.excIn K c_NoRule [.type "ValueError", .type "Exception", .type "BaseException", .type "object"] "ValueError.__new__" = true)
    (kp_NoRule : PySem.W.keepIn K (.ref c_NoRule) = true)
    (sb_NoRule : PySem.W.subIn K (.ref c_NoRule) (.type "BaseException") = some true)
    (ty_NoRule : PySem.W.typeIn K (.ref c_NoRule) = some (.type "type"))
    (e0_NoRule : PySem.W.findIn K (.ref c_NoRule) "__getattribute__" = some (some (.builtin "BaseException.__getattribute__")))
    (e1_NoRule : PySem.W.findIn K (.ref c_NoRule) "__getattr__" = some none)
    (e2_NoRule : PySem.W.subIn K (.ref c_NoRule) (.type "BaseException") = some true)
    (e3_NoRule : PySem.W.hasDictIn K c_NoRule = true)
    (e4_NoRule : PySem.W.findIn K (.ref c_NoRule) "__class__" = some (some (.builtin "object.__class__")))
    (e5_NoRule : PySem.W.specialIn K (.builtin "object.__class__") "__get__" = some (some (.builtin "getset_descriptor.__get__")))
    (e6_NoRule : PySem.W.takesIn K (.builtin "object.__class__") = some true)
    (e7_NoRule : PySem.W.mroIn K c_NoRule (.type "object") = some true)
    (aC_NoPaper : PySem.W.nsIn K mainGlobals "NoPaper" = some (some (.ref c_NoPaper)))
    (aC_NoPlace : PySem.W.nsIn K mainGlobals "NoPlace" = some (some (.ref c_NoPlace)))
    (aC_NoKey : PySem.W.nsIn K mainGlobals "NoKey" = some (some (.ref c_NoKey)))
    (aC_NoRow : PySem.W.nsIn K mainGlobals "NoRow" = some (some (.ref c_NoRow)))
    (aC_NoOrder : PySem.W.nsIn K mainGlobals "NoOrder" = some (some (.ref c_NoOrder)))
    (aC_TooFar : PySem.W.nsIn K mainGlobals "TooFar" = some (some (.ref c_TooFar)))
    (aC_Spent : PySem.W.nsIn K mainGlobals "Spent" = some (some (.ref c_Spent)))
    (aC_Rule : PySem.W.nsIn K mainGlobals "Rule" = some (some (.ref c_Rule)))
    (pg_Rule : PySem.W.plainGet K c_Rule Str.empty = true)
    (hd_Rule : PySem.W.hasDictIn K c_Rule = true)
    (po_Rule : PySem.W.plainOver K c_Rule = true)
    (sa_Rule : PySem.W.findIn K (.ref c_Rule) "__setattr__" = some (some (.builtin "object.__setattr__")))
    (mk_Rule : PySem.W.makesIn K c_Rule = true)
    (kc_Rule : PySem.W.keepIn K (.ref c_Rule) = true)
    (ip_Rule : PySem.W.findIn K (.ref c_Rule) "__init__" = some (some (.builtin "object.__init__")))
    (aC_KeyRule : PySem.W.nsIn K mainGlobals "KeyRule" = some (some (.ref c_KeyRule)))
    (pg_KeyRule : PySem.W.plainGet K c_KeyRule Str.empty = true)
    (hd_KeyRule : PySem.W.hasDictIn K c_KeyRule = true)
    (po_KeyRule : PySem.W.plainOver K c_KeyRule = true)
    (sa_KeyRule : PySem.W.findIn K (.ref c_KeyRule) "__setattr__" = some (some (.builtin "object.__setattr__")))
    (mk_KeyRule : PySem.W.makesIn K c_KeyRule = true)
    (kc_KeyRule : PySem.W.keepIn K (.ref c_KeyRule) = true)
    (na_KeyRule_columns : PySem.W.findIn K (.ref c_KeyRule) "columns" = some none)
    (aC_NearRule : PySem.W.nsIn K mainGlobals "NearRule" = some (some (.ref c_NearRule)))
    (pg_NearRule : PySem.W.plainGet K c_NearRule Str.empty = true)
    (hd_NearRule : PySem.W.hasDictIn K c_NearRule = true)
    (po_NearRule : PySem.W.plainOver K c_NearRule = true)
    (sa_NearRule : PySem.W.findIn K (.ref c_NearRule) "__setattr__" = some (some (.builtin "object.__setattr__")))
    (mk_NearRule : PySem.W.makesIn K c_NearRule = true)
    (kc_NearRule : PySem.W.keepIn K (.ref c_NearRule) = true)
    (na_NearRule_at : PySem.W.findIn K (.ref c_NearRule) "at" = some none)
    (na_NearRule_gap : PySem.W.findIn K (.ref c_NearRule) "gap" = some none)
    (aC_RingRule : PySem.W.nsIn K mainGlobals "RingRule" = some (some (.ref c_RingRule)))
    (pg_RingRule : PySem.W.plainGet K c_RingRule Str.empty = true)
    (hd_RingRule : PySem.W.hasDictIn K c_RingRule = true)
    (po_RingRule : PySem.W.plainOver K c_RingRule = true)
    (sa_RingRule : PySem.W.findIn K (.ref c_RingRule) "__setattr__" = some (some (.builtin "object.__setattr__")))
    (mk_RingRule : PySem.W.makesIn K c_RingRule = true)
    (kc_RingRule : PySem.W.keepIn K (.ref c_RingRule) = true)
    (na_RingRule_at : PySem.W.findIn K (.ref c_RingRule) "at" = some none)
    (na_RingRule_size : PySem.W.findIn K (.ref c_RingRule) "size" = some none)
    (aC_VoteRule : PySem.W.nsIn K mainGlobals "VoteRule" = some (some (.ref c_VoteRule)))
    (pg_VoteRule : PySem.W.plainGet K c_VoteRule Str.empty = true)
    (hd_VoteRule : PySem.W.hasDictIn K c_VoteRule = true)
    (po_VoteRule : PySem.W.plainOver K c_VoteRule = true)
    (sa_VoteRule : PySem.W.findIn K (.ref c_VoteRule) "__setattr__" = some (some (.builtin "object.__setattr__")))
    (mk_VoteRule : PySem.W.makesIn K c_VoteRule = true)
    (kc_VoteRule : PySem.W.keepIn K (.ref c_VoteRule) = true)
    (na_VoteRule_rules : PySem.W.findIn K (.ref c_VoteRule) "rules" = some none)
    (aC_ChainRule : PySem.W.nsIn K mainGlobals "ChainRule" = some (some (.ref c_ChainRule)))
    (pg_ChainRule : PySem.W.plainGet K c_ChainRule Str.empty = true)
    (hd_ChainRule : PySem.W.hasDictIn K c_ChainRule = true)
    (po_ChainRule : PySem.W.plainOver K c_ChainRule = true)
    (sa_ChainRule : PySem.W.findIn K (.ref c_ChainRule) "__setattr__" = some (some (.builtin "object.__setattr__")))
    (mk_ChainRule : PySem.W.makesIn K c_ChainRule = true)
    (kc_ChainRule : PySem.W.keepIn K (.ref c_ChainRule) = true)
    (na_ChainRule_rules : PySem.W.findIn K (.ref c_ChainRule) "rules" = some none)
    (a1 : PySem.W.nsIn K mainGlobals "_law_cell_at" = some (some (.ref f1)))
    (l1 : K.lookup f1 = some ⟨oc1, od1, .func (PySem.W.fnOf "_law_cell_at" "_law_cell_at" (defArgs s__law_cell_at) (defBody s__law_cell_at) (defScope s__law_cell_at) .none kV1 dc1 pm1 an1 cd1 ct1), sl1⟩)
    (c1 : PySem.W.codeIn K cd1 "_law_cell_at" = true)
    (k1 : PySem.W.keepIn K (.ref f1) = true)
    (a2 : PySem.W.nsIn K mainGlobals "number_in" = some (some (.ref f2)))
    (l2 : K.lookup f2 = some ⟨oc2, od2, .func (PySem.W.fnOf "number_in" "number_in" (defArgs s_number_in) (defBody s_number_in) (defScope s_number_in) .none kV2 dc2 pm2 an2 cd2 ct2), sl2⟩)
    (c2 : PySem.W.codeIn K cd2 "number_in" = true)
    (k2 : PySem.W.keepIn K (.ref f2) = true)
    (a3 : PySem.W.nsIn K mainGlobals "key_in" = some (some (.ref f3)))
    (l3 : K.lookup f3 = some ⟨oc3, od3, .func (PySem.W.fnOf "key_in" "key_in" (defArgs s_key_in) (defBody s_key_in) (defScope s_key_in) .none kV3 dc3 pm3 an3 cd3 ct3), sl3⟩)
    (c3 : PySem.W.codeIn K cd3 "key_in" = true)
    (k3 : PySem.W.keepIn K (.ref f3) = true)
    (a4 : PySem.W.nsIn K mainGlobals "good" = some (some (.ref f4)))
    (l4 : K.lookup f4 = some ⟨oc4, od4, .func (PySem.W.fnOf "good" "good" (defArgs s_good) (defBody s_good) (defScope s_good) .none kV4 dc4 pm4 an4 cd4 ct4), sl4⟩)
    (c4 : PySem.W.codeIn K cd4 "good" = true)
    (k4 : PySem.W.keepIn K (.ref f4) = true)
    (a5_KeyRule : PySem.W.findIn K (.ref c_KeyRule) "__init__" = some (some (.ref f5)))
    (i5 : PySem.W.isFn K (.ref f5) = true)
    (l5 : K.lookup f5 = some ⟨oc5, od5, .func (PySem.W.fnOf "__init__" "KeyRule.__init__" (defArgs s_KeyRule___init__) (defBody s_KeyRule___init__) (defScope s_KeyRule___init__) .none kV5 dc5 pm5 an5 cd5 ct5), sl5⟩)
    (c5 : PySem.W.codeIn K cd5 "KeyRule.__init__" = true)
    (k5 : PySem.W.keepIn K (.ref f5) = true)
    (a6_NearRule : PySem.W.findIn K (.ref c_NearRule) "__init__" = some (some (.ref f6)))
    (i6 : PySem.W.isFn K (.ref f6) = true)
    (l6 : K.lookup f6 = some ⟨oc6, od6, .func (PySem.W.fnOf "__init__" "NearRule.__init__" (defArgs s_NearRule___init__) (defBody s_NearRule___init__) (defScope s_NearRule___init__) .none kV6 dc6 pm6 an6 cd6 ct6), sl6⟩)
    (c6 : PySem.W.codeIn K cd6 "NearRule.__init__" = true)
    (k6 : PySem.W.keepIn K (.ref f6) = true)
    (a7_RingRule : PySem.W.findIn K (.ref c_RingRule) "__init__" = some (some (.ref f7)))
    (i7 : PySem.W.isFn K (.ref f7) = true)
    (l7 : K.lookup f7 = some ⟨oc7, od7, .func (PySem.W.fnOf "__init__" "RingRule.__init__" (defArgs s_RingRule___init__) (defBody s_RingRule___init__) (defScope s_RingRule___init__) .none kV7 dc7 pm7 an7 cd7 ct7), sl7⟩)
    (c7 : PySem.W.codeIn K cd7 "RingRule.__init__" = true)
    (k7 : PySem.W.keepIn K (.ref f7) = true)
    (a8_VoteRule : PySem.W.findIn K (.ref c_VoteRule) "__init__" = some (some (.ref f8)))
    (i8 : PySem.W.isFn K (.ref f8) = true)
    (l8 : K.lookup f8 = some ⟨oc8, od8, .func (PySem.W.fnOf "__init__" "VoteRule.__init__" (defArgs s_VoteRule___init__) (defBody s_VoteRule___init__) (defScope s_VoteRule___init__) .none kV8 dc8 pm8 an8 cd8 ct8), sl8⟩)
    (c8 : PySem.W.codeIn K cd8 "VoteRule.__init__" = true)
    (k8 : PySem.W.keepIn K (.ref f8) = true)
    (a9_ChainRule : PySem.W.findIn K (.ref c_ChainRule) "__init__" = some (some (.ref f9)))
    (i9 : PySem.W.isFn K (.ref f9) = true)
    (l9 : K.lookup f9 = some ⟨oc9, od9, .func (PySem.W.fnOf "__init__" "ChainRule.__init__" (defArgs s_ChainRule___init__) (defBody s_ChainRule___init__) (defScope s_ChainRule___init__) .none kV9 dc9 pm9 an9 cd9 ct9), sl9⟩)
    (c9 : PySem.W.codeIn K cd9 "ChainRule.__init__" = true)
    (k9 : PySem.W.keepIn K (.ref f9) = true)
    (a10 : PySem.W.nsIn K mainGlobals "plain_rule" = some (some (.ref f10)))
    (l10 : K.lookup f10 = some ⟨oc10, od10, .func (PySem.W.fnOf "plain_rule" "plain_rule" (defArgs s_plain_rule) (defBody s_plain_rule) (defScope s_plain_rule) .none kV10 dc10 pm10 an10 cd10 ct10), sl10⟩)
    (c10 : PySem.W.codeIn K cd10 "plain_rule" = true)
    (k10 : PySem.W.keepIn K (.ref f10) = true)
    (a11 : PySem.W.nsIn K mainGlobals "part_rule" = some (some (.ref f11)))
    (l11 : K.lookup f11 = some ⟨oc11, od11, .func (PySem.W.fnOf "part_rule" "part_rule" (defArgs s_part_rule) (defBody s_part_rule) (defScope s_part_rule) .none kV11 dc11 pm11 an11 cd11 ct11), sl11⟩)
    (c11 : PySem.W.codeIn K cd11 "part_rule" = true)
    (k11 : PySem.W.keepIn K (.ref f11) = true)
    (a12 : PySem.W.nsIn K mainGlobals "read_rule" = some (some (.ref f12)))
    (l12 : K.lookup f12 = some ⟨oc12, od12, .func (PySem.W.fnOf "read_rule" "read_rule" (defArgs s_read_rule) (defBody s_read_rule) (defScope s_read_rule) .none kV12 dc12 pm12 an12 cd12 ct12), sl12⟩)
    (c12 : PySem.W.codeIn K cd12 "read_rule" = true)
    (k12 : PySem.W.keepIn K (.ref f12) = true)
    (a13_KeyRule : PySem.W.findIn K (.ref c_KeyRule) "widest" = some (some (.ref f13)))
    (i13 : PySem.W.isFn K (.ref f13) = true)
    (l13 : K.lookup f13 = some ⟨oc13, od13, .func (PySem.W.fnOf "widest" "KeyRule.widest" (defArgs s_KeyRule_widest) (defBody s_KeyRule_widest) (defScope s_KeyRule_widest) .none kV13 dc13 pm13 an13 cd13 ct13), sl13⟩)
    (c13 : PySem.W.codeIn K cd13 "KeyRule.widest" = true)
    (k13 : PySem.W.keepIn K (.ref f13) = true)
    (a14_NearRule : PySem.W.findIn K (.ref c_NearRule) "widest" = some (some (.ref f14)))
    (i14 : PySem.W.isFn K (.ref f14) = true)
    (l14 : K.lookup f14 = some ⟨oc14, od14, .func (PySem.W.fnOf "widest" "NearRule.widest" (defArgs s_NearRule_widest) (defBody s_NearRule_widest) (defScope s_NearRule_widest) .none kV14 dc14 pm14 an14 cd14 ct14), sl14⟩)
    (c14 : PySem.W.codeIn K cd14 "NearRule.widest" = true)
    (k14 : PySem.W.keepIn K (.ref f14) = true)
    (a15_RingRule : PySem.W.findIn K (.ref c_RingRule) "widest" = some (some (.ref f15)))
    (i15 : PySem.W.isFn K (.ref f15) = true)
    (l15 : K.lookup f15 = some ⟨oc15, od15, .func (PySem.W.fnOf "widest" "RingRule.widest" (defArgs s_RingRule_widest) (defBody s_RingRule_widest) (defScope s_RingRule_widest) .none kV15 dc15 pm15 an15 cd15 ct15), sl15⟩)
    (c15 : PySem.W.codeIn K cd15 "RingRule.widest" = true)
    (k15 : PySem.W.keepIn K (.ref f15) = true)
    (a16_VoteRule : PySem.W.findIn K (.ref c_VoteRule) "widest" = some (some (.ref f16)))
    (i16 : PySem.W.isFn K (.ref f16) = true)
    (l16 : K.lookup f16 = some ⟨oc16, od16, .func (PySem.W.fnOf "widest" "VoteRule.widest" (defArgs s_VoteRule_widest) (defBody s_VoteRule_widest) (defScope s_VoteRule_widest) .none kV16 dc16 pm16 an16 cd16 ct16), sl16⟩)
    (c16 : PySem.W.codeIn K cd16 "VoteRule.widest" = true)
    (k16 : PySem.W.keepIn K (.ref f16) = true)
    (a17_ChainRule : PySem.W.findIn K (.ref c_ChainRule) "widest" = some (some (.ref f17)))
    (i17 : PySem.W.isFn K (.ref f17) = true)
    (l17 : K.lookup f17 = some ⟨oc17, od17, .func (PySem.W.fnOf "widest" "ChainRule.widest" (defArgs s_ChainRule_widest) (defBody s_ChainRule_widest) (defScope s_ChainRule_widest) .none kV17 dc17 pm17 an17 cd17 ct17), sl17⟩)
    (c17 : PySem.W.codeIn K cd17 "ChainRule.widest" = true)
    (k17 : PySem.W.keepIn K (.ref f17) = true)
    (a18_Rule : PySem.W.findIn K (.ref c_Rule) "widest" = some (some (.ref f18)))
    (i18 : PySem.W.isFn K (.ref f18) = true)
    (l18 : K.lookup f18 = some ⟨oc18, od18, .func (PySem.W.fnOf "widest" "Rule.widest" (defArgs s_Rule_widest) (defBody s_Rule_widest) (defScope s_Rule_widest) .none kV18 dc18 pm18 an18 cd18 ct18), sl18⟩)
    (c18 : PySem.W.codeIn K cd18 "Rule.widest" = true)
    (k18 : PySem.W.keepIn K (.ref f18) = true)
    (a19 : PySem.W.nsIn K mainGlobals "_law_refused" = some (some (.ref f19)))
    (l19 : K.lookup f19 = some ⟨oc19, od19, .func (PySem.W.fnOf "_law_refused" "_law_refused" (defArgs s__law_refused) (defBody s__law_refused) (defScope s__law_refused) .none kV19 dc19 pm19 an19 cd19 ct19), sl19⟩)
    (c19 : PySem.W.codeIn K cd19 "_law_refused" = true)
    (k19 : PySem.W.keepIn K (.ref f19) = true)
    (a20 : PySem.W.nsIn K mainGlobals "_law_key" = some (some (.ref f20)))
    (l20 : K.lookup f20 = some ⟨oc20, od20, .func (PySem.W.fnOf "_law_key" "_law_key" (defArgs s__law_key) (defBody s__law_key) (defScope s__law_key) .none kV20 dc20 pm20 an20 cd20 ct20), sl20⟩)
    (c20 : PySem.W.codeIn K cd20 "_law_key" = true)
    (k20 : PySem.W.keepIn K (.ref f20) = true)
    (a21 : PySem.W.nsIn K mainGlobals "_law_whole" = some (some (.ref f21)))
    (l21 : K.lookup f21 = some ⟨oc21, od21, .func (PySem.W.fnOf "_law_whole" "_law_whole" (defArgs s__law_whole) (defBody s__law_whole) (defScope s__law_whole) .none kV21 dc21 pm21 an21 cd21 ct21), sl21⟩)
    (c21 : PySem.W.codeIn K cd21 "_law_whole" = true)
    (k21 : PySem.W.keepIn K (.ref f21) = true)
    (a22 : PySem.W.nsIn K mainGlobals "_law_number" = some (some (.ref f22)))
    (l22 : K.lookup f22 = some ⟨oc22, od22, .func (PySem.W.fnOf "_law_number" "_law_number" (defArgs s__law_number) (defBody s__law_number) (defScope s__law_number) .none kV22 dc22 pm22 an22 cd22 ct22), sl22⟩)
    (c22 : PySem.W.codeIn K cd22 "_law_number" = true)
    (k22 : PySem.W.keepIn K (.ref f22) = true)
    (a23 : PySem.W.nsIn K mainGlobals "_law_plain_key" = some (some (.ref f23)))
    (l23 : K.lookup f23 = some ⟨oc23, od23, .func (PySem.W.fnOf "_law_plain_key" "_law_plain_key" (defArgs s__law_plain_key) (defBody s__law_plain_key) (defScope s__law_plain_key) .none kV23 dc23 pm23 an23 cd23 ct23), sl23⟩)
    (c23 : PySem.W.codeIn K cd23 "_law_plain_key" = true)
    (k23 : PySem.W.keepIn K (.ref f23) = true)
    (a24 : PySem.W.nsIn K mainGlobals "_law_widest" = some (some (.ref f24)))
    (l24 : K.lookup f24 = some ⟨oc24, od24, .func (PySem.W.fnOf "_law_widest" "_law_widest" (defArgs s__law_widest) (defBody s__law_widest) (defScope s__law_widest) .none kV24 dc24 pm24 an24 cd24 ct24), sl24⟩)
    (c24 : PySem.W.codeIn K cd24 "_law_widest" = true)
    (k24 : PySem.W.keepIn K (.ref f24) = true)
    (a25 : PySem.W.nsIn K mainGlobals "_law_plain" = some (some (.ref f25)))
    (l25 : K.lookup f25 = some ⟨oc25, od25, .func (PySem.W.fnOf "_law_plain" "_law_plain" (defArgs s__law_plain) (defBody s__law_plain) (defScope s__law_plain) .none kV25 dc25 pm25 an25 cd25 ct25), sl25⟩)
    (c25 : PySem.W.codeIn K cd25 "_law_plain" = true)
    (k25 : PySem.W.keepIn K (.ref f25) = true)
    (a26 : PySem.W.nsIn K mainGlobals "_law_part" = some (some (.ref f26)))
    (l26 : K.lookup f26 = some ⟨oc26, od26, .func (PySem.W.fnOf "_law_part" "_law_part" (defArgs s__law_part) (defBody s__law_part) (defScope s__law_part) .none kV26 dc26 pm26 an26 cd26 ct26), sl26⟩)
    (c26 : PySem.W.codeIn K cd26 "_law_part" = true)
    (k26 : PySem.W.keepIn K (.ref f26) = true)
    (a27 : PySem.W.nsIn K mainGlobals "_law_odd" = some (some (.ref f27)))
    (l27 : K.lookup f27 = some ⟨oc27, od27, .func (PySem.W.fnOf "_law_odd" "_law_odd" (defArgs s__law_odd) (defBody s__law_odd) (defScope s__law_odd) .none kV27 dc27 pm27 an27 cd27 ct27), sl27⟩)
    (c27 : PySem.W.codeIn K cd27 "_law_odd" = true)
    (k27 : PySem.W.keepIn K (.ref f27) = true)
    (a28 : PySem.W.nsIn K mainGlobals "_law_spoiled" = some (some (.ref f28)))
    (l28 : K.lookup f28 = some ⟨oc28, od28, .func (PySem.W.fnOf "_law_spoiled" "_law_spoiled" (defArgs s__law_spoiled) (defBody s__law_spoiled) (defScope s__law_spoiled) .none kV28 dc28 pm28 an28 cd28 ct28), sl28⟩)
    (c28 : PySem.W.codeIn K cd28 "_law_spoiled" = true)
    (k28 : PySem.W.keepIn K (.ref f28) = true)
    (a29 : PySem.W.nsIn K mainGlobals "law" = some (some (.ref f29)))
    (l29 : K.lookup f29 = some ⟨oc29, od29, .func (PySem.W.fnOf "law" "law" (defArgs s_law) (defBody s_law) (defScope s_law) .none kV29 dc29 pm29 an29 cd29 ct29), sl29⟩)
    (c29 : PySem.W.codeIn K cd29 "law" = true)
    (k29 : PySem.W.keepIn K (.ref f29) = true)
    (z_ValueError : PySem.W.nsIn K mainGlobals "ValueError" = some none)
    (z_int : PySem.W.nsIn K mainGlobals "int" = some none)
    (z_list : PySem.W.nsIn K mainGlobals "list" = some none)
    (z_max : PySem.W.nsIn K mainGlobals "max" = some none)
    (z_isinstance : PySem.W.nsIn K mainGlobals "isinstance" = some none)
    (z_str : PySem.W.nsIn K mainGlobals "str" = some none)
    (z_len : PySem.W.nsIn K mainGlobals "len" = some none)
    (z_bool : PySem.W.nsIn K mainGlobals "bool" = some none)
    (z_range : PySem.W.nsIn K mainGlobals "range" = some none)
    (xs_NoRule_HallError : PySem.W.subIn K (.ref c_NoRule) (.ref c_HallError) = some true)
    (kits_NoRule_ValueError : PySem.W.kitOne K (.ref c_NoRule) (.type "ValueError") = some true)
    (kits_NoRule_NoRow : PySem.W.kitOne K (.ref c_NoRule) (.ref c_NoRow) = some false)
    (kits_NoRule_NoRule : PySem.W.kitOne K (.ref c_NoRule) (.ref c_NoRule) = some true)
    (kits_NoRule_NoPlace : PySem.W.kitOne K (.ref c_NoRule) (.ref c_NoPlace) = some false)
    (kits_NoRule_NoKey : PySem.W.kitOne K (.ref c_NoRule) (.ref c_NoKey) = some false)
    (kits_NoRule_NoPaper : PySem.W.kitOne K (.ref c_NoRule) (.ref c_NoPaper) = some false)
    (kits_NoRule_NoOrder : PySem.W.kitOne K (.ref c_NoRule) (.ref c_NoOrder) = some false)
    (kits_NoRule_TooFar : PySem.W.kitOne K (.ref c_NoRule) (.ref c_TooFar) = some false)
    (kits_NoRule_Spent : PySem.W.kitOne K (.ref c_NoRule) (.ref c_Spent) = some false)
    (kk_MOST_FIGURES : PySem.W.nsIn K mainGlobals "MOST_FIGURES" = some (some (.int 60 t_MOST_FIGURES)))
    (kk_LAST : PySem.W.nsIn K mainGlobals "LAST" = some (some (.int 7 t_LAST))) :
    ∃ fd : FuncData, (∀ (s : Shared) (v : Value), BindsTo s fd ⟨[v], []⟩ [("_law_script", v)]) ∧ ∀ base : Heap, K.In base → base.Ns mainGlobals mg → ∃ A : Ad, FnOk l.prog w K mg base CX0 8 fa fd ["_law_script"] (sp_law K A) := by
  have e := hfa.symm.trans (PySem.W.mg_of X G a29)
  cases e
  let A : Ad := ⟨c_HallError, c_NoRule, c_NoPaper, c_NoPlace, c_NoKey, c_NoRow, c_NoOrder, c_TooFar, c_Spent, c_Rule, c_KeyRule, c_NearRule, c_RingRule, c_VoteRule, c_ChainRule⟩
  have T : Txt K mg A := ⟨PySem.W.mg_none_of X G z_ValueError, PySem.W.mg_none_of X G z_int, PySem.W.mg_none_of X G z_list, PySem.W.mg_none_of X G z_max, PySem.W.mg_none_of X G z_isinstance, PySem.W.mg_none_of X G z_str, PySem.W.mg_none_of X G z_len, PySem.W.mg_none_of X G z_bool, PySem.W.mg_none_of X G z_range, PySem.W.mg_of X G aC_HallError, xn_HallError, kp_HallError, sb_HallError, ty_HallError, ⟨e0_HallError, e1_HallError, e2_HallError, e3_HallError, e4_HallError, e5_HallError, e6_HallError, e7_HallError⟩, PySem.W.mg_of X G aC_NoRule, xn_NoRule, kp_NoRule, sb_NoRule, ty_NoRule, ⟨e0_NoRule, e1_NoRule, e2_NoRule, e3_NoRule, e4_NoRule, e5_NoRule, e6_NoRule, e7_NoRule⟩, PySem.W.mg_of X G aC_NoPaper, PySem.W.mg_of X G aC_NoPlace, PySem.W.mg_of X G aC_NoKey, PySem.W.mg_of X G aC_NoRow, PySem.W.mg_of X G aC_NoOrder, PySem.W.mg_of X G aC_TooFar, PySem.W.mg_of X G aC_Spent, PySem.W.mg_of X G aC_Rule, ⟨pg_Rule, hd_Rule, po_Rule, sa_Rule⟩, PySem.W.mg_of X G aC_KeyRule, ⟨pg_KeyRule, hd_KeyRule, po_KeyRule, sa_KeyRule⟩, na_KeyRule_columns, PySem.W.mg_of X G aC_NearRule, ⟨pg_NearRule, hd_NearRule, po_NearRule, sa_NearRule⟩, na_NearRule_at, na_NearRule_gap, PySem.W.mg_of X G aC_RingRule, ⟨pg_RingRule, hd_RingRule, po_RingRule, sa_RingRule⟩, na_RingRule_at, na_RingRule_size, PySem.W.mg_of X G aC_VoteRule, ⟨pg_VoteRule, hd_VoteRule, po_VoteRule, sa_VoteRule⟩, na_VoteRule_rules, PySem.W.mg_of X G aC_ChainRule, ⟨pg_ChainRule, hd_ChainRule, po_ChainRule, sa_ChainRule⟩, na_ChainRule_rules, ⟨_, PySem.W.mg_of X G kk_MOST_FIGURES, _, rfl⟩, ⟨_, PySem.W.mg_of X G kk_LAST, _, rfl⟩, PySem.W.exm_ref sb_HallError e3_HallError ty_HallError xs_NoRule_HallError, kits_NoRule_ValueError, kits_NoRule_NoRow, kits_NoRule_NoRule, kits_NoRule_NoPlace, kits_NoRule_NoKey, kits_NoRule_NoPaper, kits_NoRule_NoOrder, kits_NoRule_TooFar, kits_NoRule_Spent, ⟨mk_Rule, ip_Rule, kc_Rule⟩⟩
  have F1 := fun_mk (st := s__law_cell_at) l1 c1 k1
  have F2 := fun_mk (st := s_number_in) l2 c2 k2
  have F3 := fun_mk (st := s_key_in) l3 c3 k3
  have F4 := fun_mk (st := s_good) l4 c4 k4
  have F5 := fun_mk (st := s_KeyRule___init__) l5 c5 k5
  have F6 := fun_mk (st := s_NearRule___init__) l6 c6 k6
  have F7 := fun_mk (st := s_RingRule___init__) l7 c7 k7
  have F8 := fun_mk (st := s_VoteRule___init__) l8 c8 k8
  have F9 := fun_mk (st := s_ChainRule___init__) l9 c9 k9
  have F10 := fun_mk (st := s_plain_rule) l10 c10 k10
  have F11 := fun_mk (st := s_part_rule) l11 c11 k11
  have F12 := fun_mk (st := s_read_rule) l12 c12 k12
  have F13 := fun_mk (st := s_KeyRule_widest) l13 c13 k13
  have F14 := fun_mk (st := s_NearRule_widest) l14 c14 k14
  have F15 := fun_mk (st := s_RingRule_widest) l15 c15 k15
  have F16 := fun_mk (st := s_VoteRule_widest) l16 c16 k16
  have F17 := fun_mk (st := s_ChainRule_widest) l17 c17 k17
  have F18 := fun_mk (st := s_Rule_widest) l18 c18 k18
  have F19 := fun_mk (st := s__law_refused) l19 c19 k19
  have F20 := fun_mk (st := s__law_key) l20 c20 k20
  have F21 := fun_mk (st := s__law_whole) l21 c21 k21
  have F22 := fun_mk (st := s__law_number) l22 c22 k22
  have F23 := fun_mk (st := s__law_plain_key) l23 c23 k23
  have F24 := fun_mk (st := s__law_widest) l24 c24 k24
  have F25 := fun_mk (st := s__law_plain) l25 c25 k25
  have F26 := fun_mk (st := s__law_part) l26 c26 k26
  have F27 := fun_mk (st := s__law_odd) l27 c27 k27
  have F28 := fun_mk (st := s__law_spoiled) l28 c28 k28
  have F29 := fun_mk (st := s_law) l29 c29 k29
  refine ⟨PySem.W.fnOf "law" "law" (defArgs s_law) (defBody s_law) (defScope s_law) .none kV29 dc29 pm29 an29 cd29 ct29, fun s v => .of_eq rfl, fun base _ _ => ⟨A, ?_⟩⟩
  have O__law_cell_at := ok__law_cell_at (P := l.prog) (w := w) (base := base) F1 T 
  have O_number_in := ok_number_in (P := l.prog) (w := w) (base := base) F2 T 
  have O_key_in := ok_key_in (P := l.prog) (w := w) (base := base) F3 T 
  have O_good := ok_good (P := l.prog) (w := w) (base := base) F4 T 
  have X1 : SH.Cal l.prog w K mg base CX0 _ "good" [] _ := ⟨f4, _, _, _, PySem.W.mg_of X G a4, k4, (F4.binds (ps := ["at"]) fun _ _ _ _ _ _ us hl => match us, hl with | [_], _ => rfl), .nil, O_good⟩
  have O_KeyRule___init__ := ok_KeyRule___init__ (P := l.prog) (w := w) (base := base) F5 T X1
  have O_NearRule___init__ := ok_NearRule___init__ (P := l.prog) (w := w) (base := base) F6 T X1
  have O_RingRule___init__ := ok_RingRule___init__ (P := l.prog) (w := w) (base := base) F7 T X1
  have O_VoteRule___init__ := ok_VoteRule___init__ (P := l.prog) (w := w) (base := base) F8 T 
  have O_ChainRule___init__ := ok_ChainRule___init__ (P := l.prog) (w := w) (base := base) F9 T 
  have X2 : SH.Cal l.prog w K mg base (L2N.CX l.prog w) _ "key_in" [] _ := ⟨f3, _, _, _, PySem.W.mg_of X G a3, k3, (F3.binds (ps := ["word"]) fun _ _ _ _ _ _ us hl => match us, hl with | [_], _ => rfl), .nil, O_key_in⟩
  have X3 : SH.CalC l.prog w K mg base CX0 _ "KeyRule" A.KeyRule [] _ := ⟨f5, _, _, _, T.g_KeyRule, ⟨mk_KeyRule, a5_KeyRule, i5, kc_KeyRule⟩, (F5.binds (ps := ["self", "columns"]) fun _ _ _ _ _ _ us hl => match us, hl with | [_, _], _ => rfl), .nil, O_KeyRule___init__⟩
  have X4 : SH.CalC l.prog w K mg base (L2N.CX l.prog w) _ "NearRule" A.NearRule [] _ := ⟨f6, _, _, _, T.g_NearRule, ⟨mk_NearRule, a6_NearRule, i6, kc_NearRule⟩, (F6.binds (ps := ["self", "at", "gap"]) fun _ _ _ _ _ _ us hl => match us, hl with | [_, _, _], _ => rfl), .nil, O_NearRule___init__⟩
  have X5 : SH.CalC l.prog w K mg base (L2N.CX l.prog w) _ "RingRule" A.RingRule [] _ := ⟨f7, _, _, _, T.g_RingRule, ⟨mk_RingRule, a7_RingRule, i7, kc_RingRule⟩, (F7.binds (ps := ["self", "at", "size"]) fun _ _ _ _ _ _ us hl => match us, hl with | [_, _, _], _ => rfl), .nil, O_RingRule___init__⟩
  have X6 : SH.Cal l.prog w K mg base CX0 _ "number_in" [] _ := ⟨f2, _, _, _, PySem.W.mg_of X G a2, k2, (F2.binds (ps := ["word"]) fun _ _ _ _ _ _ us hl => match us, hl with | [_], _ => rfl), .nil, O_number_in⟩
  have O_plain_rule := ok_plain_rule (P := l.prog) (w := w) (base := base) F10 T X2 X3 X4 X5 X6
  have X7 : SH.CalC l.prog w K mg base CX0 _ "VoteRule" A.VoteRule [] _ := ⟨f8, _, _, _, T.g_VoteRule, ⟨mk_VoteRule, a8_VoteRule, i8, kc_VoteRule⟩, (F8.binds (ps := ["self", "rules"]) fun _ _ _ _ _ _ us hl => match us, hl with | [_, _], _ => rfl), .nil, O_VoteRule___init__⟩
  have X8 : SH.Cal l.prog w K mg base (L2N.CX l.prog w) _ "plain_rule" [] _ := ⟨f10, _, _, _, PySem.W.mg_of X G a10, k10, (F10.binds (ps := ["text"]) fun _ _ _ _ _ _ us hl => match us, hl with | [_], _ => rfl), .nil, O_plain_rule⟩
  have O_part_rule := ok_part_rule (P := l.prog) (w := w) (base := base) F11 T X7 X8
  have X9 : SH.CalC l.prog w K mg base CX0 _ "ChainRule" A.ChainRule [] _ := ⟨f9, _, _, _, T.g_ChainRule, ⟨mk_ChainRule, a9_ChainRule, i9, kc_ChainRule⟩, (F9.binds (ps := ["self", "rules"]) fun _ _ _ _ _ _ us hl => match us, hl with | [_, _], _ => rfl), .nil, O_ChainRule___init__⟩
  have X10 : SH.Cal l.prog w K mg base (L2N.CX l.prog w) _ "part_rule" [] _ := ⟨f11, _, _, _, PySem.W.mg_of X G a11, k11, (F11.binds (ps := ["text"]) fun _ _ _ _ _ _ us hl => match us, hl with | [_], _ => rfl), .nil, O_part_rule⟩
  have O_read_rule := ok_read_rule (P := l.prog) (w := w) (base := base) F12 T X9 X10
  have O_KeyRule_widest := ok_KeyRule_widest (P := l.prog) (w := w) (base := base) F13 T 
  have O_NearRule_widest := ok_NearRule_widest (P := l.prog) (w := w) (base := base) F14 T 
  have O_RingRule_widest := ok_RingRule_widest (P := l.prog) (w := w) (base := base) F15 T 
  have X11 : SH.CalM l.prog w K mg base CX0 _ A.KeyRule "widest" [] _ := ⟨T.cl_KeyRule, f13, _, _, _, ⟨a13_KeyRule, i13, k13⟩, (F13.binds (ps := ["self"]) fun _ _ _ _ _ _ us hl => match us, hl with | [_], _ => rfl), .nil, O_KeyRule_widest⟩
  have X12 : SH.CalM l.prog w K mg base CX0 _ A.NearRule "widest" [] _ := ⟨T.cl_NearRule, f14, _, _, _, ⟨a14_NearRule, i14, k14⟩, (F14.binds (ps := ["self"]) fun _ _ _ _ _ _ us hl => match us, hl with | [_], _ => rfl), .nil, O_NearRule_widest⟩
  have X13 : SH.CalM l.prog w K mg base CX0 _ A.RingRule "widest" [] _ := ⟨T.cl_RingRule, f15, _, _, _, ⟨a15_RingRule, i15, k15⟩, (F15.binds (ps := ["self"]) fun _ _ _ _ _ _ us hl => match us, hl with | [_], _ => rfl), .nil, O_RingRule_widest⟩
  have O_VoteRule_widest := ok_VoteRule_widest (P := l.prog) (w := w) (base := base) F16 T X11 X12 X13
  have X14 : SH.CalM l.prog w K mg base CX0 _ A.VoteRule "widest" [] _ := ⟨T.cl_VoteRule, f16, _, _, _, ⟨a16_VoteRule, i16, k16⟩, (F16.binds (ps := ["self"]) fun _ _ _ _ _ _ us hl => match us, hl with | [_], _ => rfl), .nil, O_VoteRule_widest⟩
  have O_ChainRule_widest := ok_ChainRule_widest (P := l.prog) (w := w) (base := base) F17 T X11 X12 X13 X14
  have O_Rule_widest := ok_Rule_widest (P := l.prog) (w := w) (base := base) F18 T 
  have X15 : SH.Cal l.prog w K mg base (L2N.CX l.prog w) _ "read_rule" [] _ := ⟨f12, _, _, _, PySem.W.mg_of X G a12, k12, (F12.binds (ps := ["text"]) fun _ _ _ _ _ _ us hl => match us, hl with | [_], _ => rfl), .nil, O_read_rule⟩
  have O__law_refused := ok__law_refused (P := l.prog) (w := w) (base := base) F19 T X15
  have O__law_key := ok__law_key (P := l.prog) (w := w) (base := base) F20 T 
  have O__law_whole := ok__law_whole (P := l.prog) (w := w) (base := base) F21 T 
  have O__law_number := ok__law_number (P := l.prog) (w := w) (base := base) F22 T 
  have X16 : SH.Cal l.prog w K mg base CX0 _ "_law_key" [] _ := ⟨f20, _, _, _, PySem.W.mg_of X G a20, k20, (F20.binds (ps := ["_law_word"]) fun _ _ _ _ _ _ us hl => match us, hl with | [_], _ => rfl), .nil, O__law_key⟩
  have X17 : SH.Cal l.prog w K mg base CX0 _ "_law_number" [] _ := ⟨f22, _, _, _, PySem.W.mg_of X G a22, k22, (F22.binds (ps := ["_law_word"]) fun _ _ _ _ _ _ us hl => match us, hl with | [_], _ => rfl), .nil, O__law_number⟩
  have O__law_plain_key := ok__law_plain_key (P := l.prog) (w := w) (base := base) F23 T X16 X17
  have X18 : SH.Cal l.prog w K mg base CX0 _ "_law_plain_key" [] _ := ⟨f23, _, _, _, PySem.W.mg_of X G a23, k23, (F23.binds (ps := ["_law_text"]) fun _ _ _ _ _ _ us hl => match us, hl with | [_], _ => rfl), .nil, O__law_plain_key⟩
  have O__law_widest := ok__law_widest (P := l.prog) (w := w) (base := base) F24 T X18
  have O__law_plain := ok__law_plain (P := l.prog) (w := w) (base := base) F25 T 
  have X19 : SH.Cal l.prog w K mg base CX0 _ "_law_plain" [] _ := ⟨f25, _, _, _, PySem.W.mg_of X G a25, k25, (F25.binds (ps := ["_law_cell"]) fun _ _ _ _ _ _ us hl => match us, hl with | [_], _ => rfl), .nil, O__law_plain⟩
  have O__law_part := ok__law_part (P := l.prog) (w := w) (base := base) F26 T X19
  have O__law_odd := ok__law_odd (P := l.prog) (w := w) (base := base) F27 T 
  have O__law_spoiled := ok__law_spoiled (P := l.prog) (w := w) (base := base) F28 T 
  have X20 : SH.CalM l.prog w K mg base CX0 _ A.ChainRule "widest" [] _ := ⟨T.cl_ChainRule, f17, _, _, _, ⟨a17_ChainRule, i17, k17⟩, (F17.binds (ps := ["self"]) fun _ _ _ _ _ _ us hl => match us, hl with | [_], _ => rfl), .nil, O_ChainRule_widest⟩
  have X21 : SH.CalM l.prog w K mg base CX0 _ A.Rule "widest" [] _ := ⟨T.cl_Rule, f18, _, _, _, ⟨a18_Rule, i18, k18⟩, (F18.binds (ps := ["self"]) fun _ _ _ _ _ _ us hl => match us, hl with | [_], _ => rfl), .nil, O_Rule_widest⟩
  have X22 : SH.Cal l.prog w K mg base CX0 _ "_law_cell_at" [] _ := ⟨f1, _, _, _, PySem.W.mg_of X G a1, k1, (F1.binds (ps := ["_law_script", "_law_k"]) fun _ _ _ _ _ _ us hl => match us, hl with | [_, _], _ => rfl), .nil, O__law_cell_at⟩
  have X23 : SH.Cal l.prog w K mg base CX0 _ "_law_odd" [] _ := ⟨f27, _, _, _, PySem.W.mg_of X G a27, k27, (F27.binds (ps := ["_law_cell"]) fun _ _ _ _ _ _ us hl => match us, hl with | [_], _ => rfl), .nil, O__law_odd⟩
  have X24 : SH.Cal l.prog w K mg base CX0 _ "_law_part" [] _ := ⟨f26, _, _, _, PySem.W.mg_of X G a26, k26, (F26.binds (ps := ["_law_cell"]) fun _ _ _ _ _ _ us hl => match us, hl with | [_], _ => rfl), .nil, O__law_part⟩
  have X25 : SH.Cal l.prog w K mg base CX0 _ "_law_refused" [] _ := ⟨f19, _, _, _, PySem.W.mg_of X G a19, k19, (F19.binds (ps := ["_law_text"]) fun _ _ _ _ _ _ us hl => match us, hl with | [_], _ => rfl), .nil, O__law_refused⟩
  have X26 : SH.Cal l.prog w K mg base CX0 _ "_law_spoiled" [] _ := ⟨f28, _, _, _, PySem.W.mg_of X G a28, k28, (F28.binds (ps := ["_law_text", "_law_cells"]) fun _ _ _ _ _ _ us hl => match us, hl with | [_, _], _ => rfl), .nil, O__law_spoiled⟩
  have X27 : SH.Cal l.prog w K mg base CX0 _ "_law_whole" [] _ := ⟨f21, _, _, _, PySem.W.mg_of X G a21, k21, (F21.binds (ps := ["_law_found"]) fun _ _ _ _ _ _ us hl => match us, hl with | [_], _ => rfl), .nil, O__law_whole⟩
  have X28 : SH.Cal l.prog w K mg base CX0 _ "_law_widest" [] _ := ⟨f24, _, _, _, PySem.W.mg_of X G a24, k24, (F24.binds (ps := ["_law_text"]) fun _ _ _ _ _ _ us hl => match us, hl with | [_], _ => rfl), .nil, O__law_widest⟩
  have O_law := ok_law (P := l.prog) (w := w) (base := base) F29 T X20 X11 X12 X13 X21 X14 X22 X23 X24 X25 X26 X27 X28 X15
  exact O_law
theorem walk {l : PySem.W.OpenLaw} {q : Program} {loose : List Str} {XP : (Str → Option Value) → Heap → Prop} {YP : World → Heap → Prop} {d : DefRec} {K : Params → PySem.W.Frag} (hn : l.most = some 63) (hdf : d.params.defaults = [])
    (hY : ∀ (w : World) (h : Heap), YP w h → (K w.params).In h)
    (F : ∀ (w : World) (mg : Str → Option Value) (fa : Addr) (h : Heap), (K w.params).In h → h.Ns mainGlobals mg → mg d.name = some (.ref fa) →
      ∃ fd : FuncData, (∀ (s : Shared) (u : Value), BindsTo s fd ⟨[u], []⟩ [("_law_script", u)]) ∧ ∀ base : Heap, (K w.params).In base → base.Ns mainGlobals mg → ∃ A : Ad, FnOk l.prog w (K w.params) mg base CX0 8 fa fd ["_law_script"] (sp_law (K w.params) A)) :
    PySem.W.WalkO q loose XP YP l.row.toRowW d [] (fun f vs => PySem.call f vs) :=
  L2.walk_of (n := 63) (k := 8) (x := "_law_script") (CX := fun _ => CX0) (sp := fun w => SH.lawSp (K w.params)) hn (by decide) hdf ⟨rfl, by decide, by decide⟩ hY
    (fun w mg fa h a b c => by
      obtain ⟨fd, h1, h2⟩ := F w mg fa h a b c
      exact ⟨fd, h1, fun base x y => by obtain ⟨A, h3⟩ := h2 base x y; exact h3⟩)
    (fun _ _ a ns hl _ hS => ⟨a, ns, rfl, hS, hl, fun _ => rfl⟩) fun _ _ _ _ _ z => z
end Law

open PySem PySem.W PyProof.Rows
set_option maxRecDepth 100000 in
set_option maxHeartbeats 0 in
theorem PySem.Challenge.cw_sorthall_k84_no_rule_text_holds : PySem.Challenge.rw_sorthall_k84_no_rule_text.Holds := by
  w_on; o_law; k_head; (case hw => w_witness2)
  k_fill
  refine Law.walk (l := PySem.Challenge.rw_sorthall_k84_no_rule_text) rfl rfl (fun w h Y => PySem.W.kIn_of Y) ?F
  case F =>
    intro w mg fa h KX G hmg
    refine' Law.all_mk KX G hmg ?aC_HallError ?xn_HallError ?kp_HallError ?sb_HallError ?ty_HallError ?e0_HallError ?e1_HallError ?e2_HallError ?e3_HallError ?e4_HallError ?e5_HallError ?e6_HallError ?e7_HallError ?aC_NoRule ?xn_NoRule ?kp_NoRule ?sb_NoRule ?ty_NoRule ?e0_NoRule ?e1_NoRule ?e2_NoRule ?e3_NoRule ?e4_NoRule ?e5_NoRule ?e6_NoRule ?e7_NoRule ?aC_NoPaper ?aC_NoPlace ?aC_NoKey ?aC_NoRow ?aC_NoOrder ?aC_TooFar ?aC_Spent ?aC_Rule ?pg_Rule ?hd_Rule ?po_Rule ?sa_Rule ?mk_Rule ?kc_Rule ?ip_Rule ?aC_KeyRule ?pg_KeyRule ?hd_KeyRule ?po_KeyRule ?sa_KeyRule ?mk_KeyRule ?kc_KeyRule ?na_KeyRule_columns ?aC_NearRule ?pg_NearRule ?hd_NearRule ?po_NearRule ?sa_NearRule ?mk_NearRule ?kc_NearRule ?na_NearRule_at ?na_NearRule_gap ?aC_RingRule ?pg_RingRule ?hd_RingRule ?po_RingRule ?sa_RingRule ?mk_RingRule ?kc_RingRule ?na_RingRule_at ?na_RingRule_size ?aC_VoteRule ?pg_VoteRule ?hd_VoteRule ?po_VoteRule ?sa_VoteRule ?mk_VoteRule ?kc_VoteRule ?na_VoteRule_rules ?aC_ChainRule ?pg_ChainRule ?hd_ChainRule ?po_ChainRule ?sa_ChainRule ?mk_ChainRule ?kc_ChainRule ?na_ChainRule_rules ?a1 ?l1 ?c1 ?k1 ?a2 ?l2 ?c2 ?k2 ?a3 ?l3 ?c3 ?k3 ?a4 ?l4 ?c4 ?k4 ?a5_KeyRule ?i5 ?l5 ?c5 ?k5 ?a6_NearRule ?i6 ?l6 ?c6 ?k6 ?a7_RingRule ?i7 ?l7 ?c7 ?k7 ?a8_VoteRule ?i8 ?l8 ?c8 ?k8 ?a9_ChainRule ?i9 ?l9 ?c9 ?k9 ?a10 ?l10 ?c10 ?k10 ?a11 ?l11 ?c11 ?k11 ?a12 ?l12 ?c12 ?k12 ?a13_KeyRule ?i13 ?l13 ?c13 ?k13 ?a14_NearRule ?i14 ?l14 ?c14 ?k14 ?a15_RingRule ?i15 ?l15 ?c15 ?k15 ?a16_VoteRule ?i16 ?l16 ?c16 ?k16 ?a17_ChainRule ?i17 ?l17 ?c17 ?k17 ?a18_Rule ?i18 ?l18 ?c18 ?k18 ?a19 ?l19 ?c19 ?k19 ?a20 ?l20 ?c20 ?k20 ?a21 ?l21 ?c21 ?k21 ?a22 ?l22 ?c22 ?k22 ?a23 ?l23 ?c23 ?k23 ?a24 ?l24 ?c24 ?k24 ?a25 ?l25 ?c25 ?k25 ?a26 ?l26 ?c26 ?k26 ?a27 ?l27 ?c27 ?k27 ?a28 ?l28 ?c28 ?k28 ?a29 ?l29 ?c29 ?k29 ?z_ValueError ?z_int ?z_list ?z_max ?z_isinstance ?z_str ?z_len ?z_bool ?z_range ?xs_NoRule_HallError ?kits_NoRule_ValueError ?kits_NoRule_NoRow ?kits_NoRule_NoRule ?kits_NoRule_NoPlace ?kits_NoRule_NoKey ?kits_NoRule_NoPaper ?kits_NoRule_NoOrder ?kits_NoRule_TooFar ?kits_NoRule_Spent ?kk_MOST_FIGURES ?kk_LAST
    (case aC_HallError => k_is); (case xn_HallError => (first | k_is | k_exc)); (case kp_HallError => k_is); (case sb_HallError => k_is); (case ty_HallError => k_is); (case e0_HallError => k_is); (case e1_HallError => k_is); (case e2_HallError => k_is); (case e3_HallError => k_is); (case e4_HallError => k_is); (case e5_HallError => k_is); (case e6_HallError => k_is); (case e7_HallError => k_is); (case aC_NoRule => k_is); (case xn_NoRule => (first | k_is | k_exc)); (case kp_NoRule => k_is); (case sb_NoRule => k_is); (case ty_NoRule => k_is); (case e0_NoRule => k_is); (case e1_NoRule => k_is); (case e2_NoRule => k_is); (case e3_NoRule => k_is); (case e4_NoRule => k_is); (case e5_NoRule => k_is); (case e6_NoRule => k_is); (case e7_NoRule => k_is); (case aC_NoPaper => k_is); (case aC_NoPlace => k_is); (case aC_NoKey => k_is); (case aC_NoRow => k_is); (case aC_NoOrder => k_is); (case aC_TooFar => k_is); (case aC_Spent => k_is); (case aC_Rule => k_is); (case pg_Rule => k_is); (case hd_Rule => k_is); (case po_Rule => k_is); (case sa_Rule => k_is); (case mk_Rule => k_is); (case kc_Rule => k_is); (case ip_Rule => k_is); (case aC_KeyRule => k_is); (case pg_KeyRule => k_is); (case hd_KeyRule => k_is); (case po_KeyRule => k_is); (case sa_KeyRule => k_is); (case mk_KeyRule => k_is); (case kc_KeyRule => k_is); (case na_KeyRule_columns => k_is); (case aC_NearRule => k_is); (case pg_NearRule => k_is); (case hd_NearRule => k_is); (case po_NearRule => k_is); (case sa_NearRule => k_is); (case mk_NearRule => k_is); (case kc_NearRule => k_is); (case na_NearRule_at => k_is); (case na_NearRule_gap => k_is); (case aC_RingRule => k_is); (case pg_RingRule => k_is); (case hd_RingRule => k_is); (case po_RingRule => k_is); (case sa_RingRule => k_is); (case mk_RingRule => k_is); (case kc_RingRule => k_is); (case na_RingRule_at => k_is); (case na_RingRule_size => k_is); (case aC_VoteRule => k_is); (case pg_VoteRule => k_is); (case hd_VoteRule => k_is); (case po_VoteRule => k_is); (case sa_VoteRule => k_is); (case mk_VoteRule => k_is); (case kc_VoteRule => k_is); (case na_VoteRule_rules => k_is); (case aC_ChainRule => k_is); (case pg_ChainRule => k_is); (case hd_ChainRule => k_is); (case po_ChainRule => k_is); (case sa_ChainRule => k_is); (case mk_ChainRule => k_is); (case kc_ChainRule => k_is); (case na_ChainRule_rules => k_is); (case a1 => k_is); (case l1 => k_is); (case c1 => k_is); (case k1 => k_is); (case a2 => k_is); (case l2 => k_is); (case c2 => k_is); (case k2 => k_is); (case a3 => k_is); (case l3 => k_is); (case c3 => k_is); (case k3 => k_is); (case a4 => k_is); (case l4 => k_is); (case c4 => k_is); (case k4 => k_is); (case a5_KeyRule => k_is); (case i5 => k_is); (case l5 => k_is); (case c5 => k_is); (case k5 => k_is); (case a6_NearRule => k_is); (case i6 => k_is); (case l6 => k_is); (case c6 => k_is); (case k6 => k_is); (case a7_RingRule => k_is); (case i7 => k_is); (case l7 => k_is); (case c7 => k_is); (case k7 => k_is); (case a8_VoteRule => k_is); (case i8 => k_is); (case l8 => k_is); (case c8 => k_is); (case k8 => k_is); (case a9_ChainRule => k_is); (case i9 => k_is); (case l9 => k_is); (case c9 => k_is); (case k9 => k_is); (case a10 => k_is); (case l10 => k_is); (case c10 => k_is); (case k10 => k_is); (case a11 => k_is); (case l11 => k_is); (case c11 => k_is); (case k11 => k_is); (case a12 => k_is); (case l12 => k_is); (case c12 => k_is); (case k12 => k_is); (case a13_KeyRule => k_is); (case i13 => k_is); (case l13 => k_is); (case c13 => k_is); (case k13 => k_is); (case a14_NearRule => k_is); (case i14 => k_is); (case l14 => k_is); (case c14 => k_is); (case k14 => k_is); (case a15_RingRule => k_is); (case i15 => k_is); (case l15 => k_is); (case c15 => k_is); (case k15 => k_is); (case a16_VoteRule => k_is); (case i16 => k_is); (case l16 => k_is); (case c16 => k_is); (case k16 => k_is); (case a17_ChainRule => k_is); (case i17 => k_is); (case l17 => k_is); (case c17 => k_is); (case k17 => k_is); (case a18_Rule => k_is); (case i18 => k_is); (case l18 => k_is); (case c18 => k_is); (case k18 => k_is); (case a19 => k_is); (case l19 => k_is); (case c19 => k_is); (case k19 => k_is); (case a20 => k_is); (case l20 => k_is); (case c20 => k_is); (case k20 => k_is); (case a21 => k_is); (case l21 => k_is); (case c21 => k_is); (case k21 => k_is); (case a22 => k_is); (case l22 => k_is); (case c22 => k_is); (case k22 => k_is); (case a23 => k_is); (case l23 => k_is); (case c23 => k_is); (case k23 => k_is); (case a24 => k_is); (case l24 => k_is); (case c24 => k_is); (case k24 => k_is); (case a25 => k_is); (case l25 => k_is); (case c25 => k_is); (case k25 => k_is); (case a26 => k_is); (case l26 => k_is); (case c26 => k_is); (case k26 => k_is); (case a27 => k_is); (case l27 => k_is); (case c27 => k_is); (case k27 => k_is); (case a28 => k_is); (case l28 => k_is); (case c28 => k_is); (case k28 => k_is); (case a29 => k_is); (case l29 => k_is); (case c29 => k_is); (case k29 => k_is); (case z_ValueError => k_is); (case z_int => k_is); (case z_list => k_is); (case z_max => k_is); (case z_isinstance => k_is); (case z_str => k_is); (case z_len => k_is); (case z_bool => k_is); (case z_range => k_is); (case xs_NoRule_HallError => (first | rfl | k_is)); (case kits_NoRule_ValueError => (first | k_is | kernel_rfl)); (case kits_NoRule_NoRow => (first | k_is | kernel_rfl)); (case kits_NoRule_NoRule => (first | k_is | kernel_rfl)); (case kits_NoRule_NoPlace => (first | k_is | kernel_rfl)); (case kits_NoRule_NoKey => (first | k_is | kernel_rfl)); (case kits_NoRule_NoPaper => (first | k_is | kernel_rfl)); (case kits_NoRule_NoOrder => (first | k_is | kernel_rfl)); (case kits_NoRule_TooFar => (first | k_is | kernel_rfl)); (case kits_NoRule_Spent => (first | k_is | kernel_rfl)); (case kk_MOST_FIGURES => k_is); (case kk_LAST => k_is)
#print axioms PySem.Challenge.cw_sorthall_k84_no_rule_text_holds

