import PyProof.Rows.All
import Wide.All
import OpenK.AllK
import Wide.FinOn
import HandS.ForMost
import HandS.ForExc
import HandS.Wide
import HandS.WideBits
import HandS.IsInst
import HandS.Conv
import HandS.Walk
import HandS.SortInts
import HandS.SortRule
import HandS.Nested
import HandS.More
import HandS.Defaults
import HandS.EndTab
import HandS.Rev
import HandS.RevTup
import HandS.SortKw
import KE.DataMinMax
import HandS.Dict
import HandS.Style
import KE.DataCmp
import KE.KDictCopyH
import HandS.MakeKw
import HandS.CallLocal
import HandS.SetFor
import HandS.Strs
import HandS.CallSlots
import HandS.ExcIs
import HandS.ExcInit
import HandS.StrMore
import HandS.Zip
import HandS.ExcField
import KE.KExcIs
import HandS.ExcInitHot
import HandS.ExcValue
import KE.GoesRaise
import PySem.Challenge.RW_sorthall_k76_refused_and_stopped
set_option Elab.async false
set_option linter.all false
set_option maxRecDepth 100000
set_option maxHeartbeats 4000000
/-! SHA: steps of the heap, rules that look at the values themselves, readings one by one -/
namespace SH
open PySem PySem.Spec PyProof.Rows L2

/-! ### what a heap becomes -/
/-- what never changes -/
def Fix : HO → Prop
  | .tup _ => True
  | .ext _ => True
  | .frz _ _ => True
  | _ => False
/-- H' has all that H has, but what stands at M may be another (no tuple, no function, no cell) -/
structure Stp (M : List Addr) (H H' : Hp) : Prop where
  same : ∀ b o, H b = some o → (b ∉ M ∨ Fix o) → H' b = some o
  dom : ∀ b, H' b = none → H b = none
theorem Stp.refl (M : List Addr) (H : Hp) : Stp M H H := ⟨fun _ _ h _ => h, fun _ h => h⟩
theorem Stp.mono {M M' : List Addr} {H H' : Hp} (s : Stp M H H') (h : ∀ b ∈ M, b ∈ M') : Stp M' H H' := ⟨fun b o e n => s.same b o e (n.imp (fun n z => n (h b z)) id), s.dom⟩
theorem Stp.trans {M : List Addr} {H H1 H2 : Hp} (a : Stp M H H1) (b : Stp M H1 H2) : Stp M H H2 := ⟨fun c o e n => b.same c o (a.same c o e n) n, fun c h => a.dom c (b.dom c h)⟩
/-- what the second changes is new, or the first one's -/
theorem Stp.then {M M' : List Addr} {H H1 H2 : Hp} (a : Stp M H H1) (b : Stp M' H1 H2) (h : ∀ m ∈ M', m ∈ M ∨ H m = none) : Stp M H H2 :=
  ⟨fun c o e n => b.same c o (a.same c o e n) (n.imp (fun n z => (h c z).elim n fun q => (by rw [q] at e; cases e)) id), fun c h => a.dom c (b.dom c h)⟩
theorem Stp.then0 {M : List Addr} {H H1 H2 : Hp} (a : Stp M H H1) (b : Stp [] H1 H2) : Stp M H H2 := a.then b (by simp)
theorem Stp.new {M : List Addr} {H H1 : Hp} {p : Addr} {o : HO} (a : Stp M H H1) (h : H1 p = none) : Stp M H (upd H1 p o) :=
  ⟨fun c u e n => by have q := a.same c u e n; rw [upd_ne (ne_of_none q h)]; exact q, fun c q => a.dom c (by
    by_cases z : c = p
    · subst z; exact h
    · rw [upd_ne z] at q; exact q)⟩
theorem Stp.putM {M : List Addr} {H H1 : Hp} {p : Addr} {o o1 : HO} (a : Stp M H H1) (h : p ∈ M) (h1 : H1 p = some o1) (nf : ¬ Fix o1) : Stp M H (upd H1 p o) :=
  ⟨fun c u e n => by
    by_cases z : c = p
    · subst z
      rcases n with n | n
      · exact (n h).elim
      · have q := a.same c u e (.inr n)
        rw [h1] at q; cases q; exact (nf n).elim
    · rw [upd_ne z]; exact a.same c u e n, fun c q => a.dom c (by
    by_cases z : c = p
    · subst z; rw [upd_same] at q; cases q
    · rw [upd_ne z] at q; exact q)⟩
theorem Stp.putN {M : List Addr} {H H1 : Hp} {p : Addr} {o : HO} (a : Stp M H H1) (h : H p = none) : Stp M H (upd H1 p o) :=
  ⟨fun c u e n => by
    rw [upd_ne (fun z => by subst z; rw [h] at e; cases e)]
    exact a.same c u e n, fun c q => a.dom c (by
    by_cases z : c = p
    · subst z; rw [upd_same] at q; cases q
    · rw [upd_ne z] at q; exact q)⟩
theorem Stp.free {M : List Addr} {H H' : Hp} {p : Addr} (s : Stp M H H') (h : H' p = none) : H p = none := s.dom p h
theorem Stp.keep {M : List Addr} {H H' : Hp} {p : Addr} {o : HO} (s : Stp M H H') (h : H p = some o) (n : p ∉ M) : H' p = some o := s.same p o h (.inl n)
theorem Stp.keep0 {H H' : Hp} {p : Addr} {o : HO} (s : Stp [] H H') (h : H p = some o) : H' p = some o := s.same p o h (.inl (by simp))
theorem Stp.fix {M : List Addr} {H H' : Hp} {p : Addr} {o : HO} (s : Stp M H H') (h : H p = some o) (n : Fix o) : H' p = some o := s.same p o h (.inr n)
theorem Stp.tup {M : List Addr} {H H' : Hp} {p : Addr} {xs : List V} (s : Stp M H H') (h : H p = some (.tup xs)) : H' p = some (.tup xs) := s.fix h True.intro
theorem Stp.keep1 {m : Addr} {H H' : Hp} {p : Addr} {o : HO} (s : Stp [m] H H') (h : H p = some o) (n : p ≠ m) : H' p = some o := s.same p o h (.inl (by simpa using n))
theorem Stp.rd {M : List Addr} {H H' : Hp} {a : Addr} {u : HO} (s : Stp M H H') (h : Rd H a u) (n : a ∉ M) : Rd H' a u := by
  rcases h with h | ⟨o, h⟩
  · exact .inl (s.same _ _ h (.inl n))
  · exact .inr ⟨o, s.same _ _ h (.inr True.intro)⟩
theorem Stp.sql {K : PySem.W.Frag} {M : List Addr} {H H' : Hp} {a : Addr} {xs : List V} (s : Stp M H H') (h : SqL K H a xs) (n : a ∉ M) : SqL K H' a xs := by
  rcases h with h | h
  · exact .inl (s.rd h n)
  · exact .inr h
theorem Stp.sqt {K : PySem.W.Frag} {M : List Addr} {H H' : Hp} {a : Addr} {xs : List V} (s : Stp M H H') (h : SqT K H a xs) (n : a ∉ M) : SqT K H' a xs := by
  rcases h with h | h
  · exact .inl (s.rd h n)
  · exact .inr h
theorem Stp.sqtM {K : PySem.W.Frag} {M : List Addr} {H H' : Hp} {a : Addr} {xs : List V} (s : Stp M H H') (h : SqT K H a xs) : SqT K H' a xs := by
  rcases h with (h | ⟨o, h⟩) | h
  · exact .inl (.inl (s.fix h True.intro))
  · exact .inl (.inr ⟨o, s.fix h True.intro⟩)
  · exact .inr h
theorem Stp.sql1 {K : PySem.W.Frag} {m : Addr} {H H' : Hp} {a : Addr} {xs : List V} (s : Stp [m] H H') (h : SqL K H a xs) (n : a ≠ m) : SqL K H' a xs := s.sql h (by simpa using n)
theorem Stp.sql0 {K : PySem.W.Frag} {H H' : Hp} {a : Addr} {xs : List V} (s : Stp [] H H') (h : SqL K H a xs) : SqL K H' a xs := s.sql h (by simp)
theorem Stp.sqt0 {K : PySem.W.Frag} {H H' : Hp} {a : Addr} {xs : List V} (s : Stp [] H H') (h : SqT K H a xs) : SqT K H' a xs := s.sqt h (by simp)
theorem Stp.not {M : List Addr} {H H' : Hp} {p : Addr} (s : Stp M H H') (h : H' p = none) (hm : ∀ m ∈ M, H m ≠ none) : p ∉ M := fun z => hm p z (s.dom p h)
theorem upd_old {H : Hp} {a p : Addr} {o u : HO} (h : H a = some o) (hp : H p = none) : upd H p u a = some o := by rw [upd_ne (ne_of_none h hp)]; exact h
theorem upd_far {H : Hp} {a p : Addr} {o : Option HO} {u : HO} (n : a ≠ p) (h : H a = o) : upd H p u a = o := by rw [upd_ne n]; exact h
theorem upd_free {H : Hp} {a p : Addr} {u : HO} (h : upd H p u a = none) : H a = none ∧ a ≠ p := by
  by_cases z : a = p
  · subst z; rw [upd_same] at h; cases h
  · rw [upd_ne z] at h; exact ⟨h, z⟩
theorem sql_upd {K : PySem.W.Frag} {H : Hp} {a p : Addr} {xs : List V} {u : HO} (h : SqL K H a xs) (hp : H p = none) : SqL K (upd H p u) a xs := (Stp.refl [] H |>.new hp).sql h (by simp)
theorem sqt_upd {K : PySem.W.Frag} {H : Hp} {a p : Addr} {xs : List V} {u : HO} (h : SqT K H a xs) (hp : H p = none) : SqT K (upd H p u) a xs := (Stp.refl [] H |>.new hp).sqt h (by simp)
theorem sql_far {K : PySem.W.Frag} {H : Hp} {a p : Addr} {xs : List V} {u : HO} (h : SqL K H a xs) (n : a ≠ p) : SqL K (upd H p u) a xs := by
  rcases h with (h | ⟨o, h⟩) | h
  · exact .inl (.inl (upd_far n h))
  · exact .inl (.inr ⟨o, upd_far n h⟩)
  · exact .inr h
theorem sqt_far {K : PySem.W.Frag} {H : Hp} {a p : Addr} {xs : List V} {u : HO} (h : SqT K H a xs) (n : a ≠ p) : SqT K (upd H p u) a xs := by
  rcases h with (h | ⟨o, h⟩) | h
  · exact .inl (.inl (upd_far n h))
  · exact .inl (.inr ⟨o, upd_far n h⟩)
  · exact .inr h

/-! ### the slots -/
theorem set_z {x y : Option V} {xs : L2.St} : (x :: xs).set 0 y = y :: xs := rfl
theorem set_s {x y : Option V} {xs ys : L2.St} {n : Nat} (h : xs.set n y = ys) : (x :: xs).set (n + 1) y = x :: ys := by subst h; rfl
theorem get_z {x : V} {xs : L2.St} : (some x :: xs)[0]? = some (some x) := rfl
theorem get_s {x : Option V} {xs : L2.St} {n : Nat} {v : V} (h : xs[n]? = some (some v)) : (x :: xs)[n + 1]? = some (some v) := h

/-! ### two-place operations by the values -/
/-- the ways of + -/
def aAdd (K : PySem.W.Frag) : R2 := fun x y H Q => match x, y with
  | .int i, .int j => Q (.int (i + j)) H
  | .str a, .str b => a.length + b.length ≤ sizeLine ∧ Q (.str (a ++ b)) H
  | .ref a, .ref b => (∃ xs ys, H a = some (.lst xs) ∧ H b = some (.lst ys) ∧ xs.length + ys.length ≤ sizeLine ∧ ∀ p, H p = none → Q (.ref p) (upd H p (.lst (xs ++ ys)))) ∨ rCatT K (.ref a) (.ref b) H Q
  | _, _ => False
def aSub : R2 := fun x y H Q => match x, y with
  | .int i, .int j => Q (.int (i - j)) H
  | _, _ => False
def aMul : R2 := fun x y H Q => match x, y with
  | .int i, .int j => IntMulOk i j ∧ Q (.int (i * j)) H
  | .str a, .int k => PySem.MulOk a k ∧ Q (.str (PySem.Txt.mul a k)) H
  | .ref a, .int k => ∃ xs, H a = some (.lst xs) ∧ -(2 ^ 63) ≤ k ∧ k < 2 ^ 63 ∧ xs.length * k.toNat ≤ sizeLine ∧ ∀ p, H p = none → Q (.ref p) (upd H p (.lst ((List.replicate k.toNat xs).flatten)))
  | _, _ => False
def aDiv : R2 := fun x y H Q => match x, y with
  | .int i, .int j => 0 < j ∧ Builtin.divisionGoesByPylong i j = false ∧ Q (.int (i / j)) H
  | _, _ => False
def aMod : R2 := fun x y H Q => match x, y with
  | .int i, .int j => 0 < j ∧ Q (.int (i % j)) H
  | _, _ => False
def aPow : R2 := fun x y H Q => match x, y with
  | .int i, .int j => CPow i j ∧ Q (.int (i ^ j.toNat)) H
  | _, _ => False
def aShl : R2 := fun x y H Q => match x, y with
  | .int i, .int j => CShl i j ∧ Q (.int (i * 2 ^ j.toNat)) H
  | _, _ => False
def aShr : R2 := fun x y H Q => match x, y with
  | .int i, .int j => 0 ≤ j ∧ Q (.int (i / 2 ^ j.toNat)) H
  | _, _ => False
def aAnd : R2 := fun x y H Q => match x, y with
  | .int i, .int j => Q (.int (Builtin.bitAnd i j)) H
  | _, _ => False
def aLt (K : PySem.W.Frag) : R2 := fun x y H Q => match x, y with
  | .int i, .int j => Q (.bl (decide (i < j))) H
  | .str i, .str j => Q (.bl (decide (i.cps.toList < j.cps.toList))) H
  | .ref a, .ref b => rLtT K (.ref a) (.ref b) H Q
  | _, _ => False
def aLe : R2 := fun x y H Q => match x, y with
  | .int i, .int j => Q (.bl (decide (i ≤ j))) H
  | _, _ => False
def aGt : R2 := fun x y H Q => match x, y with
  | .int i, .int j => Q (.bl (decide (j < i))) H
  | _, _ => False
def aGe : R2 := fun x y H Q => match x, y with
  | .int i, .int j => Q (.bl (decide (j ≤ i))) H
  | _, _ => False
def aEq (K : PySem.W.Frag) : R2 := fun x y H Q => (scal x y = true ∧ Q (.bl (decide (x = y))) H) ∨ rEqD K x y H Q
def aNe (K : PySem.W.Frag) : R2 := fun x y H Q => (scal x y = true ∧ Q (.bl (!decide (x = y))) H) ∨ rNeD K x y H Q
def aIsN : R2 := fun x y H Q => y = .non ∧ Q (.bl (decide (x = .non))) H
def aNotN : R2 := fun x y H Q => y = .non ∧ Q (.bl (!decide (x = .non))) H

section
variable {X : Cx}
theorem oAdd : OpR X (binaryOp .Add) (aAdd X.K) := by
  intro pins s σ H x y v u Q I rx ry h
  cases x <;> cases y <;> first | exact False.elim h | skip
  · exact op_add pins s σ H _ _ v u Q I rx ry ⟨_, _, rfl, rfl, h⟩
  · exact op_add_str pins s σ H _ _ v u Q I rx ry ⟨_, _, rfl, rfl, h.1, h.2⟩
  · rcases h with ⟨xs, ys, h1, h2, h3, h4⟩ | h
    · exact op_cat pins s σ H _ _ v u Q I rx ry ⟨_, _, xs, ys, rfl, rfl, h1, h2, h3, h4⟩
    · exact op_catT pins s σ H _ _ v u Q I rx ry h
theorem oSub : OpR X (binaryOp .Sub) aSub := by
  intro pins s σ H x y v u Q I rx ry h
  cases x <;> cases y <;> first | exact False.elim h | skip
  exact op_sub pins s σ H _ _ v u Q I rx ry ⟨_, _, rfl, rfl, h⟩
theorem oMul : OpR X (binaryOp .Mult) aMul := by
  intro pins s σ H x y v u Q I rx ry h
  cases x <;> cases y <;> first | exact False.elim h | skip
  · obtain ⟨t, rfl⟩ := rx
    obtain ⟨t', rfl⟩ := ry
    exact mul_int ⟨.int _, H, I.tok _, ⟨_, rfl⟩, h.2⟩ h.1
  · obtain ⟨t, rfl⟩ := rx
    obtain ⟨t', rfl⟩ := ry
    exact PySem.SB.mul h.1 fun t' k => ⟨.str _, H, I.tok _, ⟨_, rfl⟩, h.2⟩
  · obtain ⟨xs, h1, h2, h3, h4, h5⟩ := h
    exact op_rep pins s σ H _ _ v u Q I rx ry ⟨_, _, xs, rfl, rfl, h1, h2, h3, h4, h5⟩
theorem oDiv : OpR X (binaryOp .FloorDiv) aDiv := by
  intro pins s σ H x y v u Q I rx ry h
  cases x <;> cases y <;> first | exact False.elim h | skip
  obtain ⟨t, rfl⟩ := rx
  obtain ⟨t', rfl⟩ := ry
  obtain ⟨h0, h1, q⟩ := h
  exact floordiv_int (by omega) (by rw [Int.fdiv_eq_ediv_of_nonneg _ (by omega)]; exact ⟨.int _, H, I.tok _, ⟨_, rfl⟩, q⟩) (.inl h1)
theorem oMod : OpR X (binaryOp .Mod) aMod := by
  intro pins s σ H x y v u Q I rx ry h
  cases x <;> cases y <;> first | exact False.elim h | skip
  exact op_mod pins s σ H _ _ v u Q I rx ry ⟨_, _, rfl, rfl, h⟩
theorem oPow : OpR X (binaryOp .Pow) aPow := by
  intro pins s σ H x y v u Q I rx ry h
  cases x <;> cases y <;> first | exact False.elim h | skip
  exact op_pow pins s σ H _ _ v u Q I rx ry ⟨_, _, rfl, rfl, h⟩
theorem oShl : OpR X (binaryOp .LShift) aShl := by
  intro pins s σ H x y v u Q I rx ry h
  cases x <;> cases y <;> first | exact False.elim h | skip
  exact op_shlW pins s σ H _ _ v u Q I rx ry ⟨_, _, rfl, rfl, h⟩
theorem oShr : OpR X (binaryOp .RShift) aShr := by
  intro pins s σ H x y v u Q I rx ry h
  cases x <;> cases y <;> first | exact False.elim h | skip
  exact op_shr pins s σ H _ _ v u Q I rx ry ⟨_, _, rfl, rfl, h⟩
theorem oAnd : OpR X (binaryOp .BitAnd) aAnd := by
  intro pins s σ H x y v u Q I rx ry h
  cases x <;> cases y <;> first | exact False.elim h | skip
  exact op_and pins s σ H _ _ v u Q I rx ry ⟨_, _, rfl, rfl, h⟩
theorem oLt (hu : X.A.units < cLine) : OpR X (compareOp .Lt) (aLt X.K) := by
  intro pins s σ H x y v u Q I rx ry h
  cases x <;> cases y <;> first | exact False.elim h | skip
  · exact op_lt pins s σ H _ _ v u Q I rx ry ⟨_, _, rfl, rfl, h⟩
  · exact op_lt_str pins s σ H _ _ v u Q I rx ry ⟨_, _, rfl, rfl, h⟩
  · exact op_ltT hu pins s σ H _ _ v u Q I rx ry h
theorem oLe : OpR X (compareOp .LtE) aLe := by
  intro pins s σ H x y v u Q I rx ry h
  cases x <;> cases y <;> first | exact False.elim h | skip
  exact op_le pins s σ H _ _ v u Q I rx ry ⟨_, _, rfl, rfl, h⟩
theorem oGt : OpR X (compareOp .Gt) aGt := by
  intro pins s σ H x y v u Q I rx ry h
  cases x <;> cases y <;> first | exact False.elim h | skip
  exact op_gt pins s σ H _ _ v u Q I rx ry ⟨_, _, rfl, rfl, h⟩
theorem oGe : OpR X (compareOp .GtE) aGe := by
  intro pins s σ H x y v u Q I rx ry h
  cases x <;> cases y <;> first | exact False.elim h | skip
  exact op_ge pins s σ H _ _ v u Q I rx ry ⟨_, _, rfl, rfl, h⟩
theorem oEq (hu : X.A.units + 64 < cLine) : OpR X (compareOp .Eq) (aEq X.K) := op_eq.or (op_eqD hu)
theorem oNe (hu : X.A.units + 64 < cLine) : OpR X (compareOp .NotEq) (aNe X.K) := op_ne.or (op_neD hu)
theorem oIsN : OpR X (compareOp .Is) aIsN := op_isN
theorem oNotN : OpR X (compareOp .IsNot) aNotN := op_notN
theorem ipAdd : PIp X .Add (fun x y H Q => match x, y with
  | .int i, .int j => Q (.int (i + j)) H
  | _, _ => False) := by
  intro pins s σ H x y v u Q I rx ry h
  cases x <;> cases y <;> first | exact False.elim h | skip
  exact ip_add pins s σ H _ _ v u Q I rx ry ⟨_, _, rfl, rfl, h⟩
theorem ipSub : PIp X .Sub (fun x y H Q => match x, y with
  | .int i, .int j => Q (.int (i - j)) H
  | _, _ => False) := by
  intro pins s σ H x y v u Q I rx ry h
  cases x <;> cases y <;> first | exact False.elim h | skip
  exact ip_sub pins s σ H _ _ v u Q I rx ry ⟨_, _, rfl, rfl, h⟩
end
end SH

set_option Elab.async false
set_option linter.all false
set_option maxRecDepth 100000
set_option maxHeartbeats 4000000
/-! SHB: readings, one lemma a word -/
namespace SH
open PySem PySem.Spec PyProof.Rows L2

section
variable {K : PySem.W.Frag} {D : Ends} {σ σ' : L2.St} {H : Hp} {Q : VK} {QA : List V → Hp → Prop} {QT : Bool → Hp → Prop} {QO : Option Int → Hp → Prop} {QG : L2.St → Hp → Prop} {i j : Nat} {v x y : V} {vs : List V} {ta tb tc te : TE} {t u tt : TT} {tr as : TA} {t1 t2 : TS} {g : TG} {gs : TGs} {r r' : R2} {b : Bool} {A B : Prop}

/-! the start -/
theorem st_c {x : Str} {N : List Str} {v : V} {vs : List V} {τ : L2.St} (h : L2.start N vs = τ) : L2.start (x :: N) (v :: vs) = some v :: τ := by
  rw [← h]; show _ :: (_ ++ List.replicate (N.length + 1 - (vs.length + 1)) none) = _; rw [Nat.add_sub_add_right]; rfl
theorem st_n {x : Str} {N : List Str} {τ : L2.St} (h : L2.start N [] = τ) : L2.start (x :: N) [] = none :: τ := by rw [← h]; rfl
theorem st_z : L2.start [] [] = [] := rfl
theorem r_start {N : List Str} {t : TS} (e : L2.start N vs = σ) (h : t D σ H) : t D (L2.start N vs) H := by rw [e]; exact h

theorem wp_z {f : Str × Nat → Nat} : wipe σ (List.map f []) = σ := rfl
theorem wp_s {a : Str} {n : Nat} {l : List (Str × Nat)} {τ τ' : L2.St} (h : wipe σ (l.map (fun x => x.2)) = τ) (e : τ.set n none = τ') : wipe σ (((a, n) :: l).map (fun x => x.2)) = τ' := by
  show (wipe σ (l.map (fun x => x.2))).set n none = τ'
  rw [h, e]
theorem r_gnw {ws : List Nat} {τ : L2.St} (e : wipe σ ws = τ) (h : gName i v τ H QG) : gName i v (wipe σ ws) H QG := by rw [e]; exact h
theorem r_gtw {ws : List Nat} {n : Nat} {τ : L2.St} (e : wipe σ ws = τ) (h : gTup K n gs v τ H QG) : gTup K n gs v (wipe σ ws) H QG := by rw [e]; exact h
theorem r_wp {ws : List Nat} {τ : L2.St} (e : wipe σ ws = wipe τ ws) (h : A) : wipe σ ws = wipe τ ws ∧ A := ⟨e, h⟩

/-! statements -/
theorem r_seq (h : t1 { D with nx := t2 D } σ H) : tSeq t1 t2 D σ H := h
theorem r_next (h : D.nx σ H) : tNext D σ H := h
theorem r_nx (e : σ.set i (some v) = σ') (h : D.nx σ' H) : D.nx (σ.set i (some v)) H := by rw [e]; exact h
theorem r_asg (h : te σ H fun x H1 => g x σ H1 D.nx) : tAsg te g D σ H := h
theorem r_gname (e : σ.set i (some v) = σ') (h : QG σ' H) : gName i v σ H QG := by subst e; exact h
theorem r_aug {rd : TIp} (hx : σ[i]? = some (some x)) (h : te σ H fun y H1 => rd x y H1 fun z H2 => D.nx (σ.set i (some z)) H2) : tAug i te rd D σ H := ⟨x, hx, h⟩
theorem r_drop (h : te σ H fun _ H1 => D.nx σ H1) : tDrop te D σ H := h
theorem r_ret (h : te σ H D.rt) : tRet te D σ H := h
theorem r_retN (h : D.rt .non H) : tRetN D σ H := h
theorem r_ifS (h : tt σ H fun b H1 => if b = true then t1 D σ H1 else t2 D σ H1) : tIfS tt t1 t2 D σ H := h
theorem r_brk (h : D.bk σ H) : tBreak D σ H := h
theorem r_cont (h : D.ct σ H) : tCont D σ H := h
theorem r_gtup {n : Nat} {a : Addr} {xs : List V} (hq : SqT K H a xs) (hl : xs.length = n) (h : gs xs σ H QG) : gTup K n gs (.ref a) σ H QG := ⟨a, xs, rfl, hq, hl, h⟩
theorem r_glst {n : Nat} {a : Addr} {xs : List V} (hq : SqL K H a xs) (hl : xs.length = n) (h : gs xs σ H QG) : gLst K n gs (.ref a) σ H QG := ⟨a, xs, rfl, hq, hl, h⟩
theorem r_gcons (h : g v σ H fun σ' H' => gs vs σ' H' QG) : gCons g gs (v :: vs) σ H QG := ⟨v, vs, rfl, h⟩
theorem r_gnil (h : QG σ H) : gNil [] σ H QG := ⟨rfl, h⟩
theorem r_gsub {to ti : TE} {ts : TSet} (h : to σ H fun o H1 => ti σ H1 fun i H2 => ts o i v H2 fun H3 => QG σ H3) : gSub to ti ts v σ H QG := h

/-! expressions -/
theorem r_var (h : σ[i]? = some (some v)) (k : Q v H) : tVar i σ H Q := ⟨v, h, k⟩
theorem r_c (k : Q v H) : tC v σ H Q := k
theorem r_op (h : ta σ H fun x H1 => tb σ H1 fun y H2 => r x y H2 Q) : tOp r ta tb σ H Q := h
theorem r_un {ru : V → Hp → VK → Prop} (h : ta σ H fun x H1 => ru x H1 Q) : tUn ru ta σ H Q := h
theorem r_neg {n : Int} (k : Q (.int (-n)) H) : rU (fun i => .int (-i)) (.int n) H Q := ⟨n, rfl, k⟩
theorem r_if (h : t σ H fun c H1 => if c = true then ta σ H1 Q else tb σ H1 Q) : tIf t ta tb σ H Q := h
theorem r_nil (h : QA [] H) : tNil σ H QA := h
theorem r_cons (h : ta σ H fun x H1 => tr σ H1 fun xs H2 => QA (x :: xs) H2) : tCons ta tr σ H QA := h
def kTup (Q : VK) : List V → Hp → Prop := fun xs H1 => xs.length ≤ sizeLine ∧ ∀ p, H1 p = none → Q (.ref p) (upd H1 p (.tup xs))
def kLst (Q : VK) : List V → Hp → Prop := fun xs H1 => xs.length ≤ sizeLine ∧ ∀ p, H1 p = none → Q (.ref p) (upd H1 p (.lst xs))
theorem r_tup (h : as σ H (kTup Q)) : tTup as σ H Q := h
theorem r_lst (h : as σ H (kLst Q)) : tLst as σ H Q := h
theorem v_tup (hl : vs.length ≤ 1000) (h : ∀ p, H p = none → Q (.ref p) (upd H p (.tup vs))) : kTup Q vs H := ⟨Nat.le_trans hl (by decide), h⟩
theorem v_lst (hl : vs.length ≤ 1000) (h : ∀ p, H p = none → Q (.ref p) (upd H p (.lst vs))) : kLst Q vs H := ⟨Nat.le_trans hl (by decide), h⟩
theorem v_tup2 (h : ∀ p, H p = none → Q (.ref p) (upd H p (.tup [x, y]))) : kTup Q [x, y] H := v_tup (by simp) h
theorem v_tup3 (h : ∀ p, H p = none → Q (.ref p) (upd H p (.tup [x, y, v]))) : kTup Q [x, y, v] H := v_tup (by simp) h
theorem v_lst0 (h : ∀ p, H p = none → Q (.ref p) (upd H p (.lst []))) : kLst Q [] H := v_lst (by simp) h
theorem v_lst1 (h : ∀ p, H p = none → Q (.ref p) (upd H p (.lst [x]))) : kLst Q [x] H := v_lst (by simp) h
theorem v_lst2 (h : ∀ p, H p = none → Q (.ref p) (upd H p (.lst [x, y]))) : kLst Q [x, y] H := v_lst (by simp) h
theorem v_lst3 (h : ∀ p, H p = none → Q (.ref p) (upd H p (.lst [x, y, v]))) : kLst Q [x, y, v] H := v_lst (by simp) h
theorem v_lst4 {z : V} (h : ∀ p, H p = none → Q (.ref p) (upd H p (.lst [x, y, v, z]))) : kLst Q [x, y, v, z] H := v_lst (by simp) h
theorem r_len0 {n : Nat} (h : n ≤ 1000) : n ≤ sizeLine := Nat.le_trans h (by decide)
theorem r_call {sp : Sp} {dvs : List V} {E : XK} (h : as σ H fun vs H1 => sp (vs ++ dvs) H1 Q E) : tCall sp dvs E as σ H Q := h
theorem r_cb {rc : List V → Hp → VK → Prop} (h : as σ H fun vs H1 => rc vs H1 Q) : tCB rc as σ H Q := h
theorem r_andV (h : ta σ H fun x H1 => ∃ c, x = .bl c ∧ if c = true then tb σ H1 Q else Q (.bl false) H1) : tAndV ta tb σ H Q := h
theorem r_orV (h : ta σ H fun x H1 => ∃ c, x = .bl c ∧ if c = true then Q (.bl true) H1 else tb σ H1 Q) : tOrV ta tb σ H Q := h
theorem r_notV (h : ta σ H fun x H1 => ∃ c, x = .bl c ∧ Q (.bl (!c)) H1) : tNotV ta σ H Q := h
theorem r_bl {P : Bool → Prop} (h : P b) : ∃ c, V.bl b = .bl c ∧ P c := ⟨b, rfl, h⟩
theorem r_test (h : te σ H fun x H1 => ∃ k, x = .bl k ∧ QT k H1) : tTest te σ H QT := h
theorem r_B (h : te σ H fun x H1 => ∃ k, x = .bl k ∧ QT k H1) : tB te σ H QT := h
theorem r_and (h : t σ H fun c H1 => if c = true then u σ H1 QT else QT false H1) : tAnd t u σ H QT := h
theorem r_or (h : t σ H fun c H1 => if c = true then QT true H1 else u σ H1 QT) : tOr t u σ H QT := h
theorem r_not (h : t σ H fun c H1 => QT (!c) H1) : tNot t σ H QT := h
theorem r_yes (h : QT true H) : tYes σ H QT := h
theorem r_nopart (h : QO none H) : tNoPart σ H QO := h
theorem r_part (h : te σ H fun x H1 => ∃ i, x = .int i ∧ QO (some i) H1) : tPart te σ H QO := h
theorem r_int {P : Int → Prop} {n : Int} (h : P n) : ∃ i, V.int n = .int i ∧ P i := ⟨n, rfl, h⟩
theorem r_sl {rs : V → Option Int → Option Int → Hp → VK → Prop} {tl th : TO} (h : te σ H fun x H1 => tl σ H1 fun l H2 => th σ H2 fun u H3 => rs x l u H3 Q) : tSl rs te tl th σ H Q := h
theorem r_chain (h : ta σ H fun x H1 => tb σ H1 fun y H2 => r x y H2 fun z H3 => ∃ k, z = .bl k ∧ (if k = true then tc σ H3 fun w' H4 => r' y w' H4 Q else Q (.bl false) H3)) : tChain r r' ta tb tc σ H Q := h
theorem r_bm {T : String} {rb : V → List V → Hp → VK → Prop} (h : te σ H fun x H1 => tyV K T x H1 ∧ as σ H1 fun xs H2 => rb x xs H2 Q) : tBM K T rb te as σ H Q := h
theorem r_bm0 {T : String} {rb : V → List V → Hp → VK → Prop} (h : te σ H fun x H1 => tyV K T x H1 ∧ rb x [] H1 Q) : tBM0 K T rb te σ H Q := h

/-! values -/
theorem v_addI {n m : Int} (h : Q (.int (n + m)) H) : aAdd K (.int n) (.int m) H Q := h
theorem v_addL {a c : Addr} {xs ys : List V} (h1 : H a = some (.lst xs)) (h2 : H c = some (.lst ys)) (h3 : xs.length + ys.length ≤ sizeLine) (h : ∀ p, H p = none → Q (.ref p) (upd H p (.lst (xs ++ ys)))) : aAdd K (.ref a) (.ref c) H Q := .inl ⟨xs, ys, h1, h2, h3, h⟩
theorem v_subI {n m : Int} (h : Q (.int (n - m)) H) : aSub (.int n) (.int m) H Q := h
theorem v_mulI {n m : Int} (h0 : IntMulOk n m) (h : Q (.int (n * m)) H) : aMul (.int n) (.int m) H Q := ⟨h0, h⟩
theorem v_mulL {a : Addr} {k : Int} {xs : List V} (h1 : H a = some (.lst xs)) (h2 : -(2 ^ 63) ≤ k ∧ k < 2 ^ 63) (h3 : xs.length * k.toNat ≤ sizeLine) (h : ∀ p, H p = none → Q (.ref p) (upd H p (.lst ((List.replicate k.toNat xs).flatten)))) : aMul (.ref a) (.int k) H Q := ⟨xs, h1, h2.1, h2.2, h3, h⟩
theorem v_div {n m : Int} (h0 : 0 < m) (h1 : Builtin.divisionGoesByPylong n m = false) (h : Q (.int (n / m)) H) : aDiv (.int n) (.int m) H Q := ⟨h0, h1, h⟩
theorem v_divS {n m : Int} (h0 : 0 < m) (h1 : m < 1073741824) (h : Q (.int (n / m)) H) : aDiv (.int n) (.int m) H Q := ⟨h0, PyProof.noPylong_small (by omega), h⟩
theorem v_divW {n m : Int} (h0 : 0 < m) (h1 : m.natAbs.log2 < 9000) (h : Q (.int (n / m)) H) : aDiv (.int n) (.int m) H Q := ⟨h0, PyProof.noPylong_of_log2 h1, h⟩
theorem v_mod {n m : Int} (h0 : 0 < m) (h : Q (.int (n % m)) H) : aMod (.int n) (.int m) H Q := ⟨h0, h⟩
theorem v_pow {n m : Int} (h0 : CPow n m) (h : Q (.int (n ^ m.toNat)) H) : aPow (.int n) (.int m) H Q := ⟨h0, h⟩
theorem v_shl {n m : Int} (h0 : CShl n m) (h : Q (.int (n * 2 ^ m.toNat)) H) : aShl (.int n) (.int m) H Q := ⟨h0, h⟩
theorem v_shr {n m : Int} (h0 : 0 ≤ m) (h : Q (.int (n / 2 ^ m.toNat)) H) : aShr (.int n) (.int m) H Q := ⟨h0, h⟩
theorem v_and {n m : Int} (h : Q (.int (Builtin.bitAnd n m)) H) : aAnd (.int n) (.int m) H Q := h
theorem v_ltI {n m : Int} (h : Q (.bl (decide (n < m))) H) : aLt K (.int n) (.int m) H Q := h
theorem v_ltT {a c : Addr} {ns ms : List Int} (h1 : SqT K H a (ns.map V.int)) (h2 : SqT K H c (ms.map V.int)) (h : Q (.bl (HT.lexLt ns ms)) H) : aLt K (.ref a) (.ref c) H Q := ⟨a, c, ns, ms, rfl, rfl, h1, h2, h⟩
theorem v_leI {n m : Int} (h : Q (.bl (decide (n ≤ m))) H) : aLe (.int n) (.int m) H Q := h
theorem v_gtI {n m : Int} (h : Q (.bl (decide (m < n))) H) : aGt (.int n) (.int m) H Q := h
theorem v_geI {n m : Int} (h : Q (.bl (decide (m ≤ n))) H) : aGe (.int n) (.int m) H Q := h
theorem dec_i {n m : Int} : decide (V.int n = V.int m) = decide (n = m) := by simp
theorem v_eqI {n m : Int} (h : Q (.bl (decide (n = m))) H) : aEq K (.int n) (.int m) H Q := .inl ⟨rfl, by rw [dec_i]; exact h⟩
theorem v_neI {n m : Int} (h : Q (.bl (!decide (n = m))) H) : aNe K (.int n) (.int m) H Q := .inl ⟨rfl, by rw [dec_i]; exact h⟩
theorem v_eqB {n m : Bool} (h : Q (.bl (decide (n = m))) H) : aEq K (.bl n) (.bl m) H Q := .inl ⟨rfl, by rw [show decide (V.bl n = V.bl m) = decide (n = m) by simp]; exact h⟩
theorem v_neB {n m : Bool} (h : Q (.bl (!decide (n = m))) H) : aNe K (.bl n) (.bl m) H Q := .inl ⟨rfl, by rw [show decide (V.bl n = V.bl m) = decide (n = m) by simp]; exact h⟩
theorem v_eqS {n m : Str} (h : Q (.bl (decide (n = m))) H) : aEq K (.str n) (.str m) H Q := .inl ⟨rfl, by rw [show decide (V.str n = V.str m) = decide (n = m) by simp]; exact h⟩
theorem v_neS {n m : Str} (h : Q (.bl (!decide (n = m))) H) : aNe K (.str n) (.str m) H Q := .inl ⟨rfl, by rw [show decide (V.str n = V.str m) = decide (n = m) by simp]; exact h⟩
theorem v_eqO (hs : scal x y = true) (h : Q (.bl (decide (x = y))) H) : aEq K x y H Q := .inl ⟨hs, h⟩
theorem v_neO (hs : scal x y = true) (h : Q (.bl (!decide (x = y))) H) : aNe K x y H Q := .inl ⟨hs, h⟩
theorem v_eqD {d e : PyData} (h1 : Dp K H x d) (h2 : Dp K H y e) (h3 : SeqAt.shaped d = true) (h4 : SeqAt.shaped e = true) (h : Q (.bl (PyData.eqv d e)) H) : aEq K x y H Q := .inr ⟨d, e, h1, h2, h3, h4, h⟩
theorem v_neD {d e : PyData} (h1 : Dp K H x d) (h2 : Dp K H y e) (h3 : SeqAt.shaped d = true) (h4 : SeqAt.shaped e = true) (h : Q (.bl (!PyData.eqv d e)) H) : aNe K x y H Q := .inr ⟨d, e, h1, h2, h3, h4, h⟩
theorem v_isN (h : Q (.bl (decide (x = .non))) H) : aIsN x .non H Q := ⟨rfl, h⟩
theorem v_notN (h : Q (.bl (!decide (x = .non))) H) : aNotN x .non H Q := ⟨rfl, h⟩
theorem v_ipAdd {n m : Int} (h : Q (.int (n + m)) H) : (fun (x y : V) (H : Hp) (Q : VK) => match x, y with | .int i, .int j => Q (.int (i + j)) H | _, _ => False) (.int n) (.int m) H Q := h
def aIpAdd : TIp := fun x y H Q => match x, y with
  | .int i, .int j => Q (.int (i + j)) H
  | _, _ => False
def aIpSub : TIp := fun x y H Q => match x, y with
  | .int i, .int j => Q (.int (i - j)) H
  | _, _ => False
theorem ip_add' {X : Cx} : PIp X .Add aIpAdd := ipAdd
theorem ip_sub' {X : Cx} : PIp X .Sub aIpSub := ipSub
theorem v_ipA {n m : Int} (h : Q (.int (n + m)) H) : aIpAdd (.int n) (.int m) H Q := h
theorem v_ipS {n m : Int} (h : Q (.int (n - m)) H) : aIpSub (.int n) (.int m) H Q := h

/-! ways -/
theorem r_T (h : A) : if true = true then A else B := by rw [if_pos rfl]; exact h
theorem r_F (h : B) : if false = true then A else B := by rw [if_neg Bool.false_ne_true]; exact h
theorem r_nT (h : B) : if (!true) = true then A else B := by rw [if_neg (by decide)]; exact h
theorem r_nF (h : A) : if (!false) = true then A else B := by rw [if_pos (by decide)]; exact h
theorem r_w {c : Prop} [Decidable c] (h1 : c → A) (h2 : ¬ c → B) : if decide c = true then A else B := by
  by_cases h : c
  · rw [decide_eq_true h, if_pos rfl]; exact h1 h
  · rw [decide_eq_false h, if_neg Bool.false_ne_true]; exact h2 h
theorem r_nw {c : Prop} [Decidable c] (h1 : ¬ c → A) (h2 : c → B) : if (!decide c) = true then A else B := by
  by_cases h : c
  · rw [decide_eq_true h]; exact r_nT (h2 h)
  · rw [decide_eq_false h]; exact r_nF (h1 h)
theorem r_b (h1 : b = true → A) (h2 : b = false → B) : if b = true then A else B := by
  cases b with
  | true => exact r_T (h1 rfl)
  | false => exact r_F (h2 rfl)
theorem r_nb (h1 : b = false → A) (h2 : b = true → B) : if (!b) = true then A else B := by
  cases b with
  | true => exact r_nT (h2 rfl)
  | false => exact r_nF (h1 rfl)
theorem r_wT {c : Prop} [Decidable c] (hc : c) (h : A) : if decide c = true then A else B := r_w (fun _ => h) fun n => (n hc).elim
theorem r_wF {c : Prop} [Decidable c] (hc : ¬ c) (h : B) : if decide c = true then A else B := r_w (fun n => (hc n).elim) fun _ => h
theorem r_nwT {c : Prop} [Decidable c] (hc : ¬ c) (h : A) : if (!decide c) = true then A else B := r_nw (fun _ => h) fun n => (hc n).elim
theorem r_nwF {c : Prop} [Decidable c] (hc : c) (h : B) : if (!decide c) = true then A else B := r_nw (fun n => (n hc).elim) fun _ => h

/-! loops -/
/-- while: W by a measure; the body is read for the next turn -/
theorem r_while {c : TT} (W : Nat → L2.St → Hp → Prop) (h0 : ∃ m, W m σ H)
    (hs : ∀ m σ H, W m σ H → c σ H fun b H1 => if b = true then ∃ N : L2.St → Hp → Prop, (∀ σ' H', N σ' H' → ∃ m', m' < m ∧ W m' σ' H') ∧ t1 { D with nx := N, ct := N, bk := D.nx } σ H1 else D.nx σ H1) : tWhile c t1 D σ H := ⟨W, h0, hs⟩
theorem r_next_turn {W : Nat → L2.St → Hp → Prop} {m : Nat} {P : (L2.St → Hp → Prop) → Prop} (h : P (fun σ' H' => ∃ m', m' < m ∧ W m' σ' H')) : ∃ N : L2.St → Hp → Prop, (∀ σ' H', N σ' H' → ∃ m', m' < m ∧ W m' σ' H') ∧ P N := ⟨_, fun _ _ h => h, h⟩
theorem r_rng1 {J : It → Hp → Prop} {n : Int} (h0 : -(2 ^ 62) ≤ n ∧ n < 2 ^ 62) (h : J (Itr 0 n.toNat) H) (ha : as σ H = fun QA => QA [.int n] H) : iRng1 as σ H J := by
  unfold iRng1
  rw [ha]
  exact ⟨n, rfl, h0.1, h0.2, h⟩
end

/-! ### defs by their names -/
/-- the module's name x holds a def that keeps sp; dvs: its defaults -/
structure Cal (P : Program) (w : World) (K : PySem.W.Frag) (mg : Str → Option Value) (base : Heap) (CX : CXT) (k : Nat) (x : Str) (dvs : List V) (sp : Sp) : Prop where
  ex : ∃ (f : Addr) (fd : FuncData) (ps : List Str) (ds : List Value), mg x = some (.ref f) ∧ PySem.W.keepIn K (.ref f) = true ∧ Binds K fd ps ds ∧ Vals dvs ds ∧ FnOk P w K mg base CX k f fd ps sp
/-- the class at C has a method m that keeps sp -/
structure CalM (P : Program) (w : World) (K : PySem.W.Frag) (mg : Str → Option Value) (base : Heap) (CX : CXT) (k : Nat) (C : Addr) (m : Str) (dvs : List V) (sp : Sp) : Prop where
  cl : Cls K C
  ex : ∃ (f : Addr) (fd : FuncData) (ps : List Str) (ds : List Value), Meth K C m f ∧ Binds K fd ps ds ∧ Vals dvs ds ∧ FnOk P w K mg base CX k f fd ps sp
/-- the name x holds the class at C, made by an __init__ that keeps sp -/
structure CalC (P : Program) (w : World) (K : PySem.W.Frag) (mg : Str → Option Value) (base : Heap) (CX : CXT) (k : Nat) (x : Str) (C : Addr) (dvs : List V) (sp : Sp) : Prop where
  ex : ∃ (f : Addr) (fd : FuncData) (ps : List Str) (ds : List Value), mg x = some (.ref C) ∧ Mk K C f ∧ Binds K fd ps ds ∧ Vals dvs ds ∧ FnOk P w K mg base CX k f fd ps sp
section
variable {X : Cx} {CX : CXT} {k j : Nat} {C : Addr} {sp : Sp} {dvs : List V} {E : XK} {x m : Str} {p pos apos : Pos} {e o : Expr} {es : List Expr} {ta : TE} {t : TA}
theorem pe_callF (c : Cal X.prog X.w X.K X.mg X.base CX j x dvs sp) (hr : Room k X.A) (hg : Gl X x) (hx : Passes CX X E) (ha : PA X (e :: es) t) (hk : j ≤ k := by decide)
    (hdb : (x == ("__debug__" : Str)) = false := by decide) (he : starEach (e :: es) X.env = (false, eval e X.env) :: starEach es X.env := by rfl) (hpl : (backTo pos (starEach es X.env)).any (·.1) = false := by rfl) :
    PE X (.Call (.Name x p) (e :: es) [] pos) (tCall sp dvs E t) := by
  obtain ⟨f, fd, ps, ds, h1, h2, h3, h4, h5⟩ := c.ex
  exact pe_call h5 (hr.mono hk) hg h1 h2 h3 h4 hx ha hdb he hpl
theorem pe_callF0 (c : Cal X.prog X.w X.K X.mg X.base CX j x dvs sp) (hr : Room k X.A) (hg : Gl X x) (hx : Passes CX X E) (hk : j ≤ k := by decide)
    (hdb : (x == ("__debug__" : Str)) = false := by decide) : PE X (.Call (.Name x p) [] [] pos) (tCall sp dvs E tNil) := by
  obtain ⟨f, fd, ps, ds, h1, h2, h3, h4, h5⟩ := c.ex
  exact pe_call0 h5 (hr.mono hk) hg h1 h2 h3 h4 hx hdb
theorem pe_methF {pl : Sem Bool} (he : PE X o ta) (c : CalM X.prog X.w X.K X.mg X.base CX j C m dvs sp) (hr : Room k X.A) (hx : Passes CX X E) (ha : PA X (e :: es) t) (hk : j ≤ k := by decide)
    (hst : starEach (e :: es) X.env = (false, eval e X.env) :: starEach es X.env := by rfl) (hpl : (backTo pos (starEach es X.env)).any (·.1) = false := by rfl)
    (ht : eval (.Call (.Attribute o m apos) (e :: es) [] pos) X.env = (do
      let ov ← eval o X.env
      standAt apos.atName
      let (f, first) ← holding [ov] (getMethod ov m pl)
      callWith pos f first (backTo pos (starEach (e :: es) X.env)) (backToKw pos (keywordEach [] X.env))) := by rfl) :
    PE X (.Call (.Attribute o m apos) (e :: es) [] pos) (tMeth C m sp dvs E ta t) := by
  obtain ⟨f, fd, ps, ds, h1, h3, h4, h5⟩ := c.ex
  exact pe_meth he c.cl h1 h5 (hr.mono hk) h3 h4 hx ha hst hpl ht
theorem pe_methF0 {pl : Sem Bool} (he : PE X o ta) (c : CalM X.prog X.w X.K X.mg X.base CX j C m dvs sp) (hr : Room k X.A) (hx : Passes CX X E) (hk : j ≤ k := by decide)
    (ht : eval (.Call (.Attribute o m apos) [] [] pos) X.env = (do
      let ov ← eval o X.env
      standAt apos.atName
      let (f, first) ← holding [ov] (getMethod ov m pl)
      callWith pos f first (backTo pos (starEach [] X.env)) (backToKw pos (keywordEach [] X.env))) := by rfl) :
    PE X (.Call (.Attribute o m apos) [] [] pos) (tMeth C m sp dvs E ta tNil) := by
  obtain ⟨f, fd, ps, ds, h1, h3, h4, h5⟩ := c.ex
  exact pe_meth0 he c.cl h1 h5 (hr.mono hk) h3 h4 hx ht
theorem pe_makeF (c : CalC X.prog X.w X.K X.mg X.base CX j x C dvs sp) (hr : Room k X.A) (hg : Gl X x) (hx : Passes CX X E) (ha : PA X (e :: es) t) (hk : j + 1 ≤ k := by decide)
    (hdb : (x == ("__debug__" : Str)) = false := by decide) (he : starEach (e :: es) X.env = (false, eval e X.env) :: starEach es X.env := by rfl) (hpl : (backTo pos (starEach es X.env)).any (·.1) = false := by rfl) :
    PE X (.Call (.Name x p) (e :: es) [] pos) (tMake C sp dvs E t) := by
  obtain ⟨f, fd, ps, ds, h1, h2, h3, h4, h5⟩ := c.ex
  exact pe_make h2 h5 (hr.mono hk) hg h1 h3 h4 hx ha hdb he hpl
theorem pe_makeF0 (c : CalC X.prog X.w X.K X.mg X.base CX j x C dvs sp) (hr : Room k X.A) (hg : Gl X x) (hx : Passes CX X E) (hk : j + 1 ≤ k := by decide)
    (hdb : (x == ("__debug__" : Str)) = false := by decide) : PE X (.Call (.Name x p) [] [] pos) (tMake C sp dvs E tNil) := by
  obtain ⟨f, fd, ps, ds, h1, h2, h3, h4, h5⟩ := c.ex
  exact pe_make0 h2 h5 (hr.mono hk) hg h1 h3 h4 hx hdb
end
/-- a walked thing in a for, in a comprehension -/
theorem r_for {wi : TI} {g : TG} {tb : TS} {D : Ends} {σ : L2.St} {H : Hp} (h : wi σ H fun J H1 => ∃ W : Nat → Nat → L2.St → Hp → Prop, (∃ m, W 0 m σ H1) ∧ ∀ i m σ H, W i m σ H →
  (J.stop i H ∧ D.nx σ H) ∨ (J.go i H ∧ ∃ N : L2.St → Hp → Prop, (∀ σ' H', N σ' H' → ∃ m', m' < m ∧ W (i + 1) m' σ' H') ∧ ∀ x H', J.yld i H x H' → g x σ H' fun σ2 H2 => tb { D with nx := N, ct := N, bk := D.nx } σ2 H2)) : tFor wi g tb D σ H := h
theorem r_lc {wi : TI} {g : TG} {tt : TT} {te : TE} {vs : List Nat} {σ : L2.St} {H : Hp} {Q : VK} (h : wi σ H fun J H1 => ∀ D, H1 D = none → ∃ W : Nat → Nat → Hp → Prop, (∃ m, W 0 m (upd H1 D (.lst []))) ∧ ∀ i m H, W i m H →
  (J.stop i H ∧ Q (.ref D) H) ∨ (J.go i H ∧ ∃ Nx : Hp → Prop, (∀ H', Nx H' → ∃ m', m' < m ∧ W (i + 1) m' H') ∧ ∀ x H', J.yld i H x H' → g x (wipe σ vs) H' fun σ2 H2 => wipe σ2 vs = wipe σ vs ∧ tt σ2 H2 fun b H3 =>
    if b = true then te σ2 H3 fun y H4 => ∃ acc, H4 D = some (.lst acc) ∧ acc.length < sizeLine ∧ Nx (upd H4 D (.lst (acc ++ [y]))) else Nx H3)) : tLc wi g tt te vs σ H Q := h
section
variable {K : PySem.W.Frag} {tl : TE} {as : TA} {σ : L2.St} {H : Hp} {R : It → Hp → Prop}
def kList (K : PySem.W.Frag) (R : It → Hp → Prop) : V → Hp → Prop := fun x H1 => ∃ a, x = .ref a ∧ (∃ xs, SqL K H1 a xs) ∧ R (Itl K a) H1
def kTupI (K : PySem.W.Frag) (R : It → Hp → Prop) : V → Hp → Prop := fun x H1 => ∃ a, x = .ref a ∧ (∃ xs, SqT K H1 a xs) ∧ R (Itt K a) H1
def kRng1 (R : It → Hp → Prop) : List V → Hp → Prop := fun vs H1 => ∃ j : Int, vs = [.int j] ∧ -(2 ^ 62) ≤ j ∧ j < 2 ^ 62 ∧ R (Itr 0 j.toNat) H1
def kRng2 (R : It → Hp → Prop) : List V → Hp → Prop := fun vs H1 => ∃ i j : Int, vs = [.int i, .int j] ∧ (-(2 ^ 62) ≤ i ∧ i < 2 ^ 62 ∧ -(2 ^ 62) ≤ j ∧ j < 2 ^ 62) ∧ R (Itr i (j - i).toNat) H1
def kRng3 (R : It → Hp → Prop) : List V → Hp → Prop := fun vs H1 => ∃ (i j c : Int) (n : Nat), vs = [.int i, .int j, .int c] ∧ RgC i j c n ∧ R (Itc i c n) H1
def kEnum (K : PySem.W.Frag) (R : It → Hp → Prop) : List V → Hp → Prop := fun vs H1 => ∃ a xs, vs = [.ref a] ∧ SqL K H1 a xs ∧ R (Ite K a) H1
def kZip (K : PySem.W.Frag) (R : It → Hp → Prop) : List V → Hp → Prop := fun vs H1 => ∃ a b xs ys, vs = [.ref a, .ref b] ∧ SqL K H1 a xs ∧ SqL K H1 b ys ∧ R (Itz K a b) H1
def kRev (K : PySem.W.Frag) (R : It → Hp → Prop) : List V → Hp → Prop := fun vs H1 => ∃ (a : Addr) (xs : List V), vs = [.ref a] ∧ SqL K H1 a xs ∧ R (Itv K a xs.length) H1
theorem r_iList (h : tl σ H (kList K R)) : iList K tl σ H R := h
theorem r_iTup (h : tl σ H (kTupI K R)) : iTup K tl σ H R := h
theorem r_iRng1 (h : as σ H (kRng1 R)) : iRng1 as σ H R := h
theorem r_iRng2 (h : as σ H (kRng2 R)) : iRng2 as σ H R := h
theorem r_iRng3 (h : as σ H (kRng3 R)) : iRng3 as σ H R := h
theorem r_iEnum (h : as σ H (kEnum K R)) : iEnum K as σ H R := h
theorem r_iZip (h : as σ H (kZip K R)) : iZip K as σ H R := h
theorem r_iRev (h : as σ H (kRev K R)) : iRev K as σ H R := h
theorem v_iList {a : Addr} {xs : List V} (h : SqL K H a xs) (k : R (Itl K a) H) : kList K R (.ref a) H := ⟨a, rfl, ⟨xs, h⟩, k⟩
theorem v_iTup {a : Addr} {xs : List V} (h : SqT K H a xs) (k : R (Itt K a) H) : kTupI K R (.ref a) H := ⟨a, rfl, ⟨xs, h⟩, k⟩
theorem v_rng1 {n : Int} (h0 : -(2 ^ 62) ≤ n ∧ n < 2 ^ 62) (k : R (Itr 0 n.toNat) H) : kRng1 R [.int n] H := ⟨n, rfl, h0.1, h0.2, k⟩
theorem v_rng2 {n m : Int} (h0 : -(2 ^ 62) ≤ n ∧ n < 2 ^ 62 ∧ -(2 ^ 62) ≤ m ∧ m < 2 ^ 62) (k : R (Itr n (m - n).toNat) H) : kRng2 R [.int n, .int m] H := ⟨n, m, rfl, h0, k⟩
theorem v_rng3 {i j c : Int} {n : Nat} (h0 : RgC i j c n) (k : R (Itc i c n) H) : kRng3 R [.int i, .int j, .int c] H := ⟨i, j, c, n, rfl, h0, k⟩
theorem v_enum {a : Addr} {xs : List V} (h : SqL K H a xs) (k : R (Ite K a) H) : kEnum K R [.ref a] H := ⟨a, xs, rfl, h, k⟩
theorem v_zip {a b : Addr} {xs ys : List V} (h : SqL K H a xs) (h2 : SqL K H b ys) (k : R (Itz K a b) H) : kZip K R [.ref a, .ref b] H := ⟨a, b, xs, ys, rfl, h, h2, k⟩
theorem v_rev1 {a : Addr} {xs : List V} (h : SqL K H a xs) (k : R (Itv K a xs.length) H) : kRev K R [.ref a] H := ⟨a, xs, rfl, h, k⟩
end
end SH


set_option Elab.async false
set_option linter.all false
set_option maxRecDepth 100000
set_option maxHeartbeats 4000000
/-! SHC: lengths, places, fields, constants -/
namespace SH
open PySem PySem.Spec PyProof.Rows L2

def Sq (K : PySem.W.Frag) (H : Hp) (a : Addr) (xs : List V) : Prop := SqL K H a xs ∨ SqT K H a xs
def aLen (K : PySem.W.Frag) : List V → Hp → VK → Prop := fun vs H Q => match vs with
  | [.ref p] => ∃ xs, Sq K H p xs ∧ Q (.int xs.length) H
  | [.str y] => y.length ≤ sizeLine ∧ Q (.int y.length) H
  | _ => False
def aIx (K : PySem.W.Frag) : R2 := fun x y H Q => match x, y with
  | .ref p, .int i => ∃ xs v, Sq K H p xs ∧ atI xs i = some v ∧ Q v H
  | .str z, .int i => ∃ c, z.length ≤ sizeLine ∧ atI z.cps.toList i = some c ∧ Q (.str ⟨#[c]⟩) H
  | _, _ => False
section
variable {X : Cx} {o e value : Expr} {f : Str} {pos tpos pos' : Pos} {ta tv : TE} {C : Addr}
theorem cLen : CallR X (.builtin "len") (aLen X.K) := by
  intro pins s σ H xs us Q I r h
  match xs, r, h with
  | [], _, h => exact False.elim h
  | [.ref p], r, h =>
    obtain ⟨ys, hq, q⟩ := h
    exact call_len pins s σ H _ us Q I r ⟨.ref p, ys.length, rfl, hq.elim (fun z => .inl ⟨ys, z, rfl⟩) fun z => .inr ⟨ys, z, rfl⟩, q⟩
  | [.str y], r, h => exact call_len pins s σ H _ us Q I r ⟨.str y, y.length, rfl, ⟨h.1, rfl⟩, h.2⟩
  | [.non], _, h => exact False.elim h
  | [.bl _], _, h => exact False.elim h
  | [.int _], _, h => exact False.elim h
  | [.byt _], _, h => exact False.elim h
  | [.flt _], _, h => exact False.elim h
  | [.ty _], _, h => exact False.elim h
  | _ :: _ :: _, _, h => revert h; intro h; simp [aLen] at h
theorem ixA : IxR X (aIx X.K) := by
  intro value slice pins s σ H x y v u Q I rx ry h hs
  cases x <;> cases y <;> first | exact False.elim h | skip
  · obtain ⟨c, h1, h2, q⟩ := h
    exact ix_str value slice pins s σ H _ _ v u Q I rx ry ⟨_, _, c, rfl, rfl, h1, h2, q⟩ hs
  · obtain ⟨xs, w, hq, h2, q⟩ := h
    rcases hq with hq | hq
    · exact ix_list value slice pins s σ H _ _ v u Q I rx ry ⟨_, xs, _, w, rfl, rfl, hq, h2, q⟩ hs
    · exact ix_tup value slice pins s σ H _ _ v u Q I rx ry ⟨_, xs, _, w, rfl, rfl, hq, h2, q⟩ hs
/-- e.f, the class known -/
def tFldF (C : Addr) (ta : TE) (f : Str) : TE := fun σ H Q => ta σ H fun x H1 => ∃ a dx fs v, x = .ref a ∧ H1 a = some (.ins C dx fs) ∧ fs.lookup f = some v ∧ Q v H1
theorem pe_fldF (cl : Cls X.K C) (na : NoAttr X.K C f) (he : PE X e ta) (hb : attributeBase e f X.env (eval e X.env) = eval e X.env := by rfl) : PE X (.Attribute e f pos) (tFldF C ta f) := by
  refine ⟨fun pins s σ H Q I h => ?_⟩
  refine attr_of hb (thn (he.run pins s σ H _ I h) fun u s1 ⟨x, H1, I1, rx, a, dx, fs, v, ex, ea, l, q⟩ => ?_)
  subst ex
  obtain rfl : u = Value.ref a := rx
  exact getattr_ok I1 ea cl na l fun u' s2 I2 ru => ⟨v, H1, I2, ru, q⟩
def sFldF (C : Addr) (ta tv : TE) (f : Str) : TS := fun D σ H => tv σ H fun y H1 => ta σ H1 fun x H2 => ∃ a dx fs, x = .ref a ∧ H2 a = some (.ins C dx fs) ∧ fs.length < 1000 ∧ D.nx σ (upd H2 a (.ins C dx (putF f y fs)))
theorem ps_fldF (cl : Cls X.K C) (na : NoAttr X.K C f) (ha : PE X o ta) (hv : PE X value tv) (hs : swapsWith value (some (.Attribute o f pos')) pos.line X.env = pure false) : PS X (.Assign [.Attribute o f pos'] value pos) (sFldF C ta tv f) := by
  refine ⟨fun pins s σ H D I h => ?_⟩
  refine plainObj_wpAny_Assign_Attribute (thn (hv.run pins s σ H _ I h) fun u s1 ⟨y, H1, I1, ry, q⟩ => thn (ha.run pins s1 σ H1 _ I1 q) fun ov s2 ⟨x, H2, I2, rx, a, dx, fs, ex, ea, l, q2⟩ => ?_) hs
  subst ex
  obtain rfl : ov = Value.ref a := rx
  exact setattr_ok I2 ea cl na l ry fun s3 I3 => ⟨σ, _, I3, q2⟩
def sFldAugF (C : Addr) (ta tv : TE) (rd : V → V → Hp → VK → Prop) (f : Str) : TS := fun D σ H => ta σ H fun x H1 => ∃ a dx fs v, x = .ref a ∧ H1 a = some (.ins C dx fs) ∧ fs.lookup f = some v ∧
  tv σ H1 fun y H2 => rd v y H2 fun z H3 => ∃ dx' fs', H3 a = some (.ins C dx' fs') ∧ fs'.length < 1000 ∧ D.nx σ (upd H3 a (.ins C dx' (putF f z fs')))
theorem ps_fldaugF {op : Operator} {rd : V → V → Hp → VK → Prop} (cl : Cls X.K C) (na : NoAttr X.K C f) (ha : PE X o ta) (hv : PE X value tv) (hop : InOp X op rd) : PS X (.AugAssign (.Attribute o f tpos) op value pos) (sFldAugF C ta tv rd f) := by
  refine ⟨fun pins s σ H D I h => ?_⟩
  refine wpAny_AugAssign_AttributeAny (thn (ha.run pins s σ H _ I h) fun ov s1 ⟨x, H1, I1, rx, a, dx, fs, v, ex, ea, l, q⟩ => ?_)
  subst ex
  obtain rfl : ov = Value.ref a := rx
  refine getattr_ok I1 ea cl na l fun u s2 I2 ru => thn (hv.run pins s2 σ H1 _ I2 q) fun w3 s3 ⟨y, H2, I3, ry, q3⟩ => thn (hop pins s3 σ H2 v y u w3 _ I3 ru ry q3) fun w4 s4 ⟨z, H3, I4, rz, dx', fs', ea', l', q4⟩ => ?_
  exact setattr_ok I4 ea' cl na l' rz fun s5 I5 => ⟨σ, _, I5, q4⟩
theorem in_add' : InOp X .Add aIpAdd := ip_add'
theorem in_sub' : InOp X .Sub aIpSub := ip_sub'
/-- a module's constant that is an int -/
theorem pe_k {x : Str} {v : V} (hm : ∃ u, X.mg x = some u ∧ RelV v u) (hg : Gl X x := by rfl) (hd : (x == ("__debug__" : Str)) = false := by decide) : PE X (.Name x pos) (tC v) := by
  obtain ⟨u, h1, h2⟩ := hm
  exact pe_glob hg h1 h2 hd
/-- xs[i], for xs[i] op= e -/
def aGetL (K : PySem.W.Frag) : V → V → Hp → VK → Prop := fun o i H Q => ∃ p xs k v, o = .ref p ∧ i = .int k ∧ H p = some (.lst xs) ∧ 0 ≤ k ∧ k < 2 ^ 63 ∧ xs[k.toNat]? = some v ∧ Q v H
theorem getL : PGet X (aGetL X.K) := by
  intro pins s σ H o i ov iv Q I ro ri h
  obtain ⟨p, xs, k, v, rfl, rfl, hp, h0, h1, hv, q⟩ := h
  cases ro
  obtain ⟨t, rfl⟩ := ri
  obtain ⟨its, r, pl, hz⟩ := I.list (SqL.of (K := X.K) hp)
  obtain ⟨w, ew, rw'⟩ := r.get hv
  exact wpAny_getItem_list pl.isList h0 h1 (by simpa using ew) ⟨v, H, I, rw', q⟩
end
section
variable {K : PySem.W.Frag} {H : Hp} {Q : VK} {x y v : V} {a p dx C : Addr} {fs : List (Str × V)} {f : Str} {xs : List V} {i : Int} {n : Nat} {ta tv : TE} {σ : L2.St} {D : Ends}
theorem v_lenL (h : SqL K H p xs) (k : Q (.int xs.length) H) : aLen K [.ref p] H Q := ⟨xs, .inl h, k⟩
theorem v_lenLm {α : Type} {f : α → V} {ns : List α} (h : SqL K H p (ns.map f)) (k : Q (.int ns.length) H) : aLen K [.ref p] H Q := ⟨_, .inl h, by rw [List.length_map]; exact k⟩
theorem v_lenTm {α : Type} {f : α → V} {ns : List α} (h : SqT K H p (ns.map f)) (k : Q (.int ns.length) H) : aLen K [.ref p] H Q := ⟨_, .inr h, by rw [List.length_map]; exact k⟩
theorem v_lenT (h : SqT K H p xs) (k : Q (.int xs.length) H) : aLen K [.ref p] H Q := ⟨xs, .inr h, k⟩
theorem v_ixL (h : SqL K H p xs) (ha : atI xs i = some v) (k : Q v H) : aIx K (.ref p) (.int i) H Q := ⟨xs, v, .inl h, ha, k⟩
theorem v_ixT (h : SqT K H p xs) (ha : atI xs i = some v) (k : Q v H) : aIx K (.ref p) (.int i) H Q := ⟨xs, v, .inr h, ha, k⟩
/-- at a place n -/
theorem v_ixLn (h : SqL K H p xs) (e : i = (n : Int)) (ha : xs[n]? = some v) (k : Q v H) : aIx K (.ref p) (.int i) H Q := ⟨xs, v, .inl h, by rw [e]; exact atI_nat ha, k⟩
theorem v_ixTn (h : SqT K H p xs) (e : i = (n : Int)) (ha : xs[n]? = some v) (k : Q v H) : aIx K (.ref p) (.int i) H Q := ⟨xs, v, .inr h, by rw [e]; exact atI_nat ha, k⟩
def kFld (C : Addr) (f : Str) (Q : VK) : VK := fun x H1 => ∃ a dx fs v, x = .ref a ∧ H1 a = some (.ins C dx fs) ∧ fs.lookup f = some v ∧ Q v H1
theorem r_fldF (h : ta σ H (kFld C f Q)) : tFldF C ta f σ H Q := h
theorem v_fld (h : H a = some (.ins C dx fs)) (l : fs.lookup f = some v) (k : Q v H) : kFld C f Q (.ref a) H := ⟨a, dx, fs, v, rfl, h, l, k⟩
def kSfld (C : Addr) (f : Str) (y : V) (R : Hp → Prop) : VK := fun x H2 => ∃ a dx fs, x = .ref a ∧ H2 a = some (.ins C dx fs) ∧ fs.length < 1000 ∧ R (upd H2 a (.ins C dx (putF f y fs)))
theorem r_sfldF (h : tv σ H fun y H1 => ta σ H1 (kSfld C f y (D.nx σ))) : sFldF C ta tv f D σ H := h
theorem v_sfld {fs' : List (Str × V)} {R : Hp → Prop} (h : H a = some (.ins C dx fs)) (l : fs.length < 1000) (e : putF f y fs = fs') (k : R (upd H a (.ins C dx fs'))) : kSfld C f y R (.ref a) H := ⟨a, dx, fs, rfl, h, l, by rw [e]; exact k⟩
def kAug1 (C : Addr) (f : Str) (R : V → Addr → Hp → Prop) : VK := fun x H1 => ∃ a dx fs v, x = .ref a ∧ H1 a = some (.ins C dx fs) ∧ fs.lookup f = some v ∧ R v a H1
def kAug2 (C : Addr) (f : Str) (a : Addr) (R : Hp → Prop) : VK := fun z H3 => ∃ dx' fs', H3 a = some (.ins C dx' fs') ∧ fs'.length < 1000 ∧ R (upd H3 a (.ins C dx' (putF f z fs')))
theorem r_sfldAugF {rd : V → V → Hp → VK → Prop} (h : ta σ H (kAug1 C f fun v a H1 => tv σ H1 fun y H2 => rd v y H2 (kAug2 C f a (D.nx σ)))) : sFldAugF C ta tv rd f D σ H := h
theorem v_aug1 {R : V → Addr → Hp → Prop} (h : H a = some (.ins C dx fs)) (l : fs.lookup f = some v) (k : R v a H) : kAug1 C f R (.ref a) H := ⟨a, dx, fs, v, rfl, h, l, k⟩
theorem v_aug2 {fs' : List (Str × V)} {R : Hp → Prop} (h : H a = some (.ins C dx fs)) (l : fs.length < 1000) (e : putF f y fs = fs') (k : R (upd H a (.ins C dx fs'))) : kAug2 C f a R y H := ⟨dx, fs, h, l, by rw [e]; exact k⟩
theorem v_getL (h : H p = some (.lst xs)) (e : i = (n : Int)) (hn : n < 1000000) (ha : xs[n]? = some v) (k : Q v H) : aGetL K (.ref p) (.int i) H Q := ⟨p, xs, i, v, rfl, rfl, h, by omega, by omega, by rw [e]; exact ha, k⟩
theorem ixN_n {m n : Nat} (h : n < m) : ixN m (n : Int) = some n := by
  unfold ixN
  rw [if_pos (by omega), if_pos (by omega)]
  simp
theorem v_setL {P : Hp → Prop} (h : H p = some (.lst xs)) (e : i = (n : Int)) (hn : n < xs.length) (k : P (upd H p (.lst (xs.set n v)))) : rSetL (.ref p) (.int i) v H P := ⟨p, xs, i, n, rfl, rfl, h, by rw [e]; exact ixN_n hn, k⟩
theorem v_append {P : Hp → Prop} (h : H p = some (.lst xs)) (hn : xs.length < 1000000) (k : P (upd H p (.lst (xs ++ [v])))) : tyV K "list" (.ref p) H ∧ rAppend (.ref p) [v] H (fun _ H' => P H') := ⟨.inl ⟨rfl, xs, SqL.of h⟩, p, xs, v, rfl, rfl, h, Nat.lt_trans hn (by decide), k⟩
theorem ty_list (h : H p = some (.lst xs)) : tyV K "list" (.ref p) H := .inl ⟨rfl, xs, SqL.of h⟩
theorem v_app (h : H p = some (.lst xs)) (hn : xs.length < 1000000) (k : Q .non (upd H p (.lst (xs ++ [v])))) : rAppend (.ref p) [v] H Q := ⟨p, xs, v, rfl, rfl, h, Nat.lt_trans hn (by decide), k⟩
theorem v_ext {b : Addr} {ys : List V} (h : H p = some (.lst xs)) (h2 : H b = some (.lst ys)) (hn : xs.length + ys.length ≤ 1000000) (k : Q .non (upd H p (.lst (xs ++ ys)))) : rExtend (.ref p) [.ref b] H Q := ⟨p, b, xs, ys, rfl, rfl, h, h2, Nat.le_trans hn (by decide), k⟩
theorem v_rev (h : H p = some (.lst xs)) (k : Q .non (upd H p (.lst xs.reverse))) : rReverse (.ref p) [] H Q := ⟨p, xs, rfl, rfl, h, k⟩
theorem v_clear (h : H p = some (.lst xs)) (k : Q .non (upd H p (.lst []))) : rClear (.ref p) [] H Q := ⟨p, xs, rfl, rfl, h, k⟩
theorem v_pop (h : H p = some (.lst xs)) (hv : xs[xs.length - 1]? = some v) (k : Q v (upd H p (.lst xs.dropLast))) : rPop (.ref p) [] H Q := ⟨p, xs, v, rfl, rfl, h, hv, k⟩
theorem v_slL {lo hi : Option Int} (h : SqL K H p xs) (k : ∀ q, H q = none → Q (.ref q) (upd H q (.lst (cutV xs lo hi)))) : rSlL K (.ref p) lo hi H Q := ⟨p, xs, rfl, h, k⟩
theorem v_listL (h : SqL K H p xs) (k : ∀ l, H l = none → Q (.ref l) (upd H l (.lst xs))) : ∃ p' ys, [V.ref p] = [.ref p'] ∧ (SqL K H p' ys ∨ SqT K H p' ys) ∧ ∀ l, H l = none → Q (.ref l) (upd H l (.lst ys)) := ⟨p, xs, rfl, .inl h, k⟩
theorem v_listT (h : SqT K H p xs) (k : ∀ l, H l = none → Q (.ref l) (upd H l (.lst xs))) : ∃ p' ys, [V.ref p] = [.ref p'] ∧ (SqL K H p' ys ∨ SqT K H p' ys) ∧ ∀ l, H l = none → Q (.ref l) (upd H l (.lst ys)) := ⟨p, xs, rfl, .inr h, k⟩
theorem v_sum {ns : List Int} (h : SqL K H p (ns.map V.int)) (k : Q (.int ns.sum) H) : rSum K [.ref p] H Q := ⟨p, ns, rfl, h, k⟩
theorem v_isi {c : V} {t u : Value} {b : Bool} (h1 : ClsV c u) (h2 : TyX K H x t) (h3 : PySem.W.kitOne K t u = some b) (k : Q (.bl b) H) : rIsi K [x, c] H Q := ⟨x, c, t, u, b, rfl, h1, h2, h3, k⟩
theorem v_max2 {n m : Int} (k : Q (.int (if m > n then m else n)) H) : ∃ i j, [V.int n, V.int m] = [.int i, .int j] ∧ Q (.int (if j > i then j else i)) H := ⟨n, m, rfl, k⟩
theorem v_min2 {n m : Int} (k : Q (.int (if m < n then m else n)) H) : ∃ i j, [V.int n, V.int m] = [.int i, .int j] ∧ Q (.int (if j < i then j else i)) H := ⟨n, m, rfl, k⟩
theorem v_bits {n : Int} (k : Q (.int (Builtin.Int.intBits n : Nat)) H) : ∃ i, V.int n = .int i ∧ Q (.int (Builtin.Int.intBits i : Nat)) H := ⟨n, rfl, k⟩
theorem r_bits (h : ta σ H fun x H1 => ∃ i, x = .int i ∧ Q (.int (Builtin.Int.intBits i : Nat)) H1) : tBits ta σ H Q := h
end

/-- 10 ** 60 -/
def big60 : Int := 10 ^ 60
theorem big60_pos : 0 < big60 := by unfold big60; decide
theorem big60_lt : big60 < 2 ^ 200 := by unfold big60; decide +kernel
section
variable {K : PySem.W.Frag} {H : Hp} {Q : VK} {x : V}
theorem v_pow60 (k : Q (.int big60) H) : aPow (.int 10) (.int 60) H Q := ⟨⟨by decide, by decide, by decide⟩, k⟩
theorem v_isiIT {n : Int} (k : Q (.bl true) H) : rIsi K [.int n, .ty "int"] H Q := ⟨.int n, .ty "int", .type "int", .type "int", true, rfl, .ty _, .base (.int n), by rfl, k⟩
theorem v_isiIB {n : Int} (k : Q (.bl false) H) : rIsi K [.int n, .ty "bool"] H Q := ⟨.int n, .ty "bool", .type "int", .type "bool", false, rfl, .ty _, .base (.int n), by rfl, k⟩
end
theorem map_at {α : Type} {f : α → V} {ns : List α} {i : Nat} {x : V} (h : (ns.map f)[i]? = some x) : ∃ n, ns[i]? = some n ∧ x = f n := by
  rw [List.getElem?_map] at h
  cases e : ns[i]? with
  | none => rw [e] at h; cases h
  | some n => rw [e] at h; exact ⟨n, rfl, (Option.some.inj h).symm⟩
/-- a cut of any list -/
def cutL {α : Type} (xs : List α) (lo hi : Option Int) : List α := (xs.drop (HT.sIx xs.length 0 lo)).take (HT.sIx xs.length xs.length hi - HT.sIx xs.length 0 lo)
theorem cut_map {α : Type} (f : α → V) (ns : List α) (lo hi : Option Int) : cutV (ns.map f) lo hi = (cutL ns lo hi).map f := by
  unfold cutV cutL
  rw [List.length_map, List.map_take, List.map_drop]
theorem cutL_mem {α : Type} {xs : List α} {lo hi : Option Int} {x : α} (h : x ∈ cutL xs lo hi) : x ∈ xs := List.mem_of_mem_drop (List.mem_of_mem_take h)
theorem cutL_len {α : Type} (xs : List α) (lo hi : Option Int) : (cutL xs lo hi).length ≤ xs.length := by
  unfold cutL
  rw [List.length_take, List.length_drop]
  omega
theorem cutL_upto {α : Type} (xs : List α) (k : Nat) : cutL xs none (some (k : Int)) = xs.take k := by
  unfold cutL
  rw [HT.sIx_none, HT.sIx_nat, List.drop_zero, Nat.sub_zero, List.take_eq_take_iff]
  omega
theorem cutL_from {α : Type} (xs : List α) (k : Nat) : cutL xs (some (k : Int)) none = xs.drop k := by
  unfold cutL
  rw [HT.sIx_none, HT.sIx_nat]
  by_cases h : k ≤ xs.length
  · rw [Nat.min_eq_left h, List.take_of_length_le (by rw [List.length_drop]; omega)]
  · have e1 : min k xs.length = xs.length := by omega
    rw [e1, List.drop_length, List.drop_of_length_le (by omega), List.take_nil]
theorem cutL_span {α : Type} (xs : List α) (i j : Nat) : cutL xs (some (i : Int)) (some (j : Int)) = (xs.drop i).take (j - i) := by
  unfold cutL
  rw [HT.sIx_nat, HT.sIx_nat]
  by_cases h : i ≤ xs.length
  · rw [Nat.min_eq_left h]
    by_cases h2 : j ≤ xs.length
    · rw [Nat.min_eq_left h2]
    · rw [Nat.min_eq_right (by omega), List.take_of_length_le (by rw [List.length_drop]; omega), List.take_of_length_le (by rw [List.length_drop]; omega)]
  · have e1 : min i xs.length = xs.length := by omega
    rw [e1, List.drop_length, List.drop_of_length_le (by omega), List.take_nil, List.take_nil]
/-- what a law is asked: the script's ints in, True out -/
def lawSp (K : PySem.W.Frag) : Sp := fun vs H Q _ => ∃ (a : Addr) (ns : List Int), vs = [.ref a] ∧ SqL K H a (ns.map V.int) ∧ ns.length ≤ 63 ∧ ∀ H', Q (.bl true) H'
end SH

set_option Elab.async false
set_option linter.all false
set_option maxRecDepth 100000
set_option maxHeartbeats 4000000
/-! SHD: functions that are made by a def and handed out -/
namespace SH
open PySem PySem.Spec PyProof.Rows L2 NdefX LamX

/-- the cell at c holds v -/
def cellO (c : Addr) (v : V) : HO := .ext fun h => ∃ u, L2.RelV v u ∧ h.IsCell c (some u)
theorem cellO_ok {P : Program} {w : World} {H : Hp} {h : Heap} {c : Addr} {v : V} {u : Value} (r : L2.RelV v u) (e : h.IsCell c (some u)) : ObjOk P w H h c (cellO c v) := by
  refine ⟨⟨u, r, e⟩, ?_, fun h1 h2 ⟨u', r', o, ho, hd⟩ st => ⟨u', r', o, st o ho, hd⟩⟩
  obtain ⟨o, ho, _⟩ := e
  exact ⟨o, ho⟩
theorem cellO_at {P : Program} {w : World} {H : Hp} {h : Heap} {c : Addr} {v : V} (hok : HOk P w H h) (e : H c = some (cellO c v)) : ∃ u, L2.RelV v u ∧ h.IsCell c (some u) := (hok c _ e).1
/-- at f stands a function of the text st, made in the def of the name before it; its captured names fr hold ws -/
structure Clo (H : Hp) (f : Addr) (st : Stmt) (name qual : Str) (fr : List Str) (ws : List V) (cl : List (Str × Addr)) (c' : Addr) : Prop where
  fn : H f = some (FnO f (NF.of st name qual cl c'))
  code : H c' = some (CodeO c' qual)
  len : ws.length = fr.length
  cells : ∀ y c, (y, c) ∈ cl → ∃ v, H c = some (cellO c v)
  inj : ∀ x y c, cl.lookup x = some c → cl.lookup y = some c → x = y
  has : ∀ (i : Nat) (y : Str), fr[i]? = some y → ∃ c v, cl.lookup y = some c ∧ ws[i]? = some v ∧ H c = some (cellO c v)
theorem Clo.step {M : List Addr} {H H' : Hp} {f : Addr} {st : Stmt} {name qual : Str} {fr : List Str} {ws : List V} {cl : List (Str × Addr)} {c' : Addr} (c : Clo H f st name qual fr ws cl c') (s : Stp M H H') : Clo H' f st name qual fr ws cl c' := by
  refine ⟨s.fix c.fn True.intro, s.fix c.code True.intro, c.len, fun y a e => ?_, c.inj, fun i y e => ?_⟩
  · obtain ⟨v, h⟩ := c.cells y a e
    exact ⟨v, s.fix h True.intro⟩
  · obtain ⟨a, v, h1, h2, h3⟩ := c.has i y e
    exact ⟨a, v, h1, h2, s.fix h3 True.intro⟩

/-- the cells of a list tracked too -/
def track (cl : List (Str × Addr)) (val : Addr → HO) (H : Hp) : Hp := fun b => match H b with
  | some o => some o
  | none => if b ∈ cl.map (·.2) then some (val b) else none
theorem track_some {cl : List (Str × Addr)} {val : Addr → HO} {H : Hp} {b : Addr} {o : HO} (h : H b = some o) : track cl val H b = some o := by
  unfold track; rw [h]
theorem track_cell {cl : List (Str × Addr)} {val : Addr → HO} {H : Hp} {b : Addr} (h : H b = none) (m : b ∈ cl.map (·.2)) : track cl val H b = some (val b) := by
  unfold track; rw [h]; exact if_pos m
theorem track_out {cl : List (Str × Addr)} {val : Addr → HO} {H : Hp} {b : Addr} (m : b ∉ cl.map (·.2)) : track cl val H b = H b := by
  unfold track
  cases h : H b with
  | some o => rfl
  | none => exact if_neg m
theorem track_none {cl : List (Str × Addr)} {val : Addr → HO} {H : Hp} {b : Addr} (h : track cl val H b = none) : H b = none ∧ b ∉ cl.map (·.2) := by
  unfold track at h
  cases e : H b with
  | some o => rw [e] at h; cases h
  | none =>
    rw [e] at h
    refine ⟨rfl, fun m => ?_⟩
    have h : (if b ∈ cl.map (·.2) then some (val b) else none) = none := h
    rw [if_pos m] at h
    cases h
theorem track_ok {P : Program} {w : World} {H : Hp} {h : Heap} {cl : List (Str × Addr)} {val : Addr → HO} (hok : HOk P w H h) (hv : ∀ b ∈ cl.map (·.2), H b = none → ObjOk P w (track cl val H) h b (val b)) : HOk P w (track cl val H) h := fun b o e => by
  cases q : H b with
  | some u =>
    rw [track_some q] at e
    cases e
    exact (hok b o q).stay (fun _ _ _ z => z) (fun c z => track_some z) fun c xs z => track_some z
  | none =>
    by_cases m : b ∈ cl.map (·.2)
    · rw [track_cell q m] at e
      cases e
      exact hv b m q
    · rw [track_out m, q] at e; cases e

/-- the body of a def that makes a function and hands it out has come to its end -/
def Made (X : Cx) (σ : L2.St) (H : Hp) (T : List NTab) (i : Nat) (st : Stmt) (nm : Str) : Flow → Shared → Prop := fun fl s' => ∃ f' c' H1, Inv X [] (σ.set i (some (.ref f'))) H1 s' ∧ fl = .ret (.ref f') ∧ ExtN H H1 ∧ (∀ b, H1 b = Option.none → H b = Option.none) ∧ TabsN T H1 ∧ H f' = none ∧
  H1 f' = some (FnO f' (NF.of st nm (X.env.qual ++ nm) (cloFrom X.env.cells (C8.fnScope st).names []) c')) ∧ H1 c' = some (CodeO c' (X.env.qual ++ nm))
theorem mk_body {X : Cx} {σ : L2.St} {H : Hp} {s : Shared} {c P' : Addr} {nm : Str} {pos pos2 pos3 : Pos} {T : List NTab} {nmf : Nat → Nat → Str} {i : Nat} {st : Stmt} (I : Inv X [] σ H s)
    (hst : st = .FunctionDef nm (C8.fnArgs st) (C8.fnBody st) [] none [] (C8.fnScope st) none nm pos)
    (TB : TabB X.base X.mg c P') (hcode : X.env.code = .ref c) (hm : (P', nmf) ∈ T) (hn : nmf pos.line pos.col = X.env.qual ++ nm) (hu : ∀ p ∈ T, p.1 = P' → p.2 = nmf)
    (hfree : ∀ y ∈ (C8.fnScope st).names, y.2 = .free → X.env.scope.names.lookup y.1 = some .cell)
    (hd0 : (C8.fnArgs st).defaults = []) (hk0 : (C8.fnArgs st).kw_defaults = []) (ha : annTrees (C8.fnArgs st) none X.env = []) (hN : X.N.Nodup) (hf : X.fn nm = true ∨ X.env.scope.names.lookup nm = some .local)
    (hi : X.N[i]? = some nm) (hx : X.env.scope.names.lookup nm = some .local) (hdb : (nm == ("__debug__" : Str)) = false) (hcb : (nm == ("__classdict__" : Str)) = false) (hT : TabsN T H) :
    wpAny (model X.prog X.w) X.A (execs [st, .Return (some (.Name nm pos3)) pos2] X.env) (Made X σ H T i st nm) X.xe s := by
  have first := ps_ndefMS (X := X) (i := i) (T := T) (nm := nmf) (P := P') (c := c) hst TB hcode hm hn hu (fun y hy e => .inl (hfree y hy e)) hd0 hk0 ha hN hi (.inl hx) hf
  refine wpAny_execs_cons (thn (first.run [] s σ H ⟨fun σ1 H1 => ∃ f' c', σ1 = σ.set i (some (.ref f')) ∧ ExtN H H1 ∧ (∀ b, H1 b = Option.none → H b = Option.none) ∧ TabsN T H1 ∧ H f' = none ∧
      H1 f' = some (FnO f' (NF.of st nm (X.env.qual ++ nm) (cloFrom X.env.cells (C8.fnScope st).names []) c')) ∧ H1 c' = some (CodeO c' (X.env.qual ++ nm)), fun _ _ => False, fun _ _ => False, fun _ _ => False⟩ I
        ⟨hT, fun f' c' H1 e n t z e1 e2 => ⟨f', c', rfl, e, n, t, z, e1, e2⟩⟩) fun fl s2 q => ?_)
  cases fl with
  | next =>
    obtain ⟨σ1, H1, I1, f', c', rfl, e1, e2, e3, e4, e5, e6⟩ := q
    have hv : (σ.set i (some (V.ref f')))[i]? = some (some (.ref f')) := by
      have hlt : i < X.N.length := (List.getElem?_eq_some_iff.mp hi).1
      rw [List.getElem?_set_self (by rw [I.len]; exact hlt)]
    refine wpAny_execs_cons (wpAny_Return_some (pos := pos2) (thn ((pe_var (X := X) (pos := pos3) hi (.inl hx) hdb hcb).run [] s2 _ H1 (fun v H2 => v = .ref f' ∧ H2 = H1) I1 ⟨.ref f', hv, rfl, rfl⟩) fun u s3 q3 => ?_))
    obtain ⟨v, H2, I2, r2, ev, eH⟩ := q3
    subst ev
    subst eH
    obtain rfl : u = Value.ref f' := r2
    exact ⟨f', c', _, I2, rfl, e1, e2, e3, e4, e5, e6⟩
  | ret v => obtain ⟨_, _, _, _, _, z⟩ := q; exact z.elim
  | brk => obtain ⟨_, _, _, z⟩ := q; exact z.elim
  | cont => obtain ⟨_, _, _, z⟩ := q; exact z.elim
section
variable {P : Program} {w : World} {K : PySem.W.Frag} {mg : Str → Option Value} {base : Heap} {CX : CXT}

/-- a def that makes a function of its parameters and hands it out -/
theorem maker {k : Nat} {f c P' : Addr} {name qual nm : Str} {params : Arguments} {body : List Stmt} {scope : Scope} {dV kV doc pm ct oc : Value} {an od : Option Addr} {pos pos2 pos3 : Pos}
    {osl : Array (Option Value)} {N ps fr : List Str} {sp : Sp} {T : List NTab} {nmf : Nat → Nat → Str} {i : Nat} {st : Stmt} {ix : List Nat} (lk : K.lookup f = some ⟨oc, od, .func (PySem.W.fnOf name qual params body scope dV kV doc pm an (.ref c) ct), osl⟩) (hcd : PySem.W.codeIn K (.ref c) qual = true) (S : FnScope N ps scope)
    (hst : st = .FunctionDef nm (C8.fnArgs st) (C8.fnBody st) [] none [] (C8.fnScope st) none nm pos)
    (hbody : body = [st, .Return (some (.Name nm pos3)) pos2])
    (TB : TabB base mg c P') (hm : (P', nmf) ∈ T) (hn : nmf pos.line pos.col = (qual ++ ".<locals>.") ++ nm) (hu : ∀ p ∈ T, p.1 = P' → p.2 = nmf) (hq : ∀ n g, (envOfC qual scope n g (.ref c)).qual = qual ++ ".<locals>.")
    (hfree : ∀ y ∈ (C8.fnScope st).names, y.2 = .free → scope.names.lookup y.1 = some .cell) (hfr : ∀ y ∈ fr, (y, NameKind.free) ∈ (C8.fnScope st).names) (hfr2 : ∀ y ∈ (C8.fnScope st).names, y.2 = .free → y.1 ∈ fr)
    (hd0 : (C8.fnArgs st).defaults = []) (hk0 : (C8.fnArgs st).kw_defaults = []) (ha : ∀ env, annTrees (C8.fnArgs st) none env = [])
    (hi : N[i]? = some nm) (hx : scope.names.lookup nm = some .local) (hip : ps.length ≤ i) (hdb : (nm == ("__debug__" : Str)) = false) (hcb : (nm == ("__classdict__" : Str)) = false)
    (hix : ix.map (fun j => ps[j]?) = fr.map some)
    (len : ∀ vs H Q E, sp vs H Q E → vs.length = ps.length)
    (hsp : ∀ vs H Q E, sp vs H Q E → TabsN T H ∧ ∀ (f' : Addr) (H' : Hp) (cl : List (Str × Addr)) (c' : Addr), ExtN H H' → (∀ b, H' b = Option.none → H b = Option.none) → TabsN T H' → H f' = none → Clo H' f' st nm ((qual ++ ".<locals>.") ++ nm) fr (ix.map fun j => vs.getD j .non) cl c' → Q (.ref f') H') :
    FnOk P w K mg base CX (k + 1) f (PySem.W.fnOf name qual params body scope dV kV doc pm an (.ref c) ct) ps sp := by
  refine ⟨len, fun A outer s H args us vs Q E hr e0 hb r hs => ?_⟩
  have hl := len _ _ _ _ hs
  have KX : K.In s.heap := e0.mod.kin.keeps fun b o e => (e0.bs b o e).1
  have lim : s.heap.NoLimit := e0.mod.nolimit.keeps fun b o e => (e0.bs b o e).1
  have hkind : ∀ y ∈ ps.zip us, scope.names.lookup y.1 = some .local ∨ (scope.names.lookup y.1 = some .cell ∧ ((cellsFrom (s.heap.objs.size + 1) scope.names []).lookup y.1).isSome = true) := fun ⟨n, v⟩ hy => by
    rcases S.par n (List.of_mem_zip hy).1 with q | q
    · exact .inl q
    · exact .inr ⟨q, PySem.W.cellsFrom_some _ _ _ (.inl q)⟩
  refine codeAny_call_function hr.depth (KX _ _ lk) rfl S.co S.gen rfl (PySem.W.codeRec_of KX hcd) (hb _ _ _ _ ?_)
  refine wpAny_newFunctionEnv_cells S.kind hkind fun env he s1 x => ?_
  subst he
  refine ⟨lim.keeps x.toInCall.keep, codeAny_func ?_⟩
  obtain ⟨hT, hend⟩ := hsp vs H Q E hs
  have I : Inv (cxOf CX P w K mg base N qual scope f (.ref c) A outer s H E) [] (L2.start N vs) H s1 := inv_start S hr.hd e0 hl r x
  have X0 : (cxOf CX P w K mg base N qual scope f (.ref c) A outer s H E).env.qual = qual ++ ".<locals>." := hq _ _
  have B := mk_body (X := cxOf CX P w K mg base N qual scope f (.ref c) A outer s H E) (pos2 := pos2) (pos3 := pos3) I hst TB rfl hm (by rw [X0]; exact hn) hu hfree hd0 hk0 (ha _) S.nd (.inl rfl) hi hx hdb hcb hT
  rw [← hbody] at B
  refine wpAny_mono B (fun fl s' hs => ?_) fun e s' hs => hs
  obtain ⟨f', c', H1, J, rfl, e1, e2, e3, e4, e5, e6⟩ := hs
  rw [X0] at e5 e6
  generalize hcl : cloFrom (cxOf CX P w K mg base N qual scope f (.ref c) A outer s H E).env.cells (C8.fnScope st).names [] = cl at e5
  have hcells : ∀ y ∈ (C8.fnScope st).names, y.2 = .free → ∃ a, (cxOf CX P w K mg base N qual scope f (.ref c) A outer s H E).env.cells.lookup y.1 = some a := fun y hy e => J.ok.has _ (.inl (hfree y hy e))
  have clm : ∀ y a, cl.lookup y = some a → (cxOf CX P w K mg base N qual scope f (.ref c) A outer s H E).env.cells.lookup y = some a := fun y a e => clo_cm hcells (by rw [hcl]; exact e)
  have clf : ∀ y a, (y, a) ∈ cl → y ∈ fr ∧ cl.lookup y = some a := fun y a m => by
    rw [← hcl] at m
    rcases cloFrom_mem m with z | ⟨z1, z2⟩
    · cases z
    · obtain ⟨a1, h1⟩ := hcells _ z1 rfl
      have h1 : (cxOf CX P w K mg base N qual scope f (.ref c) A outer s H E).env.cells.lookup y = some a1 := h1
      have h2 := clo_has hcells z1 h1
      rw [hcl] at h2
      have e : a = a1 := by rw [z2, h1]; rfl
      rw [e]
      exact ⟨hfr2 _ z1 rfl, h2⟩
  -- what each captured name holds
  have val : ∀ y ∈ fr, ∃ a v u, cl.lookup y = some a ∧ L2.RelV v u ∧ s'.heap.IsCell a (some u) ∧ ∀ m : Nat, fr[m]? = some y → (ix.map fun j => vs.getD j .non)[m]? = some v := by
    intro y hy
    obtain ⟨m, hm'⟩ := List.mem_iff_getElem?.mp hy
    have q : (ix.map fun j => ps[j]?)[m]? = some (some y) := by rw [hix, List.getElem?_map, hm']; rfl
    rw [List.getElem?_map] at q
    cases ej : ix[m]? with
    | none => rw [ej] at q; cases q
    | some j =>
      rw [ej] at q
      have hj : ps[j]? = some y := Option.some.inj q
      have hjl : j < ps.length := (List.getElem?_eq_some_iff.mp hj).1
      have hNj : N[j]? = some y := by
        rw [← hj, ← S.pre, List.getElem?_take_of_lt hjl]
      obtain ⟨v, hv⟩ : ∃ v, vs[j]? = some v := ⟨vs[j]'(by omega), by simp [show j < vs.length by omega]⟩
      have hs : ((L2.start N vs).set i (some (V.ref f')))[j]? = some (some v) := by
        rw [List.getElem?_set_ne (by omega)]
        unfold L2.start
        rw [List.getElem?_append_left (by rw [List.length_map]; omega), List.getElem?_map, hv] <;> rfl
      have kc : scope.names.lookup y = some .cell := hfree _ (hfr y hy) rfl
      obtain ⟨mm, hn2, hl2⟩ := J.loc
      obtain ⟨u, ru, lk2⟩ := hl2 j y v hNj hs (.inr (.inl kc))
      rcases lk2 with ⟨z, _⟩ | ⟨_, a, ha2, hcell⟩
      · have z' : scope.names.lookup y = some .local := z
        rw [kc] at z'; cases z'
      · have h2 := clo_has hcells (hfr y hy) ha2
        rw [hcl] at h2
        refine ⟨a, v, u, h2, ru, hcell, fun m' hm2 => ?_⟩
        -- any place of y
        have q2 : (ix.map fun j => ps[j]?)[m']? = some (some y) := by rw [hix, List.getElem?_map, hm2]; rfl
        rw [List.getElem?_map] at q2
        cases ej2 : ix[m']? with
        | none => rw [ej2] at q2; cases q2
        | some j2 =>
          rw [ej2] at q2
          have hj2 : ps[j2]? = some y := Option.some.inj q2
          have ndP : ps.Nodup := by rw [← S.pre]; exact S.nd.sublist (List.take_sublist _ _)
          have : j2 = j := L2.nodup_ix ndP hj2 hj
          subst this
          rw [List.getElem?_map, ej2]
          show some (vs.getD j2 .non) = some v
          rw [List.getD_eq_getElem?_getD, hv] <;> rfl
  let pick : Addr → HO := fun a => cellO a (match cl.find? (fun p => p.2 == a) with | some p => (match fr.findIdx? (fun z => z == p.1) with | some m => (ix.map fun j => vs.getD j .non).getD m .non | none => .non) | none => .non)
  have pick_of : ∀ y a, cl.lookup y = some a → ∀ v, (∀ m : Nat, fr[m]? = some y → (ix.map fun j => vs.getD j .non)[m]? = some v) → y ∈ fr → pick a = cellO a v := by
    intro y a hya v hv hy
    show cellO a _ = cellO a v
    have hmem : (y, a) ∈ cl := PySem.mem_of_lookup hya
    cases ef : cl.find? (fun p => p.2 == a) with
    | none =>
      have := List.find?_eq_none.mp ef (y, a) hmem
      simp at this
    | some p =>
      have hp1 := List.find?_some ef
      have hp2 := List.mem_of_find?_eq_some ef
      have e1 : p.2 = a := by simpa using hp1
      obtain ⟨hpf, hpl⟩ := clf p.1 p.2 hp2
      rw [e1] at hpl
      have ey : p.1 = y := J.ok.inj _ _ _ (clm _ _ hpl) (clm _ _ hya)
      show cellO a (match fr.findIdx? (fun z => z == p.1) with | some m => (ix.map fun j => vs.getD j .non).getD m .non | none => .non) = cellO a v
      rw [ey]
      cases ei : fr.findIdx? (fun z => z == y) with
      | none =>
        have := List.findIdx?_eq_none_iff.mp ei y hy
        simp at this
      | some m =>
        obtain ⟨hm1, hm2, _⟩ := List.findIdx?_eq_some_iff_getElem.mp ei
        have e2 : fr[m] = y := by simpa using hm2
        have := hv m (by rw [List.getElem?_eq_getElem hm1, e2])
        show cellO a ((ix.map fun j => vs.getD j .non).getD m .non) = cellO a v
        rw [List.getD_eq_getElem?_getD, this] <;> rfl
  have offc : ∀ a, a ∈ cl.map (·.2) → H1 a = none ∧ s.heap.objs.size ≤ a := fun a m => by
    obtain ⟨p, hp, rfl⟩ := List.mem_map.mp m
    obtain ⟨_, h2⟩ := clf p.1 p.2 hp
    exact ⟨J.freeC _ _ (clm _ _ h2), J.ok.cab _ _ rfl (clm _ _ h2)⟩
  have hok2 : HOk P w (track cl pick H1) s'.heap := track_ok J.hok fun a m _ => by
    obtain ⟨p, hp, rfl⟩ := List.mem_map.mp m
    obtain ⟨hy, h2⟩ := clf p.1 p.2 hp
    obtain ⟨a', v, u, h3, h4, h5, h6⟩ := val p.1 hy
    rw [h2] at h3
    cases h3
    rw [pick_of _ _ h2 v h6 hy]
    exact cellO_ok h4 h5
  have un2 : Un (frs outer) [] H (track cl pick H1) s.heap s'.heap := by
    have u := J.base
    refine ⟨u.keep, u.slot, fun b o q n hb => ?_, u.there, fun b xs q => track_some (u.tups b xs q), fun b o xs q => track_some (u.frzs b o xs q), fun b xs q => ?_⟩
    · rw [track_out fun m => absurd (Heap.lt_size q) (Nat.not_lt.mpr (offc b m).2)]
      exact u.free b o q n hb
    · obtain ⟨more, h2⟩ := u.tbls b xs q
      exact ⟨more, track_some h2⟩
  refine ⟨.ref f', track cl pick H1, J.os, J.bare, un2, hok2, rfl, hend f' _ cl c' (fun b o q n => track_some (e1 b o q n)) (fun b q => e2 b (track_none q).1) (e3.ext fun b o q => track_some q) e4 ?_⟩
  refine ⟨track_some e5, track_some e6, ?_, fun y a e => ?_, fun x y a h1 h2 => J.ok.inj _ _ _ (clm _ _ h1) (clm _ _ h2), fun m y e => ?_⟩
  · have := congrArg List.length hix
    rw [List.length_map, List.length_map] at this
    rw [List.length_map]; exact this
  · have m : a ∈ cl.map (·.2) := List.mem_map.mpr ⟨(y, a), e, rfl⟩
    exact ⟨_, track_cell (offc a m).1 m⟩
  · have hy := List.mem_of_getElem? e
    obtain ⟨a, v, u, h3, h4, h5, h6⟩ := val y hy
    have m' : a ∈ cl.map (·.2) := List.mem_map.mpr ⟨(y, a), PySem.mem_of_lookup h3, rfl⟩
    refine ⟨a, v, h3, h6 m e, ?_⟩
    rw [track_cell (offc a m').1 m', pick_of _ _ h3 v h6 hy]

/-! ### such a function called -/
def untrack (cl : List (Str × Addr)) (H : Hp) : Hp := fun b => if b ∈ cl.map (·.2) then none else H b
def retrack (cl : List (Str × Addr)) (H H' : Hp) : Hp := fun b => match H' b with
  | some o => some o
  | none => if b ∈ cl.map (·.2) then H b else none
theorem retrack_some {cl : List (Str × Addr)} {H H' : Hp} {b : Addr} {o : HO} (h : H' b = some o) : retrack cl H H' b = some o := by unfold retrack; rw [h]
theorem retrack_cell {cl : List (Str × Addr)} {H H' : Hp} {b : Addr} (h : H' b = none) (m : b ∈ cl.map (·.2)) : retrack cl H H' b = H b := by unfold retrack; rw [h]; exact if_pos m
theorem retrack_out {cl : List (Str × Addr)} {H H' : Hp} {b : Addr} (m : b ∉ cl.map (·.2)) : retrack cl H H' b = H' b := by
  unfold retrack
  cases h : H' b with
  | some o => rfl
  | none => exact if_neg m
theorem untrack_out {cl : List (Str × Addr)} {H : Hp} {b : Addr} (m : b ∉ cl.map (·.2)) : untrack cl H b = H b := if_neg m
theorem untrack_in {cl : List (Str × Addr)} {H : Hp} {b : Addr} (m : b ∈ cl.map (·.2)) : untrack cl H b = none := if_pos m
theorem untrack_some {cl : List (Str × Addr)} {H : Hp} {b : Addr} {o : HO} (h : untrack cl H b = some o) : b ∉ cl.map (·.2) ∧ H b = some o := by
  unfold untrack at h
  by_cases m : b ∈ cl.map (·.2)
  · rw [if_pos m] at h; cases h
  · rw [if_neg m] at h; exact ⟨m, h⟩
/-- no function, no cell -/
def Low : HO → Prop
  | .ext _ => False
  | _ => True
/-- what such a function promises; fin hands its end back to the caller's heap -/
structure COk (P : Program) (w : World) (K : PySem.W.Frag) (mg : Str → Option Value) (base : Heap) (CX : CXT) (k : Nat) (st : Stmt) (nm qual : Str) (ps fr : List Str) (sp : List V → Sp) : Prop where
  len : ∀ ws vs H Q E, sp ws vs H Q E → vs.length = ps.length
  run : ∀ (A : Around) (outer : List Env) (s : Shared) (H : Hp) (us : List Value) (vs : List V) (f : Addr) (cl : List (Str × Addr)) (c' : Addr) (ws : List V) (Q : VK) (E : XK), Room k A → Env0 P w K mg base A outer s H → Clo H f st nm qual fr ws cl c' → Vals vs us → sp ws vs H Q E →
    codeAny (model P w) A (.call (.ref f) ⟨us, []⟩) (CR CX0 outer P w H s Q E) s
theorem clo_mem {H : Hp} {f : Addr} {st : Stmt} {nm qual : Str} {fr : List Str} {ws : List V} {cl : List (Str × Addr)} {c' : Addr} (C : Clo H f st nm qual fr ws cl c') {b : Addr} (m : b ∈ cl.map (·.2)) : ∃ v, H b = some (cellO b v) := by
  obtain ⟨p, hp, rfl⟩ := List.mem_map.mp m
  exact C.cells p.1 p.2 hp
theorem cok_of {k : Nat} {st : Stmt} {nm qual : Str} {N ps fr : List Str} {sp : List V → Sp} (S : NScope N ps fr (C8.fnScope st))
    (hb : ∀ (cl : List (Str × Addr)) (c' : Addr) (doc pm ctv : Value) (us : List Value), us.length = ps.length → bindArgs ((NF.of st nm qual cl c').fd doc pm ctv) ⟨us, []⟩ = pure (ps.zip us)) (len : ∀ ws vs H Q E, sp ws vs H Q E → vs.length = ps.length)
    (hbody : ∀ (A : Around) (outer : List Env) (s : Shared) (f : Addr) (cl : List (Str × Addr)) (c' : Addr) (H H0 : Hp) (vs : List V) (ws : List V) (Q Q0 : VK) (E : XK), Room k (A.deeper (envF (NF.of st nm qual cl c') f s.heap.objs.size)) → sp ws vs H Q E → ws.length = fr.length →
      (∀ b o, H b = some o → Low o → H0 b = some o) → (∀ (v : V) (M : List Addr) (H2 : Hp), Stp M H0 H2 → (∀ H', Stp M H H' → (∀ b o, H2 b = some o → H' b = some o) → Q v H') → Q0 v H2) →
      ∃ t, PSs (ncx CX0 P w K mg base N (NF.of st nm qual cl c') f A outer s H0 E) (C8.fnBody st) t ∧ t { nx := fun _ H' => Q0 .non H', rt := Q0 } (startF N vs (ws.map some)) H0) :
    COk P w K mg base CX (k + 1) st nm qual ps fr sp := by
  refine ⟨len, fun A outer s H us vs f cl c' ws Q E hr e0 C r hsp => ?_⟩
  have cellN : ∀ b, b ∈ cl.map (·.2) → ∃ v, H b = some (cellO b v) := fun b m => clo_mem C m
  have lo : ∀ b o, H b = some o → (∀ v, o ≠ cellO b v) → untrack cl H b = some o := fun b o e n => by
    rw [untrack_out fun m => ?_]
    · exact e
    · obtain ⟨v, hv⟩ := cellN b m
      rw [e] at hv
      exact n v (Option.some.inj hv)
  have nf : untrack cl H f = some (FnO f (NF.of st nm qual cl c')) := by
    have ho := fnO_at e0.hok C.fn
    rw [untrack_out fun m => ?_]
    · exact C.fn
    · obtain ⟨v, hv⟩ := cellN f m
      obtain ⟨u, _, o, h1, h2⟩ := cellO_at e0.hok hv
      obtain ⟨od, sl, doc, pm, ctv, h3⟩ := ho
      rw [h1] at h3
      cases h3
      cases h2
  have nc : untrack cl H c' = some (CodeO c' qual) := by
    have ho := codeO_at e0.hok C.code
    rw [untrack_out fun m => ?_]
    · exact C.code
    · obtain ⟨v, hv⟩ := cellN c' m
      obtain ⟨u, _, o, h1, h2⟩ := cellO_at e0.hok hv
      obtain ⟨c2, oc, vs2, t, e1, h3, h4, _⟩ := ho
      cases e1
      rw [h1] at h3
      cases h3
      rw [h2] at h4
      cases h4
  have hok0 : HOk P w (untrack cl H) s.heap := fun b o e => by
    obtain ⟨m, e⟩ := untrack_some e
    refine (e0.hok b o e).stay (fun _ _ _ z => z) (fun d z => lo d _ z fun v q => ?_) fun d xs z => lo d _ z fun v q => ?_
    · cases q
    · cases q
  have env0 : Env0 P w K mg base A outer s (untrack cl H) := ⟨e0.frames, e0.mod, fun b o e => ⟨(e0.bs b o e).1, by
      unfold untrack
      split
      · rfl
      · exact (e0.bs b o e).2⟩, e0.bsz, e0.funs, fun b hb => by
      unfold untrack
      split
      · rfl
      · exact e0.frf b hb, hok0, e0.bare⟩
  have cells : CellsAt cl fr (ws.map some) s.heap (untrack cl H) := by
    refine ⟨by rw [List.length_map]; exact C.len, fun y a e => ?_, C.inj, fun i y e => ?_⟩
    · have m : a ∈ cl.map (·.2) := List.mem_map.mpr ⟨(y, a), PySem.mem_of_lookup e, rfl⟩
      obtain ⟨v, hv⟩ := cellN a m
      obtain ⟨u, _, z⟩ := cellO_at e0.hok hv
      exact ⟨untrack_in m, _, z⟩
    · obtain ⟨a, v, h1, h2, h3⟩ := C.has i y e
      refine ⟨a, h1, fun v' e' => ?_⟩
      rw [List.getElem?_map, h2] at e'
      cases e'
      exact cellO_at e0.hok h3
  let Q0 : VK := fun v H2 => (∀ b ∈ cl.map (·.2), H2 b = none) → Q v (retrack cl H H2)
  have nok : NOk P w K mg base CX0 (k + 1) f (NF.of st nm qual cl c') ps fr (fun ws' vs' H' Q' E' => ws' = ws.map some ∧ vs' = vs ∧ H' = untrack cl H ∧ Q' = Q0 ∧ E' = E) := by
    refine nok_of S (hb cl c') (fun _ _ _ _ _ h => by obtain ⟨_, rfl, _⟩ := h; exact len _ _ _ _ _ hsp) fun A1 outer1 s1 H1 vs1 ws1 Q1 E1 hr1 hf hc hl h => ?_
    obtain ⟨rfl, rfl, rfl, rfl, rfl⟩ := h
    refine hbody A1 outer1 s1 f cl c' H _ vs1 ws Q Q0 E1 hr1 hsp C.len (fun b o e n => lo b o e fun v q => ?_) fun v M H2 st2 hq hc2 => ?_
    · subst q; exact n
    · refine hq _ ⟨fun b o e n => ?_, fun b e => ?_⟩ fun b o e => retrack_some e
      · by_cases m : b ∈ cl.map (·.2)
        · rw [retrack_cell (hc2 b m) m]; exact e
        · exact retrack_some (st2.same b o (by rw [untrack_out m]; exact e) n)
      · by_cases m : b ∈ cl.map (·.2)
        · rw [retrack_cell (hc2 b m) m] at e; exact e
        · rw [retrack_out m] at e
          have := st2.dom b e
          rw [untrack_out m] at this
          exact this
  refine codeAny_mono (nok.run A outer s _ us vs _ Q0 E hr env0 nf nc cells r ⟨rfl, rfl, rfl, rfl, rfl⟩) fun rr s' hq => ?_
  cases rr with
  | error e => exact hq
  | ok fl =>
    cases fl with
    | next => exact hq
    | brk => exact hq
    | cont => exact hq
    | ret u =>
      obtain ⟨v, H2, os, bare, un, hok2, rv, q⟩ := hq
      have cellAt : ∀ b, b ∈ cl.map (·.2) → ∃ v u o, H b = some (cellO b v) ∧ L2.RelV v u ∧ s.heap.get? b = some o ∧ o.data = .cell (some u) ∧ untrack cl H b = none := fun b m => by
        obtain ⟨v, hv⟩ := cellN b m
        obtain ⟨u, h1, o, h2, h3⟩ := cellO_at e0.hok hv
        exact ⟨v, u, o, hv, h1, h2, h3, untrack_in m⟩
      have free2 : ∀ b ∈ cl.map (·.2), H2 b = none := fun b m => by
        obtain ⟨v, u, o, h1, h2, h3, h4, h5⟩ := cellAt b m
        exact un.free b o h3 h5 (by simp)
      refine ⟨v, retrack cl H H2, os, bare, ?_, ?_, rv, q free2⟩
      · have un0 : ∀ b, H b = none → untrack cl H b = none := fun b e => by
          unfold untrack
          split
          · rfl
          · exact e
        refine ⟨fun b o e n hb hx => un.keep b o e (un0 b n) hb hx, fun b o e n hb hx => un.slot b o e (un0 b n) hb hx, fun b o e n hx => ?_, un.there, fun b xs e => ?_, fun b o xs e => ?_, fun b xs e => ?_⟩
        · have m : b ∉ cl.map (·.2) := fun m => by
            obtain ⟨v, hv⟩ := cellN b m
            rw [n] at hv; cases hv
          rw [retrack_out m]
          exact un.free b o e (un0 b n) hx
        · exact retrack_some (un.tups b xs (lo b _ e fun v q => by cases q))
        · exact retrack_some (un.frzs b o xs (lo b _ e fun v q => by cases q))
        · obtain ⟨more, h2⟩ := un.tbls b xs (lo b _ e fun v q => by cases q)
          exact ⟨more, retrack_some h2⟩
      · intro b o e
        cases q2 : H2 b with
        | some u2 =>
          rw [retrack_some q2] at e
          cases e
          exact (hok2 b o q2).stay (fun _ _ _ z => z) (fun d z => retrack_some z) fun d xs z => retrack_some z
        | none =>
          by_cases m : b ∈ cl.map (·.2)
          · rw [retrack_cell q2 m] at e
            obtain ⟨v, u, o1, h1, h2, h3, h4, h5⟩ := cellAt b m
            rw [h1] at e
            cases e
            obtain ⟨sl, h6⟩ := un.any h3 h5 (by simp)
            exact cellO_ok h2 ⟨_, h6, h4⟩
          · rw [retrack_out m, q2] at e; cases e

/-- functions that a name may hold, by what they promise -/
structure TelOk (P : Program) (w : World) (K : PySem.W.Frag) (mg : Str → Option Value) (base : Heap) (k : Nat) (at_ : Addr → Hp → Prop) (sp : Addr → Sp) : Prop where
  fn : ∀ (H : Hp) (h : Heap) (f : Addr), HOk P w H h → at_ f H → PySem.W.FnAt f h
  ok : ∀ f vs H Q E, sp f vs H Q E → at_ f H
  run : ∀ (A : Around) (outer : List Env) (s : Shared) (H : Hp) (us : List Value) (vs : List V) (f : Addr) (Q : VK) (E : XK), Room k A → Env0 P w K mg base A outer s H → Vals vs us → sp f vs H Q E →
    codeAny (model P w) A (.call (.ref f) ⟨us, []⟩) (CR CX0 outer P w H s Q E) s
theorem COk.tel {k : Nat} {st : Stmt} {nm qual : Str} {ps fr : List Str} {sp : List V → Sp} (c : COk P w K mg base CX k st nm qual ps fr sp) :
    TelOk P w K mg base k (fun f H => ∃ ws cl c', Clo H f st nm qual fr ws cl c') (fun f vs H Q E => ∃ ws cl c', Clo H f st nm qual fr ws cl c' ∧ sp ws vs H Q E) := by
  refine ⟨fun H h f hok ⟨ws, cl, c', C⟩ => ?_, fun f vs H Q E ⟨ws, cl, c', C, _⟩ => ⟨ws, cl, c', C⟩, fun A outer s H us vs f Q E hr e0 r ⟨ws, cl, c', C, q⟩ => c.run A outer s H us vs f cl c' ws Q E hr e0 C r q⟩
  obtain ⟨od, sl, doc, pm, ctv, ho⟩ := fnO_at hok C.fn
  exact ⟨_, od, _, sl, ho⟩
theorem TelOk.or {k : Nat} {a1 a2 : Addr → Hp → Prop} {s1 s2 : Addr → Sp} (t1 : TelOk P w K mg base k a1 s1) (t2 : TelOk P w K mg base k a2 s2) :
    TelOk P w K mg base k (fun f H => a1 f H ∨ a2 f H) (fun f vs H Q E => s1 f vs H Q E ∨ s2 f vs H Q E) :=
  ⟨fun H h f hok a => a.elim (t1.fn H h f hok) (t2.fn H h f hok), fun f vs H Q E q => q.imp (t1.ok f vs H Q E) (t2.ok f vs H Q E), fun A outer s H us vs f Q E hr e0 r q => q.elim (t1.run A outer s H us vs f Q E hr e0 r) (t2.run A outer s H us vs f Q E hr e0 r)⟩
end
/-- f(..), f a local name -/
def tTel (i : Nat) (at_ : Addr → Hp → Prop) (sp : Addr → Sp) (t : TA) : TE := fun σ H Q => ∃ f, σ[i]? = some (some (.ref f)) ∧ at_ f H ∧ t σ H fun vs H1 => sp f vs H1 Q (fun _ _ _ => False)
section
variable {X : Cx} {k j i : Nat} {at_ : Addr → Hp → Prop} {sp : Addr → Sp} {t : TA} {x : Str} {e : Expr} {es : List Expr} {p pos : Pos}
theorem pe_callTel (c : TelOk X.prog X.w X.K X.mg X.base j at_ sp) (hr : Room k X.A) (hN : X.N[i]? = some x) (hv : Vis X.env.scope x) (ha : PA X (e :: es) t) (hk : j ≤ k := by decide)
    (hd : (x == ("__debug__" : Str)) = false := by decide) (hcd : (x == ("__classdict__" : Str)) = false := by decide)
    (he : starEach (e :: es) X.env = (false, eval e X.env) :: starEach es X.env := by rfl) (hpl : (backTo pos (starEach es X.env)).any (·.1) = false := by rfl) :
    PE X (.Call (.Name x p) (e :: es) [] pos) (tTel i at_ sp t) := by
  refine ⟨fun pins s σ H Q I h => ?_⟩
  obtain ⟨f, hs, hf, ht⟩ := h
  refine wpAny_Call_Name_kw (thn ((pe_var (pos := p) hN hv hd hcd).run pins s σ H (fun v H1 => v = .ref f ∧ H1 = H) I ⟨.ref f, hs, rfl, rfl⟩) fun u s1 ⟨v, H1, I1, r1, q1⟩ => ?_)
  obtain ⟨ev, eH⟩ := q1
  subst ev
  subst eH
  obtain rfl : u = Value.ref f := r1
  refine PySem.W.callWith_F (first := []) (c.fn H1 s1.heap f I1.hok hf) (thn (ha.run pos pins s1 σ H1 _ I1 ht) fun us s2 ⟨vs, H2, I2, r, q⟩ => ⟨c.fn H2 s2.heap f I2.hok (c.ok f vs H2 _ _ q), ?_⟩) he hpl
  show wpAny _ _ (call (.ref f) us) _ _ _
  refine wpAny_call (codeAny_mono (c.run X.A X.stack s2 H2 us vs f Q _ (hr.mono hk) I2.env0 r q) fun r s' hq => ?_)
  cases r with
  | error e => exact hq.elim
  | ok fl =>
    cases fl with
    | ret u => exact I2.after hq
    | next => exact False.elim hq
    | brk => exact False.elim hq
    | cont => exact False.elim hq
theorem r_tel {σ : L2.St} {H : Hp} {Q : VK} {f : Addr} (hs : σ[i]? = some (some (.ref f))) (h : at_ f H) (k : t σ H fun vs H1 => sp f vs H1 Q (fun _ _ _ => False)) : tTel i at_ sp t σ H Q := ⟨f, hs, h, k⟩
end
end SH

set_option Elab.async false
set_option linter.all false
set_option maxRecDepth 100000
set_option maxHeartbeats 4000000
/-! SHE: data, and what == tells of it -/
namespace SH
open PySem PySem.Spec PyProof.Rows L2

/-- Lean values that stand in the heap as data; n: how deep -/
class Enc (α : Type) where
  dec : DecidableEq α
  d : α → PyData
  n : Nat
  lay : ∀ x, (d x).canLay0 = true
  deep : ∀ x, (d x).depth ≤ n
  eqv : ∀ x y, PyData.eqv (d x) (d y) = @decide (x = y) (dec x y)
/-- a tuple of one kind of things -/
structure Tu (α : Type) where
  l : List α
theorem Enc.deepAll {α : Type} [Enc α] : ∀ xs : List α, PyData.depthAll (xs.map Enc.d) ≤ Enc.n α
  | [] => by simp [PyData.depthAll]
  | x :: xs => by
    have h1 := Enc.deep x
    have h2 := Enc.deepAll xs
    simp only [List.map_cons, PyData.depthAll]
    omega
theorem Enc.layAll {α : Type} [Enc α] : ∀ xs : List α, PyData.canLayAll0 (xs.map Enc.d) = true
  | [] => by simp [PyData.canLayAll0]
  | x :: xs => by simp only [List.map_cons, PyData.canLayAll0, Enc.lay x, Enc.layAll xs, Bool.and_self]
theorem Enc.eqvAll {α : Type} [Enc α] : ∀ xs ys : List α, PyData.eqvAll (xs.map Enc.d) (ys.map Enc.d) = @decide (xs = ys) (@instDecidableEqList α Enc.dec xs ys)
  | [], [] => by simp [PyData.eqvAll]
  | x :: xs, [] => by simp [PyData.eqvAll]
  | [], y :: ys => by simp [PyData.eqvAll]
  | x :: xs, y :: ys => by
    rw [List.map_cons, List.map_cons, show PyData.eqvAll (Enc.d x :: xs.map Enc.d) (Enc.d y :: ys.map Enc.d) = (PyData.eqv (Enc.d x) (Enc.d y) && PyData.eqvAll (xs.map Enc.d) (ys.map Enc.d)) by simp only [PyData.eqvAll], Enc.eqv, Enc.eqvAll xs ys]
    have : ∀ (A B C : Prop) (a : Decidable A) (b : Decidable B) (c : Decidable C), (C ↔ A ∧ B) → (@decide A a && @decide B b) = @decide C c := by
      intro A B C a b c h
      by_cases ha : A <;> by_cases hb : B <;> simp [ha, hb, h]
    exact this _ _ _ _ _ _ (by simp)
instance : Enc Int := ⟨inferInstance, .int, 0, fun _ => by simp [PyData.canLay0], fun _ => by simp [PyData.depth], fun x y => by by_cases h : x = y <;> simp [PyData.eqv, h]⟩
instance : Enc Bool := ⟨inferInstance, .bool, 0, fun _ => by simp [PyData.canLay0], fun _ => by simp [PyData.depth], fun x y => by by_cases h : x = y <;> simp [PyData.eqv, h]⟩
instance : Enc Nat := ⟨inferInstance, fun n => .int n, 0, fun _ => by simp [PyData.canLay0], fun _ => by simp [PyData.depth], fun x y => by
  rw [show PyData.eqv (.int (x : Int)) (.int (y : Int)) = ((x : Int) == (y : Int)) by simp only [PyData.eqv]]
  by_cases h : x = y
  · subst h; simp
  · rw [decide_eq_false h]
    exact beq_eq_false_iff_ne.mpr (by omega)⟩
instance {α : Type} [e : Enc α] : Enc (List α) := ⟨@instDecidableEqList α e.dec, fun xs => .list (xs.map Enc.d), Enc.n α + 1, fun xs => by simp only [PyData.canLay0]; exact Enc.layAll xs,
  fun xs => by simp only [PyData.depth]; exact Nat.succ_le_succ (Enc.deepAll xs), fun xs ys => by simp only [PyData.eqv]; exact Enc.eqvAll xs ys⟩
instance {α : Type} [e : Enc α] : Enc (Tu α) := ⟨fun a b => @decidable_of_iff _ (a.l = b.l) (by cases a; cases b; simp) (@instDecidableEqList α e.dec a.l b.l), fun xs => .tuple (xs.l.map Enc.d), Enc.n α + 1, fun xs => by simp only [PyData.canLay0]; exact Enc.layAll xs.l,
  fun xs => by simp only [PyData.depth]; exact Nat.succ_le_succ (Enc.deepAll xs.l), fun xs ys => by
    simp only [PyData.eqv]
    rw [Enc.eqvAll xs.l ys.l]
    cases xs; cases ys
    simp⟩
instance {α β : Type} [e : Enc α] [f : Enc β] : Enc (α × β) := ⟨@instDecidableEqProd α β e.dec f.dec, fun x => .tuple [Enc.d x.1, Enc.d x.2], max (Enc.n α) (Enc.n β) + 1,
  fun x => by simp only [PyData.canLay0, PyData.canLayAll0, Enc.lay]; rfl,
  fun x => by
    have h1 := Enc.deep x.1
    have h2 := Enc.deep x.2
    simp only [PyData.depth, PyData.depthAll]; omega, fun x y => by
    simp only [PyData.eqv, PyData.eqvAll, Enc.eqv, Bool.and_true]
    obtain ⟨a, b⟩ := x
    obtain ⟨c, d⟩ := y
    by_cases ha : a = c <;> by_cases hb : b = d <;> simp [ha, hb]⟩
/-- three in a tuple -/
structure T3 (α β γ : Type) where
  a : α
  b : β
  c : γ
deriving DecidableEq
instance {α β γ : Type} [e : Enc α] [f : Enc β] [g : Enc γ] : Enc (T3 α β γ) := ⟨@instDecidableEqT3 α β γ e.dec f.dec g.dec, fun x => .tuple [Enc.d x.a, Enc.d x.b, Enc.d x.c], max (Enc.n α) (max (Enc.n β) (Enc.n γ)) + 1,
  fun x => by simp only [PyData.canLay0, PyData.canLayAll0, Enc.lay]; rfl,
  fun x => by
    have h1 := Enc.deep x.a
    have h2 := Enc.deep x.b
    have h3 := Enc.deep x.c
    simp only [PyData.depth, PyData.depthAll]; omega, fun x y => by
    simp only [PyData.eqv, PyData.eqvAll, Enc.eqv, Bool.and_true]
    obtain ⟨a, b, c⟩ := x
    obtain ⟨a', b', c'⟩ := y
    by_cases ha : a = a' <;> by_cases hb : b = b' <;> by_cases hc : c = c' <;> simp [ha, hb, hc]⟩

/-- a text of plain signs -/
abbrev SOk := { s : Str // PyData.canLay0 (.str s) = true }
instance : Enc SOk := ⟨inferInstance, fun s => .str s.1, 0, fun s => s.2, fun _ => by simp [PyData.depth], fun x y => by
  rw [show PyData.eqv (.str x.1) (.str y.1) = (x.1 == y.1) by simp only [PyData.eqv]]
  by_cases h : x = y
  · subst h; simp
  · rw [decide_eq_false h]
    exact beq_eq_false_iff_ne.mpr fun z => h (Subtype.ext z)⟩

mutual
theorem dp_stp {K : PySem.W.Frag} {H H' : Hp} (S : Stp [] H H') : ∀ (d : PyData) (v : V), Dp K H v d → Dp K H' v d
  | .none, _, h => by cases h; exact .non
  | .bool _, _, h => by cases h; exact .bl _
  | .int _, _, h => by cases h; exact .int _
  | .str _, _, h => by cases h; exact .str _
  | .list ds, _, h => by
    cases h with
    | lst hs ha => exact .lst (S.sql0 hs) (dp_stpAll S ds _ ha)
  | .tuple ds, _, h => by
    cases h with
    | tup hs ha => exact .tup (S.sqt0 hs) (dp_stpAll S ds _ ha)
  | .dict _, _, h => by cases h
theorem dp_stpAll {K : PySem.W.Frag} {H H' : Hp} (S : Stp [] H H') : ∀ (ds : List PyData) (vs : List V), DpAll K H vs ds → DpAll K H' vs ds
  | [], _, h => by cases h; exact .nil
  | d :: ds, _, h => by
    cases h with
    | cons h1 h2 => exact .cons (dp_stp S d _ h1) (dp_stpAll S ds _ h2)
end

mutual
/-- no list in it -/
def noL : PyData → Bool
  | .none | .bool _ | .int _ | .str _ => true
  | .tuple xs => noLs xs
  | .list _ => false
  | .dict _ => false
def noLs : List PyData → Bool
  | [] => true
  | x :: xs => noL x && noLs xs
end
mutual
theorem dp_stpM {K : PySem.W.Frag} {M : List Addr} {H H' : Hp} (S : Stp M H H') : ∀ (d : PyData) (v : V), noL d = true → Dp K H v d → Dp K H' v d
  | .none, _, _, h => by cases h; exact .non
  | .bool _, _, _, h => by cases h; exact .bl _
  | .int _, _, _, h => by cases h; exact .int _
  | .str _, _, _, h => by cases h; exact .str _
  | .list _, _, n, _ => by simp [noL] at n
  | .tuple ds, _, n, h => by
    cases h with
    | tup hs ha => exact .tup (S.sqtM hs) (dp_stpMs S ds _ (by simpa [noL] using n) ha)
  | .dict _, _, _, h => by cases h
theorem dp_stpMs {K : PySem.W.Frag} {M : List Addr} {H H' : Hp} (S : Stp M H H') : ∀ (ds : List PyData) (vs : List V), noLs ds = true → DpAll K H vs ds → DpAll K H' vs ds
  | [], _, _, h => by cases h; exact .nil
  | d :: ds, _, n, h => by
    have n' : noL d = true ∧ noLs ds = true := by simpa [noLs] using n
    cases h with
    | cons h1 h2 => exact .cons (dp_stpM S d _ n'.1 h1) (dp_stpMs S ds _ n'.2 h2)
end
class Flat (α : Type) [Enc α] : Prop where
  fl : ∀ x : α, noL (Enc.d x) = true
instance : Flat Int := ⟨fun _ => by simp [Enc.d, noL]⟩
instance : Flat Nat := ⟨fun _ => by simp [Enc.d, noL]⟩
instance : Flat Bool := ⟨fun _ => by simp [Enc.d, noL]⟩
instance : Flat SOk := ⟨fun _ => by simp [Enc.d, noL]⟩
instance {α β : Type} [Enc α] [Enc β] [Flat α] [Flat β] : Flat (α × β) := ⟨fun x => by simp only [Enc.d, noL, noLs, Flat.fl]; rfl⟩
instance {α β γ : Type} [Enc α] [Enc β] [Enc γ] [Flat α] [Flat β] [Flat γ] : Flat (T3 α β γ) := ⟨fun x => by simp only [Enc.d, noL, noLs, Flat.fl]; rfl⟩
theorem noLs_map {α : Type} [Enc α] [Flat α] : ∀ xs : List α, noLs (xs.map Enc.d) = true
  | [] => by simp [noLs]
  | x :: xs => by simp only [List.map_cons, noLs, Flat.fl, noLs_map xs, Bool.and_self]
instance {α : Type} [Enc α] [Flat α] : Flat (Tu α) := ⟨fun x => by simp only [Enc.d, noL]; exact noLs_map x.l⟩

/-- v is x, in the heap H -/
def Is {α : Type} [Enc α] (K : PySem.W.Frag) (H : Hp) (v : V) (x : α) : Prop := Dp K H v (Enc.d x)
def IsL {α : Type} [Enc α] (K : PySem.W.Frag) (H : Hp) (vs : List V) (xs : List α) : Prop := DpAll K H vs (xs.map Enc.d)
section
variable {K : PySem.W.Frag} {H H' : Hp} {α β γ : Type} [Enc α] [Enc β] [Enc γ] {p : Addr} {vs : List V} {xs : List α} {v u t : V} {x y : α} {b : β} {c : γ} {Q : VK}
theorem is_int {n : Int} : Is K H (.int n) n := .int n
theorem is_nat {n : Nat} : Is K H (.int n) n := .int n
theorem is_str {s : Str} (h : PyData.canLay0 (.str s) = true) : Is K H (.str s) (⟨s, h⟩ : SOk) := .str s
theorem is_stp (S : Stp [] H H') (h : Is K H v x) : Is K H' v x := dp_stp S _ _ h
theorem isl_stp (S : Stp [] H H') (h : IsL K H vs xs) : IsL K H' vs xs := dp_stpAll S _ _ h
theorem is_stpM [Flat α] {M : List Addr} (S : Stp M H H') (h : Is K H v x) : Is K H' v x := dp_stpM S _ _ (Flat.fl x) h
theorem isl_stpM [Flat α] {M : List Addr} (S : Stp M H H') (h : IsL K H vs xs) : IsL K H' vs xs := dp_stpMs S _ _ (noLs_map xs) h
theorem is_bl {b : Bool} : Is K H (.bl b) b := .bl b
theorem is_lst (h : SqL K H p vs) (k : IsL K H vs xs) : Is K H (.ref p) xs := .lst h k
theorem is_tu (h : SqT K H p vs) (k : IsL K H vs xs) : Is K H (.ref p) (Tu.mk xs) := .tup h k
theorem is_pr (h : SqT K H p [v, u]) (k : Is K H v x) (l : Is K H u b) : Is K H (.ref p) (x, b) := .tup h (.cons k (.cons l .nil))
theorem is_t3 (h : SqT K H p [v, u, t]) (k : Is K H v x) (l : Is K H u b) (m : Is K H t c) : Is K H (.ref p) (T3.mk x b c) := .tup h (.cons k (.cons l (.cons m .nil)))
theorem isl_nil : IsL K H [] ([] : List α) := .nil
theorem isl_cons (h : Is K H v x) (k : IsL K H vs xs) : IsL K H (v :: vs) (x :: xs) := .cons h k
theorem isl_map {f : α → V} (h : ∀ x ∈ xs, Is K H (f x) x) : IsL K H (xs.map f) xs := by
  induction xs with
  | nil => exact .nil
  | cons x xs ih => exact .cons (h x (by simp)) (ih fun y hy => h y (by simp [hy]))
theorem isl_map2 {β : Type} {l : List β} {f : β → V} {g : β → α} (h : ∀ b ∈ l, Is K H (f b) (g b)) : IsL K H (l.map f) (l.map g) := by
  induction l with
  | nil => exact .nil
  | cons x xs ih => exact .cons (h x (by simp)) (ih fun y hy => h y (by simp [hy]))
theorem isl_ints {ns : List Int} : IsL K H (ns.map V.int) ns := isl_map fun _ _ => is_int
theorem isl_nats {ns : List Nat} : IsL K H (ns.map fun n : Nat => V.int n) ns := isl_map fun _ _ => is_nat
theorem isl_bls {ns : List Bool} : IsL K H (ns.map V.bl) ns := isl_map fun _ _ => is_bl
theorem isl_app {vs' : List V} {xs' : List α} (h : IsL K H vs xs) (k : IsL K H vs' xs') : IsL K H (vs ++ vs') (xs ++ xs') := by
  induction vs generalizing xs with
  | nil => cases xs with
    | nil => exact k
    | cons x xs => cases h
  | cons v vs ih => cases xs with
    | nil => cases h
    | cons x xs => cases h with | cons h1 h2 => exact .cons h1 (ih (xs := xs) h2)
theorem isl_len (h : IsL K H vs xs) : vs.length = xs.length := by
  induction vs generalizing xs with
  | nil => cases xs with
    | nil => rfl
    | cons x xs => cases h
  | cons v vs ih => cases xs with
    | nil => cases h
    | cons x xs => cases h with | cons h1 h2 => simp [ih (xs := xs) h2]
theorem isl_at {i : Nat} {v : V} (h : IsL K H vs xs) (e : vs[i]? = some v) : ∃ x, xs[i]? = some x ∧ Is K H v x := by
  induction vs generalizing xs i with
  | nil => cases e
  | cons w vs ih => cases xs with
    | nil => cases h
    | cons x xs => cases h with | cons h1 h2 => cases i with
      | zero => cases e; exact ⟨x, rfl, h1⟩
      | succ i => exact ih (xs := xs) h2 e
theorem isl_get {i : Nat} {x : α} (h : IsL K H vs xs) (e : xs[i]? = some x) : ∃ v, vs[i]? = some v ∧ Is K H v x := by
  induction vs generalizing xs i with
  | nil => cases xs with
    | nil => cases e
    | cons x xs => cases h
  | cons w vs ih => cases xs with
    | nil => cases h
    | cons y xs => cases h with | cons h1 h2 => cases i with
      | zero => cases e; exact ⟨w, rfl, h1⟩
      | succ i => exact ih (xs := xs) h2 e
theorem is_shaped (hn : Enc.n α ≤ 64) : SeqAt.shaped (Enc.d x) = true := by
  unfold SeqAt.shaped
  rw [Enc.lay]
  exact decide_eq_true (Nat.le_trans (Enc.deep x) hn)
theorem v_eqE (h1 : Is K H v x) (h2 : Is K H u y) (k : Q (.bl (@decide (x = y) (Enc.dec x y))) H) (hn : Enc.n α ≤ 64 := by decide) : aEq K v u H Q :=
  v_eqD h1 h2 (is_shaped hn) (is_shaped hn) (by rw [Enc.eqv]; exact k)
theorem v_neE (h1 : Is K H v x) (h2 : Is K H u y) (k : Q (.bl (!@decide (x = y) (Enc.dec x y))) H) (hn : Enc.n α ≤ 64 := by decide) : aNe K v u H Q :=
  v_neD h1 h2 (is_shaped hn) (is_shaped hn) (by rw [Enc.eqv]; exact k)
theorem v_eqL {ns ms : List Int} {q : Addr} (h1 : SqL K H p (ns.map V.int)) (h2 : SqL K H q (ms.map V.int)) (k : Q (.bl (decide (ns = ms))) H) : aEq K (.ref p) (.ref q) H Q :=
  v_eqE (is_lst h1 isl_ints) (is_lst h2 isl_ints) (by rw [show @decide (ns = ms) (Enc.dec ns ms) = decide (ns = ms) by congr]; exact k)
theorem v_neL {ns ms : List Int} {q : Addr} (h1 : SqL K H p (ns.map V.int)) (h2 : SqL K H q (ms.map V.int)) (k : Q (.bl (!decide (ns = ms))) H) : aNe K (.ref p) (.ref q) H Q :=
  v_neE (is_lst h1 isl_ints) (is_lst h2 isl_ints) (by rw [show @decide (ns = ms) (Enc.dec ns ms) = decide (ns = ms) by congr]; exact k)
theorem v_neL0 {ns : List Int} {q : Addr} (h1 : SqL K H p (ns.map V.int)) (h2 : SqL K H q []) (k : Q (.bl (!decide (ns = []))) H) : aNe K (.ref p) (.ref q) H Q := v_neL (ms := []) h1 h2 k
theorem v_ixLast {ys : List V} (h : SqL K H p (ys ++ [v])) (k : Q v H) : aIx K (.ref p) (.int (-1)) H Q := ⟨_, v, .inl h, atI_last ys v, k⟩
theorem v_neN0 {ns : List Nat} {q : Addr} (h1 : SqL K H p (ns.map fun n : Nat => V.int n)) (h2 : SqL K H q []) (k : Q (.bl (!decide (ns = []))) H) : aNe K (.ref p) (.ref q) H Q :=
  v_neE (y := []) (is_lst h1 isl_nats) (is_lst h2 isl_nil) (by rw [show @decide (ns = []) (Enc.dec ns []) = decide (ns = []) by congr]; exact k)
theorem v_ixMod {vs : List V} {c : Int} {m : Nat} (h : SqL K H p vs) (hl : vs.length = m) (hm : 0 < m) (k : ∀ v ∈ vs, Q v H) : aIx K (.ref p) (.int (c % (m : Int))) H Q := by
  have h0 := Int.emod_nonneg c (show (m : Int) ≠ 0 by omega)
  have h1 := Int.emod_lt_of_pos c (show (0 : Int) < m by omega)
  have e : c % (m : Int) = ((c % (m : Int)).toNat : Int) := by omega
  have hlt : (c % (m : Int)).toNat < vs.length := by omega
  exact v_ixLn h e (List.getElem?_eq_getElem hlt) (k _ (List.getElem_mem hlt))
theorem v_ixAny {vs : List V} {i : Int} {n : Nat} (h : SqL K H p vs) (e : i = n) (hn : n < vs.length) (k : ∀ v ∈ vs, Q v H) : aIx K (.ref p) (.int i) H Q := v_ixLn h e (List.getElem?_eq_getElem hn) (k _ (List.getElem_mem hn))
/-- all are ints -/
def Ints (vs : List V) : Prop := ∀ v ∈ vs, ∃ n : Int, v = .int n
theorem ints_nil : Ints [] := fun _ h => by cases h
theorem ints_cons {n : Int} {vs : List V} (h : Ints vs) : Ints (.int n :: vs) := fun v hv => by
  rcases List.mem_cons.mp hv with rfl | hv
  · exact ⟨n, rfl⟩
  · exact h v hv
/-- a place of a list of ints -/
def getE (es : List Int) (i : Nat) : Int := es.getD i 0
theorem getE_at {es : List Int} {i : Nat} (h : i < es.length) : (es.map V.int)[i]? = some (V.int (getE es i)) := by simp [getE, h]
theorem getE_app {es : List Int} {i : Nat} {y : Int} (h : i < es.length) : getE (es ++ [y]) i = getE es i := by simp [getE, List.getElem?_append, h]
theorem getE_last {es : List Int} {i : Nat} {y : Int} (h : es.length = i) : getE (es ++ [y]) i = y := by subst h; simp [getE]
theorem v_ixE {es : List Int} {i : Int} {n : Nat} (h : SqL K H p (es.map V.int)) (e : i = n) (hn : n < es.length) (k : Q (.int (getE es n)) H) : aIx K (.ref p) (.int i) H Q := v_ixLn h e (getE_at hn) k
theorem v_ixTE {es : List Int} {i : Int} {n : Nat} (h : SqT K H p (es.map V.int)) (e : i = n) (hn : n < es.length) (k : Q (.int (getE es n)) H) : aIx K (.ref p) (.int i) H Q := v_ixTn h e (getE_at hn) k
theorem v_ixEl {es : List Int} {n : Nat} (h : SqL K H p (es.map V.int)) (e : es.length = n + 1) (k : Q (.int (getE es n)) H) : aIx K (.ref p) (.int (-1)) H Q := by
  rcases List.eq_nil_or_concat es with z | ⟨ys, y, z⟩
  · subst z; cases e
  · have hz : es = ys ++ [y] := by simpa using z
    subst hz
    rw [List.map_append] at h
    have hl : ys.length = n := by simpa using e
    rw [getE_last hl] at k
    exact v_ixLast h k
theorem v_eqLL {ns ms : List Int} {q : Addr} (h1 : SqL K H p (ns.map V.int)) (h2 : SqL K H q (ms.map V.int)) (e : ns = ms) (k : Q (.bl true) H) : aEq K (.ref p) (.ref q) H Q := v_eqL h1 h2 (by rw [decide_eq_true e]; exact k)
theorem v_lenQ {n : Nat} (h : SqL K H p vs) (e : vs.length = n) (k : Q (.int n) H) : aLen K [.ref p] H Q := ⟨_, .inl h, by rw [e]; exact k⟩
theorem v_lenU {n : Nat} (h : SqT K H p vs) (e : vs.length = n) (k : Q (.int n) H) : aLen K [.ref p] H Q := ⟨_, .inr h, by rw [e]; exact k⟩
/-- tuple(xs) -/
theorem v_tuL (h : SqL K H p vs) (k : ∀ l, H l = none → Q (.ref l) (upd H l (.tup vs))) : ∃ p' ys, [V.ref p] = [.ref p'] ∧ ((SqL K H p' ys ∧ ∀ l, H l = none → Q (.ref l) (upd H l (.tup ys))) ∨ (SqT K H p' ys ∧ Q (.ref p') H)) := ⟨p, vs, rfl, .inl ⟨h, k⟩⟩
/-- xs.pop(i) -/
theorem v_popAt {i : Int} {n : Nat} (h : H p = some (.lst vs)) (e : i = n) (hn : n < 1000000) (hv : vs[n]? = some v) (k : Q v (upd H p (.lst (vs.eraseIdx n)))) : rPopAt (.ref p) [.int i] H Q := by
  refine ⟨p, vs, i, n, v, rfl, rfl, h, by omega, by omega, ?_, hv, k⟩
  subst e
  exact (ixN_seq (ixN_n (List.getElem?_eq_some_iff.mp hv).1)).1
/-- sorted(xs), ints -/
theorem v_sortI {ns : List Int} (h : SqL K H p (ns.map V.int)) (k : ∀ (ns' : List Int) (q : Addr), ns'.Perm ns → ns'.Pairwise (· ≤ ·) → H q = none → Q (.ref q) (upd H q (.lst (ns'.map V.int)))) : rSortedI K [.ref p] H Q := ⟨p, ns, rfl, h, k⟩
/-- list(range(n)) -/
def kLrg1 (Q : VK) : VK := fun x H1 => ∃ n : Int, x = .int n ∧ RgOk 0 n ∧ ∀ q, H1 q = none → Q (.ref q) (upd H1 q (.lst (rgV 0 n)))
theorem r_lrg1 {ta : TE} {σ : L2.St} (h : ta σ H (kLrg1 Q)) : tLstRg (tRg1 ta) σ H Q := h
theorem rgV_nat (n : Nat) : rgV 0 (n : Int) = (List.range n).map fun i : Nat => V.int i := by unfold rgV; simp
theorem v_lrg1 {i : Int} {n : Nat} (e : i = n) (hn : n ≤ 1000000) (k : ∀ q, H q = none → Q (.ref q) (upd H q (.lst ((List.range n).map fun i : Nat => V.int i)))) : kLrg1 Q (.int i) H := by
  refine ⟨i, rfl, RgOk.of_le (by omega) (by omega) (by omega) (by omega), ?_⟩
  rw [e, rgV_nat]
  exact k
def kLrg2 (Q : VK) (x : V) : VK := fun y H2 => ∃ i j : Int, x = .int i ∧ y = .int j ∧ RgOk i j ∧ ∀ q, H2 q = none → Q (.ref q) (upd H2 q (.lst (rgV i j)))
theorem r_lrg2 {ta tb : TE} {σ : L2.St} (h : ta σ H fun x H1 => tb σ H1 (kLrg2 Q x)) : tLstRg (tRg2 ta tb) σ H Q := h
theorem rgV_nats (n m : Nat) : rgV (n : Int) (m : Int) = (List.range' n (m - n)).map fun i : Nat => V.int i := by
  unfold rgV
  rw [show ((m : Int) - (n : Int)).toNat = m - n by omega, List.range'_eq_map_range, List.map_map]
  exact List.map_congr_left fun i _ => by simp
theorem v_lrg2 {i j : Int} {n m : Nat} (e : i = n) (e2 : j = m) (hn : n ≤ 1000000) (hm : m ≤ 1000000) (k : ∀ q, H q = none → Q (.ref q) (upd H q (.lst ((List.range' n (m - n)).map fun i : Nat => V.int i)))) : kLrg2 Q (.int i) (.int j) H := by
  refine ⟨i, j, rfl, rfl, RgOk.of_le (by omega) (by omega) (by omega) (by omega), ?_⟩
  rw [e, e2, rgV_nats]
  exact k
end
section
variable {X : Cx} {a b : Expr} {ta tb : TE} {p p2 pos pos2 : Pos}
theorem pe_listrange (hg : Gl X "list") (hm : X.mg "list" = none) (hg2 : Gl X "range") (hm2 : X.mg "range" = none) (ha : PE X a ta) (hc : X.calm = true := by rfl) (na : starEach [a] X.env = (false, eval a X.env) :: starEach [] X.env := by rfl)
    (na2 : starEach [.Call (.Name "range" p2) [a] [] pos2] X.env = (false, eval (.Call (.Name "range" p2) [a] [] pos2) X.env) :: starEach [] X.env := by rfl) : PE X (.Call (.Name "list" p) [.Call (.Name "range" p2) [a] [] pos2] [] pos) (tLstRg (tRg1 ta)) :=
  pe_listRg hc hg hm (prg_1 hg2 hm2 ha na) na2
theorem pe_listrange2 (hg : Gl X "list") (hm : X.mg "list" = none) (hg2 : Gl X "range") (hm2 : X.mg "range" = none) (ha : PE X a ta) (hb : PE X b tb) (hc : X.calm = true := by rfl) (na : starEach [a, b] X.env = (false, eval a X.env) :: starEach [b] X.env := by rfl)
    (nb : starEach [b] X.env = (false, eval b X.env) :: starEach [] X.env := by rfl) (hp : (backTo pos2 (starEach [b] X.env)).any (·.1) = false := by rfl)
    (na2 : starEach [.Call (.Name "range" p2) [a, b] [] pos2] X.env = (false, eval (.Call (.Name "range" p2) [a, b] [] pos2) X.env) :: starEach [] X.env := by rfl) : PE X (.Call (.Name "list" p) [.Call (.Name "range" p2) [a, b] [] pos2] [] pos) (tLstRg (tRg2 ta tb)) :=
  pe_listRg hc hg hm (prg_2 hg2 hm2 ha hb na nb hp) na2
end
section
variable {C : Addr} {m : Str} {sp : Sp} {dvs vs : List V} {E : XK} {ta : TE} {t : TA} {σ : L2.St} {H : Hp} {Q : VK} {a dx : Addr} {fs : List (Str × V)}
def kMeth (C : Addr) (m : Str) (sp : Sp) (dvs : List V) (E : XK) (t : TA) (σ : L2.St) (Q : VK) : VK := fun x H1 => ∃ a dx fs, x = .ref a ∧ H1 a = some (.ins C dx fs) ∧ fs.lookup m = none ∧ t σ H1 fun vs H2 => sp (x :: (vs ++ dvs)) H2 Q E
theorem r_meth (h : ta σ H (kMeth C m sp dvs E t σ Q)) : tMeth C m sp dvs E ta t σ H Q := h
theorem v_meth (h : H a = some (.ins C dx fs)) (l : fs.lookup m = none) (k : t σ H fun vs H2 => sp (.ref a :: (vs ++ dvs)) H2 Q E) : kMeth C m sp dvs E t σ Q (.ref a) H := ⟨a, dx, fs, rfl, h, l, k⟩
def kMake (C : Addr) (sp : Sp) (dvs : List V) (E : XK) (Q : VK) : List V → Hp → Prop := fun vs H1 => ∀ x dx, H1 x = none → H1 dx = none → dx ≠ x → sp (.ref x :: (vs ++ dvs)) (upd (upd H1 dx (.own x)) x (.ins C dx [])) (fun v H2 => v = .non ∧ Q (.ref x) H2) E
theorem r_make (h : t σ H (kMake C sp dvs E Q)) : tMake C sp dvs E t σ H Q := h
theorem v_make (k : ∀ x dx, H x = none → H dx = none → dx ≠ x → sp (.ref x :: (vs ++ dvs)) (upd (upd H dx (.own x)) x (.ins C dx [])) (fun v H2 => v = .non ∧ Q (.ref x) H2) E) : kMake C sp dvs E Q vs H := k
theorem isi_bl_int {K : PySem.W.Frag} {b : Bool} (k : Q (.bl true) H) : rIsi K [.bl b, .ty "int"] H Q := ⟨.bl b, .ty "int", .type "bool", .type "int", true, rfl, .ty _, .base (.bl b), by rfl, k⟩
theorem isi_bl_bool {K : PySem.W.Frag} {b : Bool} (k : Q (.bl true) H) : rIsi K [.bl b, .ty "bool"] H Q := ⟨.bl b, .ty "bool", .type "bool", .type "bool", true, rfl, .ty _, .base (.bl b), by rfl, k⟩
theorem isi_L {K : PySem.W.Frag} {xs : List V} (h : H a = some (.lst xs)) (k : Q (.bl true) H) : rIsi K [.ref a, .ty "list"] H Q := ⟨.ref a, .ty "list", .type "list", .type "list", true, rfl, .ty _, .base (.lst h), by rfl, k⟩
theorem isi_T {K : PySem.W.Frag} {xs : List V} (h : H a = some (.tup xs)) (k : Q (.bl true) H) : rIsi K [.ref a, .ty "tuple"] H Q := ⟨.ref a, .ty "tuple", .type "tuple", .type "tuple", true, rfl, .ty _, .base (.tup h), by rfl, k⟩
end
section
variable {f g : Str} {v x : V} {r r' : List (Str × V)} {a1 a2 a3 a4 a5 a6 : Str × V}
theorem pf_nil : putF f v [] = [(f, v)] := rfl
theorem pf_hit : putF f v ((f, x) :: r) = (f, v) :: r := by simp [putF]
theorem pf_miss (h : g ≠ f) (k : putF f v r = r') : putF f v ((g, x) :: r) = (g, x) :: r' := by simp [putF, h, k]
theorem few0 : ([] : List (Str × V)).length < 1000 := by simp
theorem few1 : [a1].length < 1000 := by simp
theorem few2 : [a1, a2].length < 1000 := by simp
theorem few3 : [a1, a2, a3].length < 1000 := by simp
theorem few4 : [a1, a2, a3, a4].length < 1000 := by simp
theorem few5 : [a1, a2, a3, a4, a5].length < 1000 := by simp
theorem few6 : [a1, a2, a3, a4, a5, a6].length < 1000 := by simp
end
theorem mul64 {i j : Int} (h : -18446744073709551616 < i ∧ i < 18446744073709551616) (k : -18446744073709551616 < j ∧ j < 18446744073709551616) : IntMulOk i j :=
  (mulx_ok (a := 64) (b := 64) (by have : (2 : Nat) ^ 64 = 18446744073709551616 := by decide
                                   omega) (by have : (2 : Nat) ^ 64 = 18446744073709551616 := by decide
                                              omega) (by decide)).ok
theorem ne_of_none' {H : Hp} {a p : Addr} {o : HO} (hp : H p = none) (h : H a = some o) : a ≠ p := ne_of_none h hp
theorem r_ty {K : PySem.W.Frag} {H : Hp} {p : Addr} {xs : List V} {B : Prop} (h : H p = some (.lst xs)) (k : B) : tyV K "list" (.ref p) H ∧ B := ⟨ty_list h, k⟩
/-! built-ins by names of their own -/
def rListOf (K : PySem.W.Frag) : List V → Hp → VK → Prop := fun xs H Q => ∃ p ys, xs = [.ref p] ∧ (SqL K H p ys ∨ SqT K H p ys) ∧ ∀ l, H l = none → Q (.ref l) (upd H l (.lst ys))
def rTupOf (K : PySem.W.Frag) : List V → Hp → VK → Prop := fun xs H Q => ∃ p ys, xs = [.ref p] ∧ ((SqL K H p ys ∧ ∀ l, H l = none → Q (.ref l) (upd H l (.tup ys))) ∨ (SqT K H p ys ∧ Q (.ref p) H))
def rMax2 : List V → Hp → VK → Prop := fun xs H Q => ∃ i j, xs = [.int i, .int j] ∧ Q (.int (if j > i then j else i)) H
def rMin2 : List V → Hp → VK → Prop := fun xs H Q => ∃ i j, xs = [.int i, .int j] ∧ Q (.int (if j < i then j else i)) H
def rIns : V → List V → Hp → VK → Prop := fun x vs H Q => ∃ (l : Addr) (xs : List V) (i : Int) (y : V), x = .ref l ∧ vs = [.int i, y] ∧ H l = some (.lst xs) ∧ xs.length < sizeLine ∧ 0 ≤ i ∧ i < 2 ^ 63 ∧ Q .non (upd H l (.lst (xs.take i.toNat ++ [y] ++ xs.drop i.toNat)))
section
variable {X : Cx} {K : PySem.W.Frag} {H : Hp} {Q : VK} {p : Addr} {vs : List V} {v : V} {i j : Int}
theorem cListOf : CallR X (.type "list") (rListOf X.K) := call_list_of
theorem cTupOf : CallR X (.type "tuple") (rTupOf X.K) := call_tuple_of
theorem cMax2 (hc : X.calm = true) : CallR X (.builtin "max") rMax2 := call_max2 hc
theorem cMin2 (hc : X.calm = true) : CallR X (.builtin "min") rMin2 := call_min2 hc
theorem mIns : MtR X "list.insert" rIns := mt_insert
theorem w_listL (h : SqL K H p vs) (k : ∀ l, H l = none → Q (.ref l) (upd H l (.lst vs))) : rListOf K [.ref p] H Q := ⟨p, vs, rfl, .inl h, k⟩
theorem w_listT (h : SqT K H p vs) (k : ∀ l, H l = none → Q (.ref l) (upd H l (.lst vs))) : rListOf K [.ref p] H Q := ⟨p, vs, rfl, .inr h, k⟩
theorem w_tupL (h : SqL K H p vs) (k : ∀ l, H l = none → Q (.ref l) (upd H l (.tup vs))) : rTupOf K [.ref p] H Q := ⟨p, vs, rfl, .inl ⟨h, k⟩⟩
theorem w_tupT (h : SqT K H p vs) (k : Q (.ref p) H) : rTupOf K [.ref p] H Q := ⟨p, vs, rfl, .inr ⟨h, k⟩⟩
theorem w_max (k : Q (.int (if j > i then j else i)) H) : rMax2 [.int i, .int j] H Q := ⟨i, j, rfl, k⟩
theorem w_min (k : Q (.int (if j < i then j else i)) H) : rMin2 [.int i, .int j] H Q := ⟨i, j, rfl, k⟩
theorem w_ins {n : Nat} (h : H p = some (.lst vs)) (e : i = n) (hn : n < 1000000) (hl : vs.length < 1000000) (k : Q .non (upd H p (.lst (vs.take n ++ [v] ++ vs.drop n)))) : rIns (.ref p) [.int i, v] H Q :=
  ⟨p, vs, i, v, rfl, rfl, h, Nat.lt_trans hl (by decide), by omega, by omega, by rw [e]; exact k⟩
theorem w_insI (h : H p = some (.lst vs)) (h0 : 0 ≤ i) (h1 : i < 1000000) (hl : vs.length < 1000000) (k : Q .non (upd H p (.lst (vs.take i.toNat ++ [v] ++ vs.drop i.toNat)))) : rIns (.ref p) [.int i, v] H Q :=
  ⟨p, vs, i, v, rfl, rfl, h, Nat.lt_trans hl (by decide), h0, by omega, k⟩
end
/-! one layer of a heap taken off -/
section
variable {K : PySem.W.Frag} {H : Hp} {a p : Addr} {xs : List V} {o u : HO}
theorem off_old (hp : H p = none) (h : H a = some o) : upd H p u a = some o := upd_old h hp
theorem off_far (n : a ≠ p) (h : H a = some o) : upd H p u a = some o := upd_far n h
theorem sql_off (hp : H p = none) (h : SqL K H a xs) : SqL K (upd H p u) a xs := sql_upd h hp
theorem sql_offar (n : a ≠ p) (h : SqL K H a xs) : SqL K (upd H p u) a xs := sql_far h n
theorem sqt_off (hp : H p = none) (h : SqT K H a xs) : SqT K (upd H p u) a xs := sqt_upd h hp
theorem sqt_offar (n : a ≠ p) (h : SqT K H a xs) : SqT K (upd H p u) a xs := sqt_far h n
end
/-! x is True, for a truth x -/
def aIsB : R2 := fun x y H Q => ∃ b c, x = .bl b ∧ y = .bl c ∧ Q (.bl (decide (b = c))) H
def aNotB : R2 := fun x y H Q => ∃ b c, x = .bl b ∧ y = .bl c ∧ Q (.bl (!decide (b = c))) H
section
variable {X : Cx} {K : PySem.W.Frag} {H : Hp} {Q : VK} {b c : Bool} {x y : V} {d : PyData}
theorem oIsB : OpR X (compareOp .Is) aIsB := by
  intro pins s σ H x y v u Q I rx ry h
  obtain ⟨b, c, rfl, rfl, q⟩ := h
  cases rx
  cases ry
  show wpAny _ _ ((isSame (Value.bool b) (Value.bool c)) >>= fun z => pure (Value.bool z)) _ _ s
  exact wpAny_bind (wpAny_isSame_plain (by rfl) (wpAny_pure (fin_bl I q (by cases b <;> cases c <;> rfl))))
theorem oNotB : OpR X (compareOp .IsNot) aNotB := by
  intro pins s σ H x y v u Q I rx ry h
  obtain ⟨b, c, rfl, rfl, q⟩ := h
  cases rx
  cases ry
  show wpAny _ _ ((isSame (Value.bool b) (Value.bool c)) >>= fun z => pure (Value.bool (!z))) _ _ s
  exact wpAny_bind (wpAny_isSame_plain (by rfl) (wpAny_pure (fin_bl I q (by cases b <;> cases c <;> rfl))))
theorem w_isB (k : Q (.bl (decide (b = c))) H) : aIsB (.bl b) (.bl c) H Q := ⟨b, c, rfl, rfl, k⟩
theorem w_notB (k : Q (.bl (!decide (b = c))) H) : aNotB (.bl b) (.bl c) H Q := ⟨b, c, rfl, rfl, k⟩
mutual
theorem eqv_refl : ∀ d : PyData, d.canLay0 = true → PyData.eqv d d = true
  | .none, _ => by simp [PyData.eqv]
  | .bool _, _ => by simp [PyData.eqv]
  | .int _, _ => by simp [PyData.eqv]
  | .str _, _ => by simp [PyData.eqv]
  | .list ds, h => by simp only [PyData.eqv]; exact eqvAll_refl ds (by simpa [PyData.canLay0] using h)
  | .tuple ds, h => by simp only [PyData.eqv]; exact eqvAll_refl ds (by simpa [PyData.canLay0] using h)
  | .dict _, h => by simp [PyData.canLay0] at h
theorem eqvAll_refl : ∀ ds : List PyData, PyData.canLayAll0 ds = true → PyData.eqvAll ds ds = true
  | [], _ => by simp [PyData.eqvAll]
  | d :: ds, h => by
    have h' : d.canLay0 = true ∧ PyData.canLayAll0 ds = true := by simpa [PyData.canLayAll0] using h
    simp only [PyData.eqvAll, eqv_refl d h'.1, eqvAll_refl ds h'.2, Bool.and_self]
end
/-- the same data -/
theorem v_eqR (h1 : Dp K H x d) (h2 : Dp K H y d) (hs : SeqAt.shaped d = true) (k : Q (.bl true) H) : aEq K x y H Q :=
  v_eqD h1 h2 hs hs (by rw [eqv_refl d (SeqAt.canLay_of_shaped hs)]; exact k)
theorem v_neR (h1 : Dp K H x d) (h2 : Dp K H y d) (hs : SeqAt.shaped d = true) (k : Q (.bl false) H) : aNe K x y H Q :=
  v_neD h1 h2 hs hs (by rw [eqv_refl d (SeqAt.canLay_of_shaped hs)]; exact k)
end
/-- an if whose two ways meet again -/
theorem r_wJ {c : Prop} [Decidable c] {t1 t2 : TS} {D : Ends} {σ : L2.St} {H : Hp} (W : L2.St → Hp → Prop) (hk : ∀ σ' H', W σ' H' → D.nx σ' H')
    (h1 : c → ∀ N : L2.St → Hp → Prop, (∀ σ' H', W σ' H' → N σ' H') → t1 { D with nx := N } σ H) (h2 : ¬ c → ∀ N : L2.St → Hp → Prop, (∀ σ' H', W σ' H' → N σ' H') → t2 { D with nx := N } σ H) :
    if decide c = true then t1 D σ H else t2 D σ H := r_w (fun h => h1 h D.nx hk) fun h => h2 h D.nx hk
theorem r_nwJ {c : Prop} [Decidable c] {t1 t2 : TS} {D : Ends} {σ : L2.St} {H : Hp} (W : L2.St → Hp → Prop) (hk : ∀ σ' H', W σ' H' → D.nx σ' H')
    (h1 : ¬ c → ∀ N : L2.St → Hp → Prop, (∀ σ' H', W σ' H' → N σ' H') → t1 { D with nx := N } σ H) (h2 : c → ∀ N : L2.St → Hp → Prop, (∀ σ' H', W σ' H' → N σ' H') → t2 { D with nx := N } σ H) :
    if (!decide c) = true then t1 D σ H else t2 D σ H := r_nw (fun h => h1 h D.nx hk) fun h => h2 h D.nx hk
/-! a heap without one address -/
def wo (D : Addr) (H : Hp) : Hp := fun b => if b = D then none else H b
theorem wo_at {D b : Addr} {H : Hp} {o : HO} (n : b ≠ D) (h : H b = some o) : wo D H b = some o := by unfold wo; rw [if_neg n]; exact h
theorem wo_upd {D : Addr} {H : Hp} {o : HO} : wo D (upd H D o) = wo D H := by
  funext b
  unfold wo
  by_cases h : b = D
  · rw [if_pos h, if_pos h]
  · rw [if_neg h, if_neg h, upd_ne h]
theorem wo_stp {D : Addr} {H : Hp} : Stp [] (wo D H) H := ⟨fun b o e _ => by
  unfold wo at e
  by_cases h : b = D
  · rw [if_pos h] at e; cases e
  · rw [if_neg h] at e; exact e, fun b e => by
  unfold wo
  by_cases h : b = D
  · rw [if_pos h]
  · rw [if_neg h]; exact e⟩
theorem wo_mono {D : Addr} {H H' : Hp} (S : Stp [] H H') : Stp [] (wo D H) (wo D H') := ⟨fun b o e _ => by
  unfold wo at e ⊢
  by_cases h : b = D
  · rw [if_pos h] at e; cases e
  · rw [if_neg h] at e ⊢; exact S.keep0 e, fun b e => by
  unfold wo at e ⊢
  by_cases h : b = D
  · rw [if_pos h]
  · rw [if_neg h] at e ⊢; exact S.dom b e⟩
/-- data gathered in the list at D -/
theorem dp_gather {K : PySem.W.Frag} {D : Addr} {H1 H2 : Hp} {us : List V} {ds : List PyData} {x : V} {d : PyData} {o : HO} (S : Stp [] H1 H2) (h : DpAll K (wo D H1) us ds) (k : Dp K (wo D H2) x d) : DpAll K (wo D (upd H2 D o)) (us ++ [x]) (ds ++ [d]) := by
  rw [wo_upd]
  have h2 := dp_stpAll (wo_mono S) _ _ h
  clear h
  induction us generalizing ds with
  | nil => cases h2; exact .cons k .nil
  | cons u us ih => cases h2 with | cons h1 h2 => exact .cons h1 (ih h2)
theorem st_new {M : List Addr} {H H1 : Hp} {p : Addr} {o : HO} (h : H1 p = none) (a : Stp M H H1) : Stp M H (upd H1 p o) := a.new h
theorem st_trans {M : List Addr} {H H1 H2 : Hp} (b : Stp [] H1 H2) (a : Stp M H H1) : Stp M H H2 := a.then0 b
theorem st_put {M : List Addr} {H H1 : Hp} {p : Addr} {o : HO} (h : H p = none) (a : Stp M H H1) : Stp M H (upd H1 p o) := a.putN h
theorem st_fr {H H' : Hp} {p : Addr} (h : H' p = none) (S : Stp [] H H') : H p = none := S.dom p h
theorem dpall_len {K : PySem.W.Frag} {H : Hp} : ∀ {us : List V} {ds : List PyData}, DpAll K H us ds → us.length = ds.length
  | [], _, h => by cases h; rfl
  | u :: us, _, h => by cases h with | cons h1 h2 => simp [dpall_len h2]
theorem dpall_get {K : PySem.W.Frag} {H : Hp} {us : List V} {ds : List PyData} {i : Nat} {d : PyData} (h : DpAll K H us ds) (e : ds[i]? = some d) : ∃ v, us[i]? = some v ∧ Dp K H v d := by
  induction us generalizing ds i with
  | nil => cases h; cases e
  | cons u us ih => cases h with | cons h1 h2 => cases i with
    | zero => cases e; exact ⟨u, rfl, h1⟩
    | succ i => exact ih h2 e
theorem dpall_map {K : PySem.W.Frag} {H : Hp} {β : Type} {l : List β} {f : β → V} {g : β → PyData} (h : ∀ b ∈ l, Dp K H (f b) (g b)) : DpAll K H (l.map f) (l.map g) := by
  induction l with
  | nil => exact .nil
  | cons x xs ih => exact .cons (h x (by simp)) (ih fun y hy => h y (by simp [hy]))
theorem shaped_list {ds : List PyData} (h : ∀ d ∈ ds, PyData.canLay0 d = true ∧ PyData.depth d ≤ 1) : SeqAt.shaped (.list ds) = true := by
  have h1 : PyData.canLayAll0 ds = true ∧ PyData.depthAll ds ≤ 1 := by
    induction ds with
    | nil => exact ⟨by simp [PyData.canLayAll0], by simp [PyData.depthAll]⟩
    | cons d ds ih =>
      obtain ⟨a, b⟩ := h d (by simp)
      obtain ⟨c, e⟩ := ih fun x hx => h x (by simp [hx])
      exact ⟨by simp only [PyData.canLayAll0, a, c, Bool.and_self], by simp only [PyData.depthAll]; omega⟩
  unfold SeqAt.shaped
  rw [show PyData.canLay0 (.list ds) = true by simp only [PyData.canLay0]; exact h1.1]
  exact decide_eq_true (by simp only [PyData.depth]; omega)
/-! defs with defaults -/
section
variable {P : Program} {w : World} {K : PySem.W.Frag} {mg : Str → Option Value} {base : Heap}
theorem funD_mk {x qual : Str} {st : Stmt} {f T : Addr} {oc oT : Value} {od an oU : Option Addr} {osl tsl : Array (Option Value)} {kV doc pm cdv ct : Value} {its : List Value} {n : Nat} {dvs : List V}
    (l : K.lookup f = some ⟨oc, od, .func (PySem.W.fnOf x qual (defArgs st) (defBody st) (defScope st) (.ref T) kV doc pm an cdv ct), osl⟩) (t : K.lookup T = some ⟨oT, oU, .seq its.toArray n, tsl⟩) (r : Vals dvs its) (hd : dvs ≠ [])
    (c : PySem.W.codeIn K cdv qual = true) (k : PySem.W.keepIn K (.ref f) = true) : FunD K x qual (defArgs st) (defBody st) (defScope st) dvs [] f (PySem.W.fnOf x qual (defArgs st) (defBody st) (defScope st) (.ref T) kV doc pm an cdv ct) :=
  ⟨⟨oc, od, _, kV, doc, pm, an, cdv, ct, osl, rfl, l, c, .inr ⟨hd, T, _, its, n, rfl, t, rfl, r⟩, .inl rfl⟩, k⟩
theorem funD_ok {x qual : Str} {st : Stmt} {dvs : List V} {f : Addr} {fd : FuncData} {N ps : List Str} {k : Nat} {sp : Sp} (F : FunD K x qual (defArgs st) (defBody st) (defScope st) dvs [] f fd) (S : FnScope N ps (defScope st)) (len : ∀ vs H Q E, sp vs H Q E → vs.length = ps.length)
    (hb : ∀ (cdv : Value) (A : Around) (outer : List Env) (s : Shared) (H : Hp) (vs : List V) (Q : VK) (E : XK), Room k (A.deeper (envOfC qual (defScope st) s.heap.objs.size f cdv)) → sp vs H Q E →
      ∃ t, PSs (cxOf CX0 P w K mg base N qual (defScope st) f cdv A outer s H E).nox (defBody st) t ∧ t { nx := fun _ H' => Q .non H', rt := Q } (start N vs) H) : FnOk P w K mg base CX0 (k + 1) f fd ps sp :=
  F.ok S len fun cdv A outer s H vs Q E hr h => by
    obtain ⟨t, h1, h2⟩ := hb cdv A outer s H vs Q E hr h
    exact ⟨t, h1.nox, h2⟩
end
theorem Stp.putI {M : List Addr} {H H1 : Hp} {p C d : Addr} {fs : List (Str × V)} {o : HO} (a : Stp M H H1) (h : p ∈ M) (h1 : H1 p = some (.ins C d fs)) : Stp M H (upd H1 p o) := a.putM h h1 (fun z => z)
theorem Stp.putL {M : List Addr} {H H1 : Hp} {p : Addr} {xs : List V} {o : HO} (a : Stp M H H1) (h : p ∈ M) (h1 : H1 p = some (.lst xs)) : Stp M H (upd H1 p o) := a.putM h h1 (fun z => z)
theorem v_tup1 {H : Hp} {Q : VK} {x : V} (h : ∀ p, H p = none → Q (.ref p) (upd H p (.tup [x]))) : SH.kTup Q [x] H := v_tup (by simp) h
/-- a statement of a def's body -/
def inDef (s : Stmt) (j : Nat) : Stmt := (defBody s).getD j (.Pass ⟨0, 0, 0, 0⟩)
/-- a table that tells nothing as yet -/
theorem tabN_empty {H : Hp} {P : Addr} {nm : Nat → Nat → Str} (h : H P = some (.tbl #[])) : NdefX.TabN H P nm := ⟨#[], h, by trivial, fun pos cv hc => by cases hc⟩
/-! rules with the frag by its name (in a comprehension the context is not to be seen from outside) -/
section
variable {X : Cx}
theorem opK {op : Value → Value → Sem Value} (r : PySem.W.Frag → R2) (K : PySem.W.Frag) (h : OpR X op (r X.K)) (e : X.K = K := by rfl) : OpR X op (r K) := e ▸ h
theorem ixK (r : PySem.W.Frag → R2) (K : PySem.W.Frag) (h : IxR X (r X.K)) (e : X.K = K := by rfl) : IxR X (r K) := e ▸ h
theorem crK {v : Value} (r : PySem.W.Frag → List V → Hp → VK → Prop) (K : PySem.W.Frag) (h : CallR X v (r X.K)) (e : X.K = K := by rfl) : CallR X v (r K) := e ▸ h
theorem slK (r : PySem.W.Frag → V → Option Int → Option Int → Hp → VK → Prop) (K : PySem.W.Frag) (h : SlR X (r X.K)) (e : X.K = K := by rfl) : SlR X (r K) := e ▸ h
theorem piK {tg e : Expr} (r : PySem.W.Frag → TI) (K : PySem.W.Frag) (h : PI X tg e (r X.K)) (e' : X.K = K := by rfl) : PI X tg e (r K) := e' ▸ h
theorem peK {e : Expr} (r : PySem.W.Frag → TE) (K : PySem.W.Frag) (h : PE X e (r X.K)) (e' : X.K = K := by rfl) : PE X e (r K) := e' ▸ h
end
end SH

set_option Elab.async false
set_option linter.all false
set_option maxRecDepth 100000
set_option maxHeartbeats 4000000
/-! SHF: list(reversed(xs)), a new list -/
namespace SH
open PySem PySem.Spec PyProof.Rows L2
section
variable {prog : Program} {w : World} {A : Around} {E : Value → Shared → Prop} {s : Shared}
theorem ext_lrev {R : Result → Shared → Prop} {it l : Addr} {items : Array Value} (hh : A.handled = none) (hit : s.heap.IsRevIter it l ((items.size : Int) - 1)) (hl : s.heap.IsList l items) (hne : l ≠ it) (hn : items.size ≤ sizeLine)
    (S : Addr) (c0 : Nat) (hS : s.heap.get? S = some { cls := .type "list", data := .seq #[] c0 }) (nSi : S ≠ it) (nSl : S ≠ l)
    (hR : ∀ h' tk acc c', (∀ b o, b ≠ S → b ≠ it → s.heap.get? b = some o → h'.get? b = some o) → h'.get? S = some { cls := .type "list", dict := none, data := .seq acc c', slots := #[] } →
      ItemsOf (fun i v => items[items.size - 1 - i]? = some v) acc items.size → R (.ok (.ret .none)) { s with heap := h', toks := tk }) :
    wpAny (model prog w) A.in1 (Builtin.List.listExtendWith (.ref S) (.ref it) .none)
      (fun z s' => match z with | .done u => R (.ok u) s' | .again c' => c'.quiet = true ∧ codeAny (model prog w) A c' R s') (fun e s' => R (.error e) s') s := by
  have W := (Walks.listRev (prog := prog) (w := w) (A := A.in1) hh it l hne items).toS
  have nf : S ∉ [it, l] := by simp only [List.mem_cons, List.not_mem_nil, or_false, not_or]; exact ⟨nSi, nSl⟩
  have ty : s.TypeIs (.ref it) "list_reverseiterator" := Heap.IsRevIter.typeIs (s := s) hit
  have same : Builtin.List.listSameRef (.ref S) (.ref it) = false := by simp [Builtin.List.listSameRef, nSi]
  unfold Builtin.List.listExtendWith; refine wpAny_bind (wpAny_typeOf ty ?_); rw [if_neg (by rw [same]; decide)]
  refine wpAny_bind (wpAny_pyIter_revIter (s := s) hit ?_); refine wpAny_bind (wpAny_holding ?_); unfold Builtin.List.listLengthHint
  refine wpAny_bind (wpAny_specialOf ty RT.nolen_lri ?_); show wpAny _ A.in1 (specialOf (Value.ref it) (Str.ofString "__length_hint__") >>= _) _ _ _
  refine wpAny_bind (wpAny_specialOf ty RT.hint_lri ?_); generalize hid : ("list_reverseiterator.__length_hint__" : String) = id0
  wp_delta; rw [show splitId id0 = some ("list_reverseiterator", "__length_hint__") from by subst hid; decide +kernel]; subst hid
  refine wpAny_bind (wpAny_isInstance (b := true) ty (by rw [isSubtype_type]; kernel_rfl) ?_); refine wpAny_pure ?_; rw [if_neg (by decide)]
  have z0 : ((items.size : Nat) : Int) - 1 - ((0 : Nat) : Int) = (items.size : Int) - 1 := by omega
  refine wpAny_pure ⟨plainId_quiet F.plain_extend_loop _, codeAny_extend_loopS W hn _ nf _ items.size 0 _ _ _ rfl (Nat.zero_le _) ⟨Nat.zero_le _, by rw [z0]; exact hit, hl⟩ hS (ItemsOf.nil _) fun s' acc c' hm hS' ha => ?_⟩
  rw [Moved.eq_with hm]; refine hR s'.heap s'.toks acc c' (fun b o n1 n2 e => hm.heap b o (fun hmem => ?_) e) hS' ha
  rcases List.mem_cons.mp hmem with e' | hmem
  · exact n1 e'
  · exact n2 (List.mem_singleton.mp hmem)
theorem call_list_rev {it l : Addr} {items : Array Value} {Q : Value → Shared → Prop} (hh : A.handled = none) (hit : s.heap.IsRevIter it l ((items.size : Int) - 1)) (hl : s.heap.IsList l items) (hne : l ≠ it) (hn : items.size ≤ sizeLine)
    (hQ : ∀ h' tk acc c', (∀ b o, b ≠ it → s.heap.get? b = some o → h'.get? b = some o) → h'.get? s.heap.objs.size = some { cls := .type "list", dict := none, data := .seq acc c', slots := #[] } →
      ItemsOf (fun i v => items[items.size - 1 - i]? = some v) acc items.size → Q (.ref s.heap.objs.size) { s with heap := h', toks := tk }) :
    wpAny (model prog w) A (call (.type "list") [.ref it]) Q E s := by
  refine callType_codes (Q₁ := fun ob s1 => ob = .ref s.heap.objs.size ∧ s1 = { s with heap := s.heap.push { cls := .type "list", data := .seq #[] } }) F.called_list (F.typeCall_list_1 _) F.entry_list_init (code_list_new _ ⟨rfl, rfl⟩) fun ob s1 h1 => ?_
  obtain ⟨e1, e2⟩ := h1; subst e1; subst e2
  have hS : (s.heap.push { cls := .type "list", data := .seq #[] }).get? s.heap.objs.size = some { cls := .type "list", data := .seq #[] } := by exact Heap.get?_push_size _ rfl
  obtain ⟨oi, hoi, _⟩ := id hit; obtain ⟨ol, hol, hol'⟩ := id hl
  have nSi : s.heap.objs.size ≠ it := Nat.ne_of_gt (Heap.lt_size hoi); have nSl : s.heap.objs.size ≠ l := Nat.ne_of_gt (Heap.lt_size hol)
  refine ⟨⟨_, hS, rfl⟩, F.args_list_init_2 _ _, ?_⟩
  show wpAny _ _ (do let old ← Builtin.List.listItems (.ref s.heap.objs.size); Builtin.List.listUpdate (.ref s.heap.objs.size) (fun _ => #[]); letGo old.toList.reverse; Builtin.List.listExtendWith (.ref s.heap.objs.size) (.ref it) .none) _ _ _
  refine wpAny_bind ?_; unfold Builtin.List.listItems; refine wpAny_bind (wpAny_seqItems hS rfl (wpAny_pure ?_))
  show wpAny _ _ (updateSeq s.heap.objs.size (fun _ => #[]) >>= fun _ => letGo (#[] : Array Value).toList.reverse >>= fun _ => Builtin.List.listExtendWith (.ref s.heap.objs.size) (.ref it) .none) _ _ _
  refine wpAny_bind (wpAny_updateSeq hS rfl ?_); have hS2 := Heap.get?_update_self (Obj.mapSeq (fun _ => (#[] : Array Value))) hS rfl
  have oth : ∀ b o, b ≠ s.heap.objs.size → s.heap.get? b = some o → ((s.heap.push { cls := .type "list", data := .seq #[] }).update s.heap.objs.size (Obj.mapSeq (fun _ => (#[] : Array Value)))).get? b = some o :=
    fun b o hb e => (Heap.get?_update_other _ _ (Ne.symm hb)).trans (Heap.get?_push_of_some _ e)
  refine wpAny_bind (wpAny_letGo ?_)
  refine ext_lrev (A := A.in1) (R := wants (fun r s2 => r = Value.none ∧ Q (.ref s.heap.objs.size) s2) E) (s := { s with heap := (s.heap.push { cls := .type "list", data := .seq #[] }).update s.heap.objs.size (Obj.mapSeq (fun _ => (#[] : Array Value))) }) hh (hit.at fun o e => oth it o (Ne.symm nSi) e) ?_ hne hn _ _ hS2 nSi nSl fun h' tk acc c' hk hS' ha => ?_
  · exact ⟨ol, oth l ol (Ne.symm nSl) hol, hol'⟩
  · exact ⟨rfl, hQ h' tk acc c' (fun b o n2 e => hk b o (Nat.ne_of_lt (Heap.lt_size e)) n2 (oth b o (Nat.ne_of_lt (Heap.lt_size e)) e)) hS' ha⟩
end
/-- list(reversed(xs)) -/
def kLstRev (K : PySem.W.Frag) (Q : VK) : VK := fun v H1 => ∃ (a : Addr) (xs : List V), v = .ref a ∧ SqL K H1 a xs ∧ ∀ q, H1 q = none → Q (.ref q) (upd H1 q (.lst xs.reverse))
def tLstRev (K : PySem.W.Frag) (te : TE) : TE := fun σ H Q => te σ H (kLstRev K Q)
theorem r_lrev {K : PySem.W.Frag} {te : TE} {σ : L2.St} {H : Hp} {Q : VK} (h : te σ H (kLstRev K Q)) : tLstRev K te σ H Q := h
theorem v_lrev {K : PySem.W.Frag} {H : Hp} {Q : VK} {a : Addr} {xs : List V} (h : SqL K H a xs) (k : ∀ q, H q = none → Q (.ref q) (upd H q (.lst xs.reverse))) : kLstRev K Q (.ref a) H := ⟨a, xs, rfl, h, k⟩
section
variable {X : Cx}
theorem pe_lstRev {e : Expr} {te : TE} {p p2 pos pos2 : Pos} (hg : Gl X "list") (hm : X.mg "list" = none) (hg2 : Gl X "reversed") (hm2 : X.mg "reversed" = none) (he : PE X e te) (hc : X.calm = true := by rfl)
    (hs : starEach [e] X.env = (false, eval e X.env) :: starEach [] X.env := by rfl)
    (hs2 : starEach [.Call (.Name "reversed" p2) [e] [] pos2] X.env = (false, eval (.Call (.Name "reversed" p2) [e] [] pos2) X.env) :: starEach [] X.env := by rfl) :
    PE X (.Call (.Name "list" p) [.Call (.Name "reversed" p2) [e] [] pos2] [] pos) (tLstRev X.K te) := by
  refine ⟨fun pins s σ H Q I h => ?_⟩
  refine Call_ (ld_blt I hg hm boot_list (PyProof.Rows.callWith_type1 (args_cons (Call_ (ld_blt I hg2 hm2 PyProof.Rows.boot_reversed (PyProof.Rows.callWith_type1 (args_cons (thn (he.run pins s σ H _ I h) fun u s1 ⟨v, H1, I1, r1, q1⟩ => args_nil ?_) hs) hs rfl))) hs2) hs2 rfl))
  obtain ⟨a, xs, ev, hq, q⟩ := q1; subst ev; obtain rfl : u = Value.ref a := r1; obtain ⟨its, rv, p', hz⟩ := I1.list hq
  refine call_reversed_list p'.isList (args_nil ?_)
  have I2 : Inv X pins σ H1 { s1 with heap := s1.heap.push (revObj a ((its.toArray.size : Int) - 1)) } := by exact I1.kept (t' := s1.toks) fun b o e => Heap.get?_push_of_some _ e
  obtain ⟨f0, f1, f2, f3, f4, f5⟩ := I1.fpOk (H' := H1) (b := s1.heap.objs.size) (Nat.le_refl _) (I1.hok.fresh (Nat.le_refl _)); have hl := p'.isList; obtain ⟨ol, hol, _⟩ := id hl
  have hne : a ≠ s1.heap.objs.size := by exact Nat.ne_of_lt (Heap.lt_size hol)
  have hn : its.toArray.size ≤ sizeLine := by rw [List.size_toArray, ← rv.length]; exact (by exact hz)
  refine call_list_rev (s := { s1 with heap := s1.heap.push (revObj a ((its.toArray.size : Int) - 1)) }) (I1.ok.hd hc) ⟨_, Heap.get?_push_size _ rfl, rfl, rfl⟩ (hl.push _) hne hn fun h' tk acc c' hk hS' hi => ?_
  have z : s1.heap.objs.size ≤ (s1.heap.push (revObj a ((its.toArray.size : Int) - 1))).objs.size := by simp [Heap.push]
  have k1 : ∀ b o, s1.heap.get? b = some o → h'.get? b = some o := fun b o e => hk b o (Nat.ne_of_lt (Heap.lt_size e)) (by exact Heap.get?_push_of_some _ e)
  refine ⟨.ref _, upd H1 (s1.heap.push (revObj a ((its.toArray.size : Int) - 1))).objs.size (.lst xs.reverse), I1.laid (t' := tk) k1 z (show ObjOk X.prog X.w _ _ _ (.lst xs.reverse) from ⟨by rw [List.length_reverse]; exact hz, acc.toList, c', RT.vals_rev rv hi, ?_⟩), rfl, q _ (I1.hok.fresh z)⟩
  rw [Array.toArray_toList]; exact (by exact hS')
end
theorem cutL_from_len {α : Type} (xs : List α) (i : Nat) (hi : Option Int) : (cutL xs (some (i : Int)) hi).length ≤ xs.length - i := by
  unfold cutL
  rw [HT.sIx_nat, List.length_take, List.length_drop]
  omega
theorem r_ckw2 {r : List V → List V → Hp → VK → Prop} {t tk : TA} {σ : L2.St} {H : Hp} {Q : VK} (h : t σ H fun vs H1 => tk σ H1 fun zs H2 => r vs zs H2 Q) : tCKw r t tk σ H Q := h
end SH

set_option Elab.async false
set_option linter.all false
set_option maxRecDepth 100000
set_option maxHeartbeats 4000000
/-! SHG: max(xs, default=d), ints -/
namespace SH
open PySem PySem.Spec PyProof.Rows L2
def rMaxDef (K : PySem.W.Frag) : List V → List V → Hp → VK → Prop := fun vs zs H Q => ∃ (a : Addr) (ns : List Int) (d : Int), vs = [V.ref a] ∧ zs = [V.int d] ∧ SqL K H a (ns.map V.int) ∧ (ns = [] → Q (.int d) H) ∧ ∀ m, m ∈ ns → (∀ y, y ∈ ns → y ≤ m) → Q (.int m) H
theorem foldl_max : ∀ (r : List Int) (n : Int), r.foldl max n ∈ n :: r ∧ ∀ y ∈ n :: r, y ≤ r.foldl max n
  | [], n => ⟨by simp, by simp⟩
  | k :: r, n => by
    obtain ⟨h1, h2⟩ := foldl_max r (max n k)
    rw [List.foldl_cons]
    constructor
    · rcases List.mem_cons.mp h1 with e | e
      · rw [e]
        by_cases z : n ≤ k
        · rw [Int.max_eq_right z]; simp
        · rw [Int.max_eq_left (by omega)]; simp
      · simp [e]
    · intro y hy
      have hm := h2 (max n k) (by simp)
      rcases List.mem_cons.mp hy with e | hy
      · omega
      · rcases List.mem_cons.mp hy with e | hy
        · omega
        · exact h2 y (by simp [hy])
theorem depth_ints : ∀ ns : List Int, PyData.depthAll (ns.map PyData.int) = 0
  | [] => by simp [PyData.depthAll]
  | n :: r => by simp [PyData.depthAll, PyData.depth, depth_ints r]
theorem dp_ints {K : PySem.W.Frag} {H : Hp} : ∀ ns : List Int, DpAll K H (ns.map V.int) (ns.map PyData.int)
  | [] => .nil
  | n :: r => .cons (.int n) (dp_ints r)
section
variable {X : Cx}
theorem cr_maxDef (hc : X.calm = true) (hu : X.A.units + 64 < cLine) : CallRK X (.builtin "max") [Str.ofString "default"] (rMaxDef X.K) := by
  intro pins s σ H vs zs us ws Q I r rz h
  obtain ⟨a, ns, d, rfl, rfl, hs, h0, h1⟩ := h
  obtain rfl := Vals.ref1 r
  obtain ⟨w1, rfl, e1⟩ := vals1 rz
  obtain ⟨t, rfl⟩ := e1
  obtain ⟨its, rv, hl, hz⟩ := I.list hs
  obtain ⟨as, hr⟩ := Dp.readsAll I (ns.map PyData.int) _ its (dp_ints ns) rv
  have al : PySem.W.AlikeAll (ns.map PyData.int) := ⟨fun x hx y hy => by
    obtain ⟨i, _, rfl⟩ := List.mem_map.mp hx
    obtain ⟨j, _, rfl⟩ := List.mem_map.mp hy
    rfl, fun x hx => by
    obtain ⟨i, _, rfl⟩ := List.mem_map.mp hx
    intro z; cases z⟩
  refine PySem.W.max_list_default (xs := ns.map PyData.int) (I.ok.hd hc) hl.isList (by simpa using hr) al (by rw [depth_ints]; omega) (fun e h' tk hk => ⟨.int d, H, I.kept hk, ⟨t, rfl⟩, h0 (by simpa using e)⟩) fun y ys i v h' tk bs e hv hR hk => ?_
  cases ns with
  | nil => cases e
  | cons n r =>
    rw [List.map_cons] at e
    cases e
    rw [PySem.W.maxD_ints] at hR
    obtain ⟨m1, m2⟩ := foldl_max r n
    generalize r.foldl max n = m at hR m1 m2
    cases hR
    exact ⟨.int m, H, I.kept hk, ⟨_, rfl⟩, h1 m m1 m2⟩
end
theorem r_ckw {r : List V → List V → Hp → VK → Prop} {t tk : TA} {σ : L2.St} {H : Hp} {Q : VK} (h : t σ H fun vs H1 => tk σ H1 fun zs H2 => r vs zs H2 Q) : tCKw r t tk σ H Q := h
end SH

set_option Elab.async false
set_option linter.all false
set_option maxRecDepth 100000
set_option maxHeartbeats 4000000
/-! SHI: xs[i] op= e, dicts with tuples as keys, int(truth) -/
namespace SH
open PySem PySem.Spec PyProof.Rows L2
section
variable {K : PySem.W.Frag} {σ : L2.St} {H : Hp} {Q : VK} {D : Ends} {to ti te td ty tv : TE} {tget : V → V → Hp → VK → Prop} {tip : TIp} {tset : TSet} {P : Hp → Prop} {d b : Addr} {kvs : List (List Key × V)} {ks : List Key} {v x y : V}
/-- a, b = x, y -/
def kPar2 (i j : Nat) (σ : L2.St) (P : L2.St → Hp → Prop) : List V → Hp → Prop := fun vs H1 => ∃ v w, vs = [v, w] ∧ P ((σ.set i (some v)).set j (some w)) H1
theorem r_par {i j : Nat} {ta : TA} (h : ta σ H (kPar2 i j σ D.nx)) : tPar i j ta D σ H := h
theorem v_par {i j : Nat} {w : V} {σ1 σ2 : L2.St} {R : L2.St → Hp → Prop} (e1 : σ.set i (some v) = σ1) (e2 : σ1.set j (some w) = σ2) (h : R σ2 H) : kPar2 i j σ R [v, w] H := ⟨v, w, rfl, by rw [e1, e2]; exact h⟩
def kPar3 (i j l : Nat) (σ : L2.St) (P : L2.St → Hp → Prop) : List V → Hp → Prop := fun vs H1 => ∃ u v w, vs = [u, v, w] ∧ P (((σ.set i (some u)).set j (some v)).set l (some w)) H1
theorem r_par3 {i j l : Nat} {ta : TA} (h : ta σ H (kPar3 i j l σ D.nx)) : tPar3 i j l ta D σ H := h
theorem v_par3 {i j l : Nat} {u w : V} {σ1 σ2 σ3 : L2.St} {R : L2.St → Hp → Prop} (e1 : σ.set i (some u) = σ1) (e2 : σ1.set j (some v) = σ2) (e3 : σ2.set l (some w) = σ3) (h : R σ3 H) : kPar3 i j l σ R [u, v, w] H := ⟨u, v, w, rfl, by rw [e1, e2, e3]; exact h⟩
theorem r_augS (h : to σ H fun o H1 => ti σ H1 fun i H2 => tget o i H2 fun x H3 => te σ H3 fun y H4 => tip x y H4 fun z H5 => tset o i z H5 fun H6 => D.nx σ H6) : tAugS to ti te tget tip tset D σ H := h
theorem r_dnewT (h : ∀ p, H p = none → Q (.ref p) (upd H p (.dT []))) : tDNewT σ H Q := h
theorem r_dnewK (h : ∀ p, H p = none → Q (.ref p) (upd H p (.dK []))) : tDNewK σ H Q := h
def kDPut (x y v : V) (H3 : Hp) (P : Hp → Prop) : Prop := ∃ a H4, x = .ref a ∧ DPut H3 a y v H4 ∧ P H4
theorem r_dput (h : tv σ H fun v H1 => td σ H1 fun x H2 => ty σ H2 fun y H3 => kDPut x y v H3 (D.nx σ)) : sDPut td ty tv D σ H := h
theorem v_dputT (hd : H d = some (.dT kvs)) (hk : H b = some (.tup (ks.map kV))) (hl : kvs.length < 1000000) (k : P (upd H d (.dT (putK kvs ks v)))) : kDPut (.ref d) (.ref b) v H P := ⟨d, _, rfl, DPut.t hd hk (Nat.lt_trans hl (by decide)), k⟩
def kDGet1 (ty : TE) (σ : L2.St) (Q : VK) : VK := fun x H1 => ∃ a, x = .ref a ∧ IsD H1 a ∧ ty σ H1 fun y H2 => ∃ o, DGet H2 a y o ∧ Q (o.getD .non) H2
theorem r_dget1 (h : td σ H (kDGet1 ty σ Q)) : tDGet1 td ty σ H Q := h
theorem v_dget1 (hd : H d = some (.dT kvs)) (h : ty σ H fun y H2 => ∃ o, DGet H2 d y o ∧ Q (o.getD .non) H2) : kDGet1 ty σ Q (.ref d) H := ⟨d, rfl, .inr ⟨kvs, .inl hd⟩, h⟩
theorem v_dgetT {R : Option V → Prop} (hd : H d = some (.dT kvs)) (hk : H b = some (.tup (ks.map kV))) (q : R (valV kvs ks)) : ∃ o, DGet H d (.ref b) o ∧ R o := ⟨_, DGet.t hd hk, q⟩
def kDGet (x y : V) (H2 : Hp) (Q : VK) : Prop := ∃ a v, x = .ref a ∧ DGet H2 a y (some v) ∧ Q v H2
theorem r_dgetI (h : td σ H fun x H1 => ty σ H1 fun y H2 => kDGet x y H2 Q) : tDGet td ty σ H Q := h
theorem v_dgetI (hd : H d = some (.dT kvs)) (hk : H b = some (.tup (ks.map kV))) (e : valV kvs ks = some v) (q : Q v H) : kDGet (.ref d) (.ref b) H Q := ⟨d, v, rfl, by rw [← e]; exact DGet.t hd hk, q⟩
def kDIn (y x : V) (H2 : Hp) (Q : VK) : Prop := ∃ a o, x = .ref a ∧ DGet H2 a y o ∧ Q (.bl o.isSome) H2
def kDNi (y x : V) (H2 : Hp) (Q : VK) : Prop := ∃ a o, x = .ref a ∧ DGet H2 a y o ∧ Q (.bl (!o.isSome)) H2
theorem r_din (h : ty σ H fun y H1 => td σ H1 fun x H2 => kDIn y x H2 Q) : tDIn ty td σ H Q := h
theorem r_dnotin (h : ty σ H fun y H1 => td σ H1 fun x H2 => kDNi y x H2 Q) : tDNotIn ty td σ H Q := h
theorem v_din (hd : H d = some (.dT kvs)) (hk : H b = some (.tup (ks.map kV))) (q : Q (.bl (valV kvs ks).isSome) H) : kDIn (.ref b) (.ref d) H Q := ⟨d, _, rfl, DGet.t hd hk, q⟩
theorem v_dnotin (hd : H d = some (.dT kvs)) (hk : H b = some (.tup (ks.map kV))) (q : Q (.bl (!(valV kvs ks).isSome)) H) : kDNi (.ref b) (.ref d) H Q := ⟨d, _, rfl, DGet.t hd hk, q⟩
end
/-- int(truth) or int(int) -/
def rInt1 : List V → Hp → VK → Prop := fun xs H Q => (∃ i, xs = [.int i] ∧ Q (.int i) H) ∨ ∃ k, xs = [.bl k] ∧ Q (.int (if k then 1 else 0)) H
section
variable {X : Cx} {H : Hp} {Q : VK} {i : Int} {b : Bool}
theorem cInt1 : CallR X (.type "int") rInt1 := call_int1
theorem w_intI (k : Q (.int i) H) : rInt1 [.int i] H Q := .inl ⟨i, rfl, k⟩
theorem w_intB (k : Q (.int (b.toNat : Nat)) H) : rInt1 [.bl b] H Q := .inr ⟨b, rfl, by cases b <;> exact k⟩
end
/-! a dict of answers -/
def pk (a b : Nat) : List Key := [.inl (a : Int), .inl (b : Int)]
theorem pk_map {a b : Nat} : (pk a b).map kV = [.int (a : Nat), .int (b : Nat)] := rfl
theorem pk_inj {a b c d : Nat} : pk a b = pk c d ↔ a = c ∧ b = d := by
  unfold pk
  constructor
  · intro h
    injection h with h1 h2
    injection h2 with h2 _
    injection h1 with h1
    injection h2 with h2
    exact ⟨by omega, by omega⟩
  · rintro ⟨rfl, rfl⟩; rfl
/-- what is known behind so many answers -/
def kn (es : List (T3 Nat Nat Bool)) : List (List Key × V) := es.foldl (fun acc e => putK acc (pk e.a e.b) (.bl e.c)) []
theorem kn_app {es : List (T3 Nat Nat Bool)} {e : T3 Nat Nat Bool} : kn (es ++ [e]) = putK (kn es) (pk e.a e.b) (.bl e.c) := by simp [kn]
theorem kn_len (es : List (T3 Nat Nat Bool)) : (kn es).length ≤ es.length := by
  have : ∀ (es : List (T3 Nat Nat Bool)) (acc : List (List Key × V)), (es.foldl (fun acc e => putK acc (pk e.a e.b) (.bl e.c)) acc).length ≤ acc.length + es.length := by
    intro es
    induction es with
    | nil => intro acc; simp
    | cons e es ih => intro acc; have := ih (putK acc (pk e.a e.b) (.bl e.c)); have := length_putK acc (pk e.a e.b) (.bl e.c); simp only [List.foldl_cons, List.length_cons]; omega
  simpa [kn] using this es []
theorem kn_val {es : List (T3 Nat Nat Bool)} {f : Nat → Nat → Bool} (h : ∀ e ∈ es, e.c = f e.a e.b) (a b : Nat) [Decidable (∃ e ∈ es, e.a = a ∧ e.b = b)] : valV (kn es) (pk a b) = if (∃ e ∈ es, e.a = a ∧ e.b = b) then some (.bl (f a b)) else none := by
  have key : ∀ (es : List (T3 Nat Nat Bool)), (∀ e ∈ es, e.c = f e.a e.b) → ((∃ e ∈ es, e.a = a ∧ e.b = b) → valV (kn es) (pk a b) = some (.bl (f a b))) ∧ ((¬ ∃ e ∈ es, e.a = a ∧ e.b = b) → valV (kn es) (pk a b) = none) := by
    intro es h
    obtain ⟨n, hn⟩ : ∃ n, n = es.length := ⟨_, rfl⟩
    induction n generalizing es with
    | zero =>
      have : es = [] := List.length_eq_zero_iff.mp hn.symm
      subst this
      exact ⟨fun ⟨e, he, _⟩ => by simp at he, fun _ => rfl⟩
    | succ n ih =>
      obtain ⟨fs, e, rfl⟩ : ∃ fs e, es = fs ++ [e] := ⟨es.dropLast, es.getLast (by intro z; subst z; simp at hn), (List.dropLast_concat_getLast _).symm⟩
      obtain ⟨i1, i2⟩ := ih fs (fun x hx => h x (by simp [hx])) (by simp at hn; omega)
      rw [kn_app, valV_put]
      have he := h e (by simp)
      by_cases z : pk a b = pk e.a e.b
      · obtain ⟨z1, z2⟩ := pk_inj.mp z
        subst z1; subst z2
        simp only [if_true]
        exact ⟨fun _ => by rw [he], fun n => (n ⟨e, by simp, rfl, rfl⟩).elim⟩
      · rw [if_neg z]
        have z' : ¬ (e.a = a ∧ e.b = b) := fun ⟨p, q⟩ => z (pk_inj.mpr ⟨p.symm, q.symm⟩)
        refine ⟨fun ⟨x, hx, q⟩ => i1 ?_, fun n => i2 fun ⟨x, hx, q⟩ => n ⟨x, by simp [hx], q⟩⟩
        rcases List.mem_append.mp hx with hx | hx
        · exact ⟨x, hx, q⟩
        · rw [List.mem_singleton] at hx; subst hx; exact (z' q).elim
  by_cases c : ∃ e ∈ es, e.a = a ∧ e.b = b
  · rw [if_pos c]; exact (key es h).1 c
  · rw [if_neg c]; exact (key es h).2 c
theorem kn_get {es : List (T3 Nat Nat Bool)} {f : Nat → Nat → Bool} (h : ∀ e ∈ es, e.c = f e.a e.b) {a b : Nat} (hm : ∃ e ∈ es, e.a = a ∧ e.b = b) : valV (kn es) (pk a b) = some (.bl (f a b)) := by
  classical
  rw [kn_val h, if_pos hm]
theorem kn_none {es : List (T3 Nat Nat Bool)} {f : Nat → Nat → Bool} (h : ∀ e ∈ es, e.c = f e.a e.b) {a b : Nat} (hm : ¬ ∃ e ∈ es, e.a = a ∧ e.b = b) : valV (kn es) (pk a b) = none := by
  classical
  rw [kn_val h, if_neg hm]
end SH

set_option Elab.async false
set_option linter.all false
set_option maxRecDepth 100000
set_option maxHeartbeats 4000000
/-! SHJ: (k, p) >= (k', q); t[:2] -/
namespace SH
open PySem PySem.Spec PySem.W PyProof.Rows L2
theorem dataLt_pair {k p k' p' : Int} : dataLt (.tuple [.int k, .int p]) (.tuple [.int k', .int p']) = decide (k < k' ∨ (k = k' ∧ p < p')) := by
  unfold dataLt
  simp only [keyToks, keyToksAll, List.cons_append, List.nil_append]
  rw [lex_self (O := itemOrd)]
  by_cases e : k = k'
  · subst e
    rw [lex_self (O := itemOrd), lex_self (O := itemOrd)]
    by_cases e2 : p = p'
    · subst e2
      rw [lex_self (O := itemOrd), lex_self (O := itemOrd)]
      simp [PyProof.Rows.lexLt]
    · rw [lex_diff (O := itemOrd) (by simpa using e2)]
      show decide (p < p') = _
      exact decide_eq_decide.mpr (by omega)
  · rw [lex_diff (O := itemOrd) (by simpa using e)]
    show decide (k < k') = _
    exact decide_eq_decide.mpr (by omega)
def aGeT (K : PySem.W.Frag) : R2 := fun x y H Q => ∃ a b k p k' p', x = .ref a ∧ y = .ref b ∧ SqT K H a [.int k, .int p] ∧ SqT K H b [.int k', .int p'] ∧ Q (.bl (decide (¬ (k < k' ∨ (k = k' ∧ p < p'))))) H
theorem oGeT {X : Cx} (hu : X.A.units + 64 < cLine) : OpR X (compareOp .GtE) (aGeT X.K) := by
  intro pins s σ H x y v u Q I rx ry h
  obtain ⟨a, b, k, p, k', p', rfl, rfl, h1, h2, q⟩ := h
  obtain ⟨as, r1⟩ := Dp.reads I (.tuple [.int k, .int p]) _ v (.tup h1 (.cons (.int k) (.cons (.int p) .nil))) rx
  obtain ⟨bs, r2⟩ := Dp.reads I (.tuple [.int k', .int p']) _ u (.tup h2 (.cons (.int k') (.cons (.int p') .nil))) ry
  refine ge_data r1 r2 rfl (fun z => by cases z) ?_ ⟨.bl _, H, I, rfl, ?_⟩
  · have : (PyData.tuple [.int k, .int p]).depth ≤ 64 := by show 1 ≤ 64; decide
    omega
  · rw [dataLt_pair]
    have e : (!decide (k < k' ∨ (k = k' ∧ p < p'))) = decide (¬ (k < k' ∨ (k = k' ∧ p < p'))) := decide_not.symm
    rw [e]
    exact q
theorem v_geT {K : PySem.W.Frag} {H : Hp} {Q : VK} {a b : Addr} {k p k' p' : Int} (h1 : SqT K H a [.int k, .int p]) (h2 : SqT K H b [.int k', .int p']) (q : Q (.bl (decide (¬ (k < k' ∨ (k = k' ∧ p < p'))))) H) : aGeT K (.ref a) (.ref b) H Q := ⟨a, b, k, p, k', p', rfl, rfl, h1, h2, q⟩
def aGtT (K : PySem.W.Frag) : R2 := fun x y H Q => ∃ a b k p k' p', x = .ref a ∧ y = .ref b ∧ SqT K H a [.int k, .int p] ∧ SqT K H b [.int k', .int p'] ∧ Q (.bl (decide (k' < k ∨ (k' = k ∧ p' < p)))) H
theorem oGtT {X : Cx} (hu : X.A.units + 64 < cLine) : OpR X (compareOp .Gt) (aGtT X.K) := by
  intro pins s σ H x y v u Q I rx ry h
  obtain ⟨a, b, k, p, k', p', rfl, rfl, h1, h2, q⟩ := h
  obtain ⟨as, r1⟩ := Dp.reads I (.tuple [.int k, .int p]) _ v (.tup h1 (.cons (.int k) (.cons (.int p) .nil))) rx
  obtain ⟨bs, r2⟩ := Dp.reads I (.tuple [.int k', .int p']) _ u (.tup h2 (.cons (.int k') (.cons (.int p') .nil))) ry
  refine gt_data r1 r2 rfl (fun z => by cases z) ?_ ⟨.bl _, H, I, rfl, ?_⟩
  · have : (PyData.tuple [.int k, .int p]).depth ≤ 64 := by show 1 ≤ 64; decide
    omega
  · rw [dataLt_pair]
    exact q
theorem v_gtT {K : PySem.W.Frag} {H : Hp} {Q : VK} {a b : Addr} {k p k' p' : Int} (h1 : SqT K H a [.int k, .int p]) (h2 : SqT K H b [.int k', .int p']) (q : Q (.bl (decide (k' < k ∨ (k' = k ∧ p' < p)))) H) : aGtT K (.ref a) (.ref b) H Q := ⟨a, b, k, p, k', p', rfl, rfl, h1, h2, q⟩
/-- t[:2] of three -/
theorem v_slT2 {K : PySem.W.Frag} {H : Hp} {Q : VK} {a : Addr} {x y z : V} (h : SqT K H a [x, y, z]) (q : ∀ p, H p = none → Q (.ref p) (upd H p (.tup [x, y]))) : rSlT K (.ref a) none (some 2) H Q :=
  ⟨a, _, rfl, h, by rintro ⟨_, h⟩; exact absurd (show (2 : Nat) = 3 from h) (by decide), q⟩
end SH

set_option Elab.async false
set_option linter.all false
set_option maxRecDepth 100000
set_option maxHeartbeats 4000000
/-! SHK: d.update(d2), keys that are tuples; a method whose class is known at the run alone -/
namespace SH
open PySem PySem.Spec PyProof.Rows L2
/-- d.update(d2) -/
def mergK (kvs more : List (List Key × V)) : List (List Key × V) := more.foldl (fun acc p => putK acc p.1 p.2) kvs
theorem mergK_len : ∀ (more kvs : List (List Key × V)), (mergK kvs more).length ≤ kvs.length + more.length
  | [], kvs => by simp [mergK]
  | p :: ps, kvs => by
    have h1 := mergK_len ps (putK kvs p.1 p.2)
    have h2 := length_putK kvs p.1 p.2
    show (mergK (putK kvs p.1 p.2) ps).length ≤ _
    rw [List.length_cons]; omega
theorem mergK_val : ∀ (more kvs : List (List Key × V)) (k : List Key), (∃ p ∈ more, p.1 = k ∧ valV (mergK kvs more) k = some p.2) ∨ ((∀ p ∈ more, p.1 ≠ k) ∧ valV (mergK kvs more) k = valV kvs k)
  | [], kvs, k => .inr ⟨by simp, rfl⟩
  | p :: ps, kvs, k => by
    show (∃ q ∈ p :: ps, q.1 = k ∧ valV (mergK (putK kvs p.1 p.2) ps) k = some q.2) ∨ ((∀ q ∈ p :: ps, q.1 ≠ k) ∧ valV (mergK (putK kvs p.1 p.2) ps) k = valV kvs k)
    rcases mergK_val ps (putK kvs p.1 p.2) k with ⟨q, hq, e1, e2⟩ | ⟨h1, h2⟩
    · exact .inl ⟨q, List.mem_cons_of_mem _ hq, e1, e2⟩
    · rw [valV_put] at h2
      by_cases e : k = p.1
      · rw [if_pos e] at h2
        exact .inl ⟨p, List.mem_cons_self .., e.symm, h2⟩
      · rw [if_neg e] at h2
        refine .inr ⟨fun q hq => ?_, h2⟩
        rcases List.mem_cons.mp hq with rfl | hq
        · exact fun z => e z.symm
        · exact h1 q hq
theorem mem_putK {kvs : List (List Key × V)} {k : List Key} {v : V} {p : List Key × V} (h : p ∈ putK kvs k v) : p = (k, v) ∨ p ∈ kvs := by
  unfold putK at h
  split at h
  · obtain ⟨q, hq, e⟩ := List.mem_map.mp h
    by_cases z : q.1 = k
    · rw [if_pos z] at e
      exact .inl (by rw [← e, z])
    · rw [if_neg z] at e
      exact .inr (by rw [← e]; exact hq)
  · rcases List.mem_append.mp h with h | h
    · exact .inr h
    · exact .inl (List.mem_singleton.mp h)
theorem putK_same {kvs : List (List Key × V)} {k : List Key} {v : V} : (k, v) ∈ putK kvs k v := by
  unfold putK
  split
  · rename_i h
    obtain ⟨q, hq, e⟩ := List.any_eq_true.mp h
    exact List.mem_map.mpr ⟨q, hq, by rw [if_pos (of_decide_eq_true e), of_decide_eq_true e]⟩
  · exact List.mem_append_right _ (List.mem_singleton.mpr rfl)
theorem putK_other {kvs : List (List Key × V)} {k : List Key} {v : V} {p : List Key × V} (h : p ∈ kvs) (n : p.1 ≠ k) : p ∈ putK kvs k v := by
  unfold putK
  split
  · exact List.mem_map.mpr ⟨p, h, by rw [if_neg n]⟩
  · exact List.mem_append_left _ h
theorem KT_all {H : Hp} : ∀ {more : List (List Key × V)} {ps : List (List Key × Addr × Value)} {kvs : List (List Key × V)} {xs : List (List Key × Addr × Value)}, KT H kvs xs → KT H more ps → KT H (mergK kvs more) (storedAllH xs ps)
  | _, _, kvs, xs, h, .nil => h
  | _, _, kvs, xs, h, .cons (a := p) (b := q) (l₁ := more) (l₂ := ps) hq t => by
    obtain ⟨e1, e2, e3⟩ := hq
    show KT H (mergK (putK kvs p.1 p.2) more) (storedAllH (storedH xs q.1 q.2.1 q.2.2) ps)
    exact KT_all (by rw [← e1]; exact h.put p.1 e2 e3) t
def rUpdT : V → List V → Hp → VK → Prop := fun x xs H Q => ∃ (a b : Addr) (kvs more : List (List Key × V)), x = .ref a ∧ xs = [.ref b] ∧ H a = some (.dT kvs) ∧ H b = some (.dT more) ∧ a ≠ b ∧ kvs ≠ [] ∧ kvs.length + more.length ≤ 1000000 ∧ Q .non (upd H a (.dT (mergK kvs more)))
theorem mt_updT {X : Cx} (hu : X.A.units + 1 < cLine) : MtR X "dict.update" rUpdT := by
  intro pins s σ H x xs v us Q I rx rxs h
  obtain ⟨a, b, kvs, more, rfl, rfl, ha, hb, hab, hne, hl, q⟩ := h
  cases rx
  obtain rfl := Vals.ref1 rxs
  obtain ⟨z, hd, xs', rel, dd⟩ := dt_of I.hok ha
  obtain ⟨z2, hd2, ps, rel2, dd2⟩ := dt_of I.hok hb
  have e1 := Paired.length rel
  have e2 := Paired.length rel2
  have hz : xs'.length + ps.length ≤ sizeLine := by rw [← e1, ← e2]; exact Nat.le_trans hl (by decide)
  refine call_update_dictH (knd := tupleKind (mixKind X.prog X.w)) (tupleKind_room_in1 hu) hab hd2 dd dd2 (.inl fun e => hne ?_) hz fun h' dd' _ hs => ?_
  · rw [e] at e1
    exact List.length_eq_zero_iff.mp e1
  · obtain ⟨o, es, ep, hq, h2, h3, h4, _, h5⟩ := dd'
    have hml : (mergK kvs more).length ≤ sizeLine := Nat.le_trans (mergK_len more kvs) (Nat.le_trans hl (by decide))
    have I2 : Inv X pins σ (upd H a (.dT (mergK kvs more))) { s with heap := h' } :=
      d_write (t' := s.toks) I (by rw [ha]; exact True.intro) hs ⟨o, hq⟩ ⟨hml, hd, _, (KT_all rel rel2).keeps (fun c ys ec => (by rw [upd_ne (ne_of ec ha (fun z => nomatch z))]; exact ec)), o, es, ep, hq, h2, h3, h4, h5⟩
    exact ⟨.non, _, I2, rfl, q⟩
theorem w_upd {H : Hp} {Q : VK} {a b : Addr} {kvs more : List (List Key × V)} (ha : H a = some (.dT kvs)) (hb : H b = some (.dT more)) (hab : a ≠ b) (hne : kvs ≠ []) (hl : kvs.length + more.length ≤ 1000000) (q : Q .non (upd H a (.dT (mergK kvs more)))) : rUpdT (.ref a) [.ref b] H Q :=
  ⟨a, b, kvs, more, rfl, rfl, ha, hb, hab, hne, hl, q⟩
theorem ty_dT {K : PySem.W.Frag} {H : Hp} {a : Addr} {kvs : List (List Key × V)} (ha : H a = some (.dT kvs)) : tyV K "dict" (.ref a) H := .inr (.inr (.inl ⟨rfl, .inr ⟨kvs, ha⟩⟩))
/-- either rule will do -/
theorem peOr {X : Cx} {e : Expr} {t u : TE} (h : PE X e t) (k : PE X e u) : PE X e (fun σ H Q => t σ H Q ∨ u σ H Q) := ⟨fun pins s σ H Q I q => q.elim (h.run pins s σ H Q I) (k.run pins s σ H Q I)⟩
/-- either rule will do, by name -/
def tOrE (t u : TE) : TE := fun σ H Q => t σ H Q ∨ u σ H Q
theorem peOrE {X : Cx} {e : Expr} {t u : TE} (h : PE X e t) (k : PE X e u) : PE X e (tOrE t u) := peOr h k
theorem r_orL {t u : TE} {σ : L2.St} {H : Hp} {Q : VK} (h : t σ H Q) : tOrE t u σ H Q := .inl h
theorem r_orR {t u : TE} {σ : L2.St} {H : Hp} {Q : VK} (h : u σ H Q) : tOrE t u σ H Q := .inr h
/-- an if by two tests, whose ways meet again -/
theorem r_waJ {c : Prop} [Decidable c] {te : TT} {t1 t2 : TS} {D : Ends} {σ : L2.St} {H : Hp} (W : L2.St → Hp → Prop) (hk : ∀ σ' H', W σ' H' → D.nx σ' H')
    (h1 : c → ∀ N : L2.St → Hp → Prop, (∀ σ' H', W σ' H' → N σ' H') → te σ H fun b H1 => if b = true then t1 { D with nx := N } σ H1 else t2 { D with nx := N } σ H1) (h2 : ¬ c → ∀ N : L2.St → Hp → Prop, (∀ σ' H', W σ' H' → N σ' H') → t2 { D with nx := N } σ H) :
    if decide c = true then te σ H (fun b H1 => if b = true then t1 D σ H1 else t2 D σ H1) else if false = true then t1 D σ H else t2 D σ H := r_w (fun h => h1 h D.nx hk) fun h => r_F (h2 h D.nx hk)
theorem r_naJ {c : Prop} [Decidable c] {te : TT} {t1 t2 : TS} {D : Ends} {σ : L2.St} {H : Hp} (W : L2.St → Hp → Prop) (hk : ∀ σ' H', W σ' H' → D.nx σ' H')
    (h1 : ¬ c → ∀ N : L2.St → Hp → Prop, (∀ σ' H', W σ' H' → N σ' H') → te σ H fun b H1 => if b = true then t1 { D with nx := N } σ H1 else t2 { D with nx := N } σ H1) (h2 : c → ∀ N : L2.St → Hp → Prop, (∀ σ' H', W σ' H' → N σ' H') → t2 { D with nx := N } σ H) :
    if (!decide c) = true then te σ H (fun b H1 => if b = true then t1 D σ H1 else t2 D σ H1) else if false = true then t1 D σ H else t2 D σ H := r_nw (fun h => h1 h D.nx hk) fun h => r_F (h2 h D.nx hk)
theorem inV_nats {p : Nat} {xs : List Nat} : inV (.int (p : Nat)) (xs.map fun n : Nat => V.int n) = decide (p ∈ xs) := by
  unfold inV
  rw [List.any_map]
  induction xs with
  | nil => simp
  | cons x xs ih =>
    rw [List.any_cons, ih]
    by_cases e : p = x
    · subst e; simp [eqV]
    · have e2 : ¬ ((x : Int) = (p : Int)) := by omega
      simp [eqV, e, e2]
theorem flat_nats {xs : List Nat} : (xs.map fun n : Nat => V.int n).all flatV = true := by
  rw [List.all_map]
  exact List.all_eq_true.mpr fun _ _ => rfl
section
variable {K : PySem.W.Frag} {H : Hp} {Q : VK} {a : Addr} {xs : List Nat} {p : Nat}
theorem v_inN (h : SqL K H a (xs.map fun n : Nat => V.int n)) (k : Q (.bl (decide (p ∈ xs))) H) : rIn K false (.int (p : Nat)) (.ref a) H Q := ⟨a, _, rfl, .inl h, rfl, flat_nats, by rw [inV_nats]; exact k⟩
theorem v_niN (h : SqL K H a (xs.map fun n : Nat => V.int n)) (k : Q (.bl (!decide (p ∈ xs))) H) : rIn K true (.int (p : Nat)) (.ref a) H Q := ⟨a, _, rfl, .inl h, rfl, flat_nats, by rw [inV_nats]; exact k⟩
end
/-! dicts of numbers -/
theorem v_dputK {H : Hp} {P : Hp → Prop} {d : Addr} {kvs : List (Key × V)} {i : Int} {v : V} (hd : H d = some (.dK kvs)) (hl : kvs.length < 1000000) (k : P (upd H d (.dK (putK kvs (.inl i) v)))) : kDPut (.ref d) (.int i) v H P := ⟨d, _, rfl, DPut.k (k := .inl i) hd (Nat.lt_trans hl (by decide)), k⟩
theorem v_dgetK {H : Hp} {Q : VK} {d : Addr} {kvs : List (Key × V)} {i : Int} {v : V} (hd : H d = some (.dK kvs)) (e : valV kvs (.inl i) = some v) (q : Q v H) : kDGet (.ref d) (.int i) H Q := ⟨d, v, rfl, by rw [← e]; exact DGet.k (k := .inl i) hd, q⟩
/-! isinstance of an own class -/
structure IsiC (K : PySem.W.Frag) (C : Addr) : Prop where
  ca : PySem.W.findIn K (.ref C) "__class__" = some (some (.builtin "object.__class__"))
  cn : PySem.W.specialIn K (.builtin "object.__class__") "__get__" = some (some (.builtin "getset_descriptor.__get__"))
  ct : PySem.W.takesIn K (.builtin "object.__class__") = some true
  cm : PySem.W.mroIn K C (.type "object") = some true
theorem isi_ins {K : PySem.W.Frag} {H : Hp} {Q : VK} {a C D dx : Addr} {fs : List (Str × V)} {b : Bool} (ho : H a = some (.ins C dx fs)) (cl : Cls K C) (i : IsiC K C) (kt : PySem.W.kitOne K (.ref C) (.ref D) = some b) (k : Q (.bl b) H) : rIsi K [.ref a, .ref D] H Q :=
  v_isi (.own D) (.base (.ins ho cl i.ca i.cn i.ct i.cm)) kt k
end SH

set_option Elab.async false
set_option linter.all false
set_option maxRecDepth 100000
set_option maxHeartbeats 4000000
/-! SHN: C(e, .., k = v): an instance made with keywords -/
namespace SH
open PySem PySem.Spec PyProof.Rows L2
structure CalCK (P : Program) (w : World) (K : PySem.W.Frag) (mg : Str → Option Value) (base : Heap) (CX : CXT) (k : Nat) (x : Str) (C : Addr) (n : Nat) (ks : List Str) (gV : List V → List V → List V) (sp : Sp) : Prop where
  ex : ∃ (f : Addr) (fd : FuncData) (ps : List Str) (g : List Value → List Value → List Value), mg x = some (.ref C) ∧ L2.Mk K C f ∧ KBn K fd ps (n + 1) ks g gV ∧ FnOk P w K mg base CX k f fd ps sp
section
variable {X : Cx} {CX : CXT} {k j n : Nat} {C : Addr} {sp : Sp} {gV : List V → List V → List V} {ks : List Str} {E : XK} {x : Str} {p pos : Pos} {e : Expr} {es : List Expr} {kws : List Keyword} {t tk : TA}
theorem pe_makeKF (c : CalCK X.prog X.w X.K X.mg X.base CX j x C n ks gV sp) (hr : Room k X.A) (hg : Gl X x) (hx : Passes CX X E) (ha : PA X (e :: es) t) (hkw : PK X kws tk) (hk : j + 1 ≤ k := by decide)
    (hall : (backToKw pos (keywordEach kws X.env)).all (·.1.isSome) = true := by rfl) (hks : (backToKw pos (keywordEach kws X.env)).filterMap (·.1) = ks := by rfl)
    (hdb : (x == ("__debug__" : Str)) = false := by decide) (he : starEach (e :: es) X.env = (false, eval e X.env) :: starEach es X.env := by rfl)
    (hpl : ((backTo pos (starEach (e :: es) X.env)).any (·.1) || (backToKw pos (keywordEach kws X.env)).any (·.1.isNone)) = false := by rfl) :
    PE X (.Call (.Name x p) (e :: es) kws pos) (tMakeN C n ks.length sp gV E t tk) := by
  obtain ⟨f, fd, ps, g, h1, h2, h3, h5⟩ := c.ex
  exact pe_makeN h2 h5 (hr.mono hk) hg h1 h3 hx ha hkw hall hks hdb he hpl
def kMakeN (C : Addr) (n m : Nat) (sp : Sp) (gV : List V → List V → List V) (E : XK) (Q : VK) (vs zs : List V) (H2 : Hp) : Prop := vs.length = n ∧ zs.length = m ∧
  ∀ x dx, H2 x = none → H2 dx = none → dx ≠ x → sp (gV (.ref x :: vs) zs) (upd (upd H2 dx (.own x)) x (.ins C dx [])) (fun v H3 => v = .non ∧ Q (.ref x) H3) E
theorem r_makeN {C : Addr} {n m : Nat} {σ : L2.St} {H : Hp} {Q : VK} (h : t σ H fun vs H1 => tk σ H1 fun zs H2 => kMakeN C n m sp gV E Q vs zs H2) : tMakeN C n m sp gV E t tk σ H Q := h
end
/-! a name of one's own that holds a def of the module -/
section
variable {X : Cx} {k j i : Nat} {f : Addr} {sp : Sp} {x : Str} {p pos : Pos} {e : Expr} {es : List Expr} {t : TA}
theorem pe_callLF (c : Held X.prog X.w X.K X.mg X.base j f sp) (hr : Room k X.A) (hN : X.N[i]? = some x) (hv : Vis X.env.scope x) (ha : PA X (e :: es) t) (hk : j ≤ k := by decide)
    (hdb : (x == ("__debug__" : Str)) = false := by decide) (hcd : (x == ("__classdict__" : Str)) = false := by decide)
    (he : starEach (e :: es) X.env = (false, eval e X.env) :: starEach es X.env := by rfl) (hpl : (backTo pos (starEach es X.env)).any (·.1) = false := by rfl) : PE X (.Call (.Name x p) (e :: es) [] pos) (tCallL i f sp [] (fun _ _ _ => False) t) := by
  obtain ⟨fd, ps, F, h1, h2⟩ := c.ex
  exact pe_callL F (hr.mono hk) hN hv h1 h2 .nil (fun _ _ _ _ _ _ _ z => z.elim) ha hdb hcd he hpl
theorem r_callL {σ : L2.St} {H : Hp} {Q : VK} {E : XK} (hs : σ[i]? = some (some (.ref f))) (k : t σ H fun vs H1 => sp (vs ++ []) H1 Q E) : tCallL i f sp [] E t σ H Q := ⟨hs, k⟩
end
end SH

set_option Elab.async false
set_option linter.all false
set_option maxRecDepth 100000
set_option maxHeartbeats 4000000
/-! SHR: C() where C has no __init__ but object's -/
namespace SH
open PySem PySem.Spec PyProof.Rows L2
structure MkP (K : PySem.W.Frag) (C : Addr) : Prop where
  makes : PySem.W.makesIn K C = true
  init : PySem.W.findIn K (.ref C) "__init__" = some (some (.builtin "object.__init__"))
  kp : PySem.W.keepIn K (.ref C) = true
def tMakeP (C : Addr) : TE := fun σ H Q => ∀ x dx, H x = none → H dx = none → dx ≠ x → Q (.ref x) (upd (upd H dx (.own x)) x (.ins C dx []))
theorem pe_makeP {X : Cx} {C : Addr} {x : Str} {p pos : Pos} (M : MkP X.K C) (hg : Gl X x) (hm : X.mg x = some (.ref C)) (hdb : (x == ("__debug__" : Str)) = false := by decide) : PE X (.Call (.Name x p) [] [] pos) (tMakeP C) := by
  refine ⟨fun pins s σ H Q I h => ?_⟩
  refine wpAny_Call_Name_kw (ld_glob I hg hm ?_ hdb)
  refine PySem.W.callWith_K0 I.kIn M.kp ?_
  have hq := h (s.heap.objs.size + 1) s.heap.objs.size (I.hok.fresh (Nat.le_succ _)) (I.hok.fresh (Nat.le_refl _)) (Nat.ne_of_lt (Nat.lt_succ_self _))
  have I2 := Inv.made (C := C) I
  refine wpAny_call (make_map0 I.kIn M.makes M.init (fun self => PySem.W.Looks.of_pure (PySem.W.oi_bind self)) ?_)
  have hx : ((s.heap.push PySem.W.emptyDict).push (PySem.W.instObj C s.heap.objs.size)).get? (s.heap.objs.size + 1) = some (PySem.W.instObj C s.heap.objs.size) := by heap_get
  refine codeAny_call_builtin PySem.W.oi_plain PySem.W.entry_oi (PySem.W.check_slot PySem.W.oi_kind PySem.W.oi_split ?_ (PySem.W.oi_args _) ?_)
  · have LT : PySem.W.Looks (model X.prog X.w) ((s.heap.push PySem.W.emptyDict).push (PySem.W.instObj C s.heap.objs.size)) (typeOf (.ref (s.heap.objs.size + 1))) (.ref C) := fun A Q E s k q => wpAny_typeOf_ref (k _ _ hx) q
    exact LT.andThen (PySem.W.looks_mroIn I2.kIn (mro_obj M.makes))
  · rw [PySem.W.oi_run]
    exact wpAny_pure ⟨rfl, ⟨V.ref (s.heap.objs.size + 1), _, I2, rfl, hq⟩⟩
/-! membership of data in a list of data -/
def rInD (K : PySem.W.Frag) (neg : Bool) : R2 := fun x y H Q => ∃ d ds, Dp K H x d ∧ Dp K H y (.list ds) ∧ d.canLay0 = true ∧ PyData.canLayAll0 ds = true ∧ d.depth ≤ 8 ∧ Q (.bl (if neg then !(ds.any fun e => PyData.eqv e d) else ds.any fun e => PyData.eqv e d)) H
theorem op_inD {X : Cx} (hu : X.A.units + 64 < cLine) : OpR X (compareOp .In) (rInD X.K false) := by
  intro pins s σ H x y v u Q I rx ry h
  obtain ⟨d, ds, hd, he, sd, se, hdp, q⟩ := h
  obtain ⟨as, r1⟩ := Dp.reads I d x v hd rx
  obtain ⟨bs, r2⟩ := Dp.reads I _ y u he ry
  refine SeqAt.in_list_reads r2 r1 se sd ?_ ⟨.bl _, H, I, rfl, q⟩
  have := Nat.min_le_right (PyData.depthAll ds) d.depth
  omega
theorem op_notInD {X : Cx} (hu : X.A.units + 64 < cLine) : OpR X (compareOp .NotIn) (rInD X.K true) := by
  intro pins s σ H x y v u Q I rx ry h
  obtain ⟨d, ds, hd, he, sd, se, hdp, q⟩ := h
  obtain ⟨as, r1⟩ := Dp.reads I d x v hd rx
  obtain ⟨bs, r2⟩ := Dp.reads I _ y u he ry
  refine SeqAt.notIn_list_reads r2 r1 se sd ?_ ⟨.bl _, H, I, rfl, q⟩
  have := Nat.min_le_right (PyData.depthAll ds) d.depth
  omega
section
variable {K : PySem.W.Frag} {H : Hp} {α : Type} [Enc α] {p : Addr} {vs : List V} {xs : List α} {v : V} {x : α} {Q : VK}
theorem v_notInE (h1 : Is K H v x) (h2 : SqL K H p vs) (h3 : IsL K H vs xs) (k : ∀ b : Bool, (b = true ↔ x ∈ xs) → Q (.bl (!b)) H) (hn : Enc.n α ≤ 8 := by decide) : rInD K true v (.ref p) H Q := by
  refine ⟨Enc.d x, xs.map Enc.d, h1, .lst h2 h3, Enc.lay x, Enc.layAll xs, Nat.le_trans (Enc.deep x) hn, ?_⟩
  rw [if_pos rfl]
  refine k _ ?_
  rw [List.any_map, List.any_eq_true]
  constructor
  · rintro ⟨y, hy, e⟩
    have e' : PyData.eqv (Enc.d y) (Enc.d x) = true := e
    rw [Enc.eqv] at e'
    obtain rfl := @of_decide_eq_true _ (Enc.dec y x) e'
    exact hy
  · intro h
    refine ⟨x, h, ?_⟩
    show PyData.eqv (Enc.d x) (Enc.d x) = true
    rw [Enc.eqv]
    exact @decide_eq_true _ (Enc.dec x x) rfl
end
end SH

set_option Elab.async false
set_option linter.all false
set_option maxRecDepth 100000
set_option maxHeartbeats 4000000
/-! SHT: set(xs), xs a list of ints -/
namespace SH
open PySem PySem.Spec PyProof.Rows L2
section
variable {P : Program} {w : World} {A : Around} {E : Value → Shared → Prop} {s : Shared}
abbrev set0O (w : World) : Obj := { cls := .type "set", dict := none, data := .set #[] 0 (.fresh 0 0 (!w.params.followText "set-order")) }
set_option maxHeartbeats 8000000 in
theorem call_set_lst {l : Addr} {items : Array Value} (ns : List Int) {Q : Value → Shared → Prop} (hh : A.handled = none) (hl : s.heap.IsList l items) (hit : IntsAre items.toList ns) (hb : ns.length + 1 < scanBound)
    (k : ∀ (h' : Heap) (tk c : Nat), SetR w h' s.heap.objs.size (fun j => decide (j ∈ ns)) c → c ≤ ns.length → (∀ b o, s.heap.get? b = some o → h'.get? b = some o) → Q (.ref s.heap.objs.size) { s with heap := h', toks := tk }) :
    wpAny (model P w) A (call (.type "set") [.ref l]) Q E s := by
  have hisz : items.size = ns.length := by have q := IntsAre.length hit; rw [Array.length_toList] at q; exact q
  obtain ⟨c, tl, hmro⟩ := F.called_set.mro; have hmade := F.called_set.made; have hsub := F.called_set.sub
  refine wpAny_call (codeAny_of_tree ?_); show wpAny _ _ (callAny (.type "set") _) _ _ _
  refine wpAny_pure ⟨Code.quiet_builtin _ (by decide +kernel), codeAny_builtin F.entry_type_call ?_⟩; rw [Around.under_plain (weight_type_call_type "set" [.ref l] []) rfl]
  have h1 := F.called_set.notType; have h2 := F.called_set.canCreate; have hct := F.typeCall_set_1 (.ref l)
  (repeat (any_goals (first | assumption | wp_step)))
  refine codeAny_mono (code_set_led1 (.ref l) (E := E) (Q₁ := fun obj s1 => obj = .ref s.heap.objs.size ∧ s1 = { s with heap := s.heap.push (set0O w) }) ⟨rfl, rfl⟩) fun r s1 hr => ?_
  match r, hr with
  | .error e, hr => exact hr
  | .ok .next, hr => exact hr.elim
  | .ok .brk, hr => exact hr.elim
  | .ok .cont, hr => exact hr.elim
  | .ok (.ret obj), hr =>
    obtain ⟨e1, e2⟩ := hr; subst e1; subst e2
    have hS : (s.heap.push (set0O w)).get? s.heap.objs.size = some (set0O w) := Heap.get?_push_size _ rfl
    have hT : Shared.TypeIs { s with heap := s.heap.push (set0O w) } (.ref s.heap.objs.size) "set" := ⟨_, hS, rfl⟩
    have hli := F.called_set.init.lookup; have hbi := F.called_set.init.bind (.ref s.heap.objs.size)
    (repeat (any_goals (first | assumption | wp_step)))
    refine codeAny_mono (codeAny_call_builtin (R := wants (fun r s2 => r = .none ∧ ∃ h' tk c, s2 = { s with heap := h', toks := tk } ∧ SetR w h' s.heap.objs.size (fun j => decide (j ∈ ns)) c ∧ c ≤ ns.length ∧ (∀ b o, s.heap.get? b = some o → h'.get? b = some o)) E) F.called_set.init.plain F.entry_set_init (check_set_init_1 hT ?_)) fun r2 s2 hr2 => ?_
    · obtain ⟨⟨ocls, odict, odata, oslots⟩, hol, hcl, nl, hdl⟩ := id hl
      simp only at hcl hdl; subst hcl; subst hdl
      have hol' : (s.heap.push (set0O w)).get? l = some { cls := .type "list", dict := odict, data := .seq items nl, slots := oslots } := Heap.get?_push_of_some _ hol
      have hsls := F.sub_list_set; have hslf := F.sub_list_frozenset
      have hne : (Value.type "list" == Value.type "dict") = false := by decide
      have hl1 : (s.heap.push (set0O w)).IsList l items := ⟨_, hol', rfl, nl, rfl⟩
      unfold Builtin.«set.__init__» noKeywords; unfold Builtin.Frozenset.updateFrom
      generalize hPI : pyIter = PI
      wp_walk; subst hPI
      refine wpAny_pyIter_list hl1 ?_; refine wpAny_bind (wpAny_runValue ?_)
      have hlS : l < s.heap.objs.size := Heap.lt_size hol; have hh3 : A.in1.in1.in1.handled = none := by simp [hh]
      have hz1 : (s.heap.push (set0O w)).objs.size = s.heap.objs.size + 1 := Heap.size_push ..
      have hneI : (s.heap.push (set0O w)).objs.size ≠ l := by rw [hz1]; exact Nat.ne_of_gt (Nat.lt_succ_of_lt hlS)
      have hSf : s.heap.objs.size ∉ [(s.heap.push (set0O w)).objs.size, l] := by rw [hz1]; simp only [List.mem_cons, List.not_mem_nil, or_false, not_or]; exact ⟨Nat.ne_of_lt (Nat.lt_succ_self _), Nat.ne_of_gt hlS⟩
      have hval : ∀ (i : Nat) (v : Value), items[i]? = some v → ∃ k t, ns[i]? = some k ∧ v = .int k t := fun i v hv => by
        have hi : i < ns.length := by have := (Array.getElem?_eq_some_iff.mp hv).1; omega
        obtain ⟨t, e⟩ := PyProof.Rows.IntsAre.int_at hit i v (by rw [Array.getElem?_toList]; exact hv)
        exact ⟨ns[i], t, List.getElem?_eq_getElem hi, by rw [e, List.getD_eq_getElem?_getD, List.getElem?_eq_getElem hi] <;> rfl⟩
      refine set_update_ints ((Walks.list (prog := P) (w := w) hh3 _ l hneI.symm items).toS) s.heap.objs.size hSf ns hisz hb hval (items.size - 0) 0 _ (by omega) (Nat.zero_le _) ⟨⟨_, Heap.get?_push_size _ rfl, rfl, rfl⟩, hl1.push _⟩ ⟨0, Nat.le_refl 0, setR_new_at (Heap.get?_push_of_some _ hS)⟩ ?_
      intro s' c' hm hc' hS'
      obtain ⟨h', g2, d', tk', os'⟩ := s'
      obtain rfl : g2 = s.gens := hm.gens
      obtain rfl : d' = s.drawn := hm.drawn
      obtain rfl : os' = s.os := hm.os
      show wpAny _ _ _ _ _ _; refine wpAny_pure ?_; show wpAny _ _ (ret Value.none) _ _ _
      rw [hisz] at hc'
      refine wpAny_pure ⟨rfl, h', tk', c', rfl, hS', hc', fun b o e => hm.heap b o ?_ (Heap.get?_push_of_some _ (Heap.get?_push_of_some _ e))⟩
      have hb0 : b < s.heap.objs.size := Heap.lt_size e
      rw [hz1]; simp only [List.mem_cons, List.not_mem_nil, or_false, not_or]; exact ⟨Nat.ne_of_lt hb0, Nat.ne_of_lt (Nat.lt_succ_of_lt hb0)⟩
    · match r2, hr2 with
      | .error e, hr2 => exact hr2
      | .ok .next, hr2 => exact hr2.elim
      | .ok .brk, hr2 => exact hr2.elim
      | .ok .cont, hr2 => exact hr2.elim
      | .ok (.ret r), hr2 =>
        obtain ⟨e1, h', tk, c', e2, hS', hc', hk'⟩ := hr2
        subst e1; subst e2
        (repeat (any_goals (first | assumption | wp_step)))
        exact k _ _ _ hS' hc' hk'
end
/-- set(xs) -/
def rSetL (K : PySem.W.Frag) (w : World) : List V → Hp → VK → Prop := fun vs H Q => ∃ (a : Addr) (ns : List Int), vs = [V.ref a] ∧ SqL K H a (ns.map V.int) ∧ ns.length ≤ 1000 ∧
  ∀ (p : Addr) (c : Nat), H p = none → c ≤ ns.length → Q (.ref p) (upd H p (SetO w p (fun j => decide (j ∈ ns)) c))
theorem cr_setL {X : Cx} (hc : X.calm = true) : CallR X (.type "set") (rSetL X.K X.w) := by
  intro pins s σ H vs us Q I r h
  obtain ⟨a, ns, rfl, hq, hl, q⟩ := h
  rw [Vals.ref1 r]
  obtain ⟨its, rv, pt, hz⟩ := I.list hq
  have hi : IntsAre its.toArray.toList ns := ints_of_vals rv
  refine call_set_lst ns (I.ok.hd hc) pt.isList hi (by unfold scanBound; omega) fun h' tk c R1 hcn k => ?_
  exact ⟨.ref _, upd H s.heap.objs.size (SetO X.w s.heap.objs.size (fun j => decide (j ∈ ns)) c), I.laid (t' := tk) k (Nat.le_refl _) (setO_new R1), rfl, q _ c (I.hok.fresh (Nat.le_refl _)) hcn⟩
/-- sorted(set(xs)), xs ints -/
def kSortSet (K : PySem.W.Frag) (w : World) (Q : VK) : VK := fun v H1 => ∃ (a : Addr) (ns : List Int), v = .ref a ∧ SqL K H1 a (ns.map V.int) ∧ ns.length < 64 ∧
  ∀ (ms : List Int) (p q : Addr) (o : HO), ms.Pairwise (· < ·) → (∀ k, k ∈ ms ↔ k ∈ ns) → ms.length ≤ ns.length → H1 p = none → (upd H1 p o) q = none → Q (.ref q) (upd (upd H1 p o) q (.lst (ms.map V.int)))
end SH

set_option Elab.async false
set_option linter.all false
set_option maxRecDepth 100000
set_option maxHeartbeats 4000000
/-! SHX: defs that raise, try, what is caught -/
namespace SH
open PySem PySem.Spec PyProof.Rows L2
section
variable {X : Cx} {CX : CXT} {k j : Nat} {sp : Sp} {dvs : List V} {E : L2.St → XK} {x : Str} {p pos : Pos} {e : Expr} {es : List Expr} {t : TA}
/-- a call in a try: what is raised is wished for at the slots -/
theorem pe_callX (c : Cal X.prog X.w X.K X.mg X.base CX j x dvs sp) (hr : Room k X.A) (hg : Gl X x) (hx : ∀ σ, PassesAt CX X σ (E σ)) (ha : PA X (e :: es) t) (hk : j ≤ k := by decide)
    (hdb : (x == ("__debug__" : Str)) = false := by decide) (he : starEach (e :: es) X.env = (false, eval e X.env) :: starEach es X.env := by rfl) (hpl : (backTo pos (starEach es X.env)).any (·.1) = false := by rfl) :
    PE X (.Call (.Name x p) (e :: es) [] pos) (tCallSD sp dvs E t) := by
  obtain ⟨f, fd, ps, ds, h1, h2, h3, h4, h5⟩ := c.ex
  exact pe_callSD h5 (hr.mono hk) hg h1 h2 h3 h4 hx ha hdb he hpl
theorem r_callX {σ : L2.St} {H : Hp} {Q : VK} (h : t σ H fun vs H1 => sp (vs ++ dvs) H1 Q (E σ)) : tCallSD sp dvs E t σ H Q := h
/-- isinstance of what a suite holds, an error without a dict -/
def rIsX (K : PySem.W.Frag) (cls : Value) (d : Option Addr) (a : Addr) : List V → Hp → VK → Prop := fun xs H Q => ∃ D, cls = .ref D ∧ d = none ∧ ExcC K D ∧ rIsE K D a xs H Q
theorem call_isX {a : Addr} {oe : Obj} {cls : Value} {d : Option Addr} {pn : List (Addr × Obj)} (hz : Zc cls d oe) (hf : ∃ vs, oe.data = .fields vs) : CallR (X.suite a ((a, oe) :: pn)) (.builtin "isinstance") (rIsX X.K cls d a) := by
  intro pins s σ H xs us Q I r h
  obtain ⟨D, rfl, rfl, C, h⟩ := h
  exact call_isE C hz hf pins s σ H xs us Q I r h
theorem v_isX {K : PySem.W.Frag} {D C a : Addr} {H : Hp} {Q : VK} {b : Bool} (hc : ExcC K D) (h : PySem.W.kitOne K (.ref D) (.ref C) = some b) (k : Q (.bl b) H) : rIsX K (.ref D) none a [.ref a, .ref C] H Q :=
  ⟨D, rfl, rfl, hc, .ref C, .ref C, b, rfl, fun _ r => r, h, k⟩
theorem v_isXT {K : PySem.W.Frag} {D a : Addr} {n : String} {H : Hp} {Q : VK} {b : Bool} (hc : ExcC K D) (h : PySem.W.kitOne K (.ref D) (.type n) = some b) (k : Q (.bl b) H) : rIsX K (.ref D) none a [.ref a, .ty n] H Q :=
  ⟨D, rfl, rfl, hc, .ty n, .type n, b, rfl, fun _ r => r, h, k⟩
/-- what an except clause asks: the class is caught -/
theorem r_catch {K : PySem.W.Frag} {c cls : Value} {d : Option Addr} {i : Nat} {ts : Addr → Value → Option Addr → TS} {Wo : WX} {D : Ends} {σ : L2.St} {H : Hp} (h : PySem.W.exmOne K cls c = some true)
    (k : ∀ a, H a = none → ts a cls d { nx := fun σ' H' => D.nx (σ'.set i none) H', rt := D.rt, bk := fun σ' H' => D.bk (σ'.set i none) H', ct := fun σ' H' => D.ct (σ'.set i none) H' } (σ.set i (some (.ref a))) H) : wAs K c i ts Wo D cls d σ H :=
  ⟨true, h, fun _ => k, fun z => by cases z⟩
end
end SH

set_option Elab.async false
set_option linter.all false
set_option maxRecDepth 100000
set_option maxHeartbeats 4000000
/-! SHS: texts -/
namespace SH
open PySem PySem.Spec PyProof.Rows L2
theorem v_isiSS {K : PySem.W.Frag} {H : Hp} {Q : VK} {s : Str} (k : Q (.bl true) H) : rIsi K [.str s, .ty "str"] H Q := ⟨.str s, .ty "str", .type "str", .type "str", true, rfl, .ty _, .base (.str s), by rfl, k⟩
theorem ty_str {K : PySem.W.Frag} {H : Hp} {s : Str} : tyV K "str" (.str s) H := rfl
/-! zip of two tuples -/
section
variable {K : PySem.W.Frag} {a b : Addr} {xs ys : List V}
theorem walk_zipT {n : Nat} (hn : n = min xs.length ys.length) : Walk (RZ.ItzT K a b) n (fun H => SqT K H a xs ∧ SqT K H b ys) (YPair (fun i => xs[i]?) (fun i => ys[i]?)) := by
  subst hn
  refine ⟨fun i _ hi q => ?_, fun _ q => ⟨xs, ys, q.1, q.2, by omega⟩, fun i H v H' _ q y => ?_⟩
  · have h1 : i < xs.length := by omega
    have h2 : i < ys.length := by omega
    exact ⟨xs, ys, xs[i], ys[i], q.1, q.2, by simp [h1], by simp [h2]⟩
  · obtain ⟨T, x, z, h1, h2, h3, h4, h5⟩ := y
    exact ⟨T, x, z, h1, h2, h3, h4 xs q.1, h5 ys q.2⟩
def kZipA (K : PySem.W.Frag) (R : It → Hp → Prop) : List V → Hp → Prop := fun vs H1 => ∃ a b xs ys, vs = [.ref a, .ref b] ∧ ((SqL K H1 a xs ∧ SqL K H1 b ys ∧ R (Itz K a b) H1) ∨ (SqT K H1 a xs ∧ SqT K H1 b ys ∧ R (RZ.ItzT K a b) H1))
theorem r_iZipA {as : TA} {σ : L2.St} {H : Hp} {R : It → Hp → Prop} (h : as σ H (kZipA K R)) : RZ.iZipA K as σ H R := h
theorem v_zipAT {H : Hp} {R : It → Hp → Prop} (h1 : SqT K H a xs) (h2 : SqT K H b ys) (k : R (RZ.ItzT K a b) H) : kZipA K R [.ref a, .ref b] H := ⟨a, b, xs, ys, rfl, .inr ⟨h1, h2, k⟩⟩
end
end SH

set_option Elab.async false
set_option linter.all false
set_option maxRecDepth 100000
set_option maxHeartbeats 4000000
/-! SHY: exceptions with fields: made by an own __init__, raised, caught, read; methods and makes that raise in a try -/
namespace SH
open PySem PySem.Spec PyProof.Rows L2
/-- the exception class at C, by its name x, made by an __init__ that keeps sp -/
structure CalE (P : Program) (w : World) (K : PySem.W.Frag) (mg : Str → Option Value) (base : Heap) (k : Nat) (x : Str) (C : Addr) (sp : Sp) : Prop where
  ox : OexC K C
  ex : ∃ (f : Addr) (fd : FuncData) (ps : List Str), mg x = some (.ref C) ∧ PySem.W.findIn K (.ref C) "__init__" = some (some (.ref f)) ∧ PySem.W.typeIn K (.ref f) = some (.type "function") ∧ Binds K fd ps [] ∧ FnOk P w K mg base CX0 k f fd ps sp
section
variable {X : Cx} {CX : CXT} {k j : Nat} {C : Addr} {sp : Sp} {dvs : List V} {E : L2.St → XK} {x m : Str} {p pos apos : Pos} {e o : Expr} {es : List Expr} {ta : TE} {t : TA}
theorem pmk_oexF (c : CalE X.prog X.w X.K X.mg X.base j x C sp) (hr : Room k X.A) (hg : Gl X x) (ha : PA X (e :: es) t) (hk : j + 1 ≤ k := by decide)
    (hdb : (x == ("__debug__" : Str)) = false := by decide) (he : starEach (e :: es) X.env = (false, eval e X.env) :: starEach es X.env := by rfl) (hpl : (backTo pos (starEach es X.env)).any (·.1) = false := by rfl) :
    PMk X (.Call (.Name x p) (e :: es) [] pos) (tMkO C sp [] t) := by
  obtain ⟨f, fd, ps, h1, h2, h3, h4, h5⟩ := c.ex
  exact pmk_oex c.ox h2 h3 h5 (hr.mono hk) h4 .nil pass0 hg h1 ha hdb he hpl
def tMethSD (C : Addr) (m : Str) (sp : Sp) (dvs : List V) (E : L2.St → XK) (ta : TE) (t : TA) : TE := fun σ H Q => ta σ H fun x H1 => ∃ a dx fs, x = .ref a ∧ H1 a = some (.ins C dx fs) ∧ fs.lookup m = none ∧ t σ H1 fun vs H2 => sp (x :: (vs ++ dvs)) H2 Q (E σ)
theorem pe_methX {pl : Sem Bool} (he : PE X o ta) (c : CalM X.prog X.w X.K X.mg X.base CX j C m dvs sp) (hr : Room k X.A) (hx : ∀ σ, PassesAt CX X σ (E σ)) (ha : PA X (e :: es) t) (hk : j ≤ k := by decide)
    (hst : starEach (e :: es) X.env = (false, eval e X.env) :: starEach es X.env := by rfl) (hpl : (backTo pos (starEach es X.env)).any (·.1) = false := by rfl)
    (ht : eval (.Call (.Attribute o m apos) (e :: es) [] pos) X.env = (do
      let ov ← eval o X.env; standAt apos.atName
      let (f, first) ← holding [ov] (getMethod ov m pl); callWith pos f first (backTo pos (starEach (e :: es) X.env)) (backToKw pos (keywordEach [] X.env))) := by rfl) :
    PE X (.Call (.Attribute o m apos) (e :: es) [] pos) (tMethSD C m sp dvs E ta t) := by
  obtain ⟨f, fd, ps, ds, h1, h3, h4, h5⟩ := c.ex
  refine ⟨fun pins s σ H Q I h => PySem.W.methodCall_KW (pl := pl) (thn (he.run pins s σ H _ I h) fun u s1 ⟨x, H1, I1, rx, a, dx, fs, ex, ea, l, q⟩ => ?_) ht⟩
  subst ex; obtain rfl : u = Value.ref a := rx
  refine getmeth_ok I1 ea c.cl h1 l (PySem.W.callWith_K (first := [.ref a]) (h₀ := X.base) I.ok.mod.kin h1.kp (thn (ha.run pos pins s1 σ H1 _ I1 q) fun us s2 ⟨vs, H2, I2, r, q2⟩ => ⟨I2.kIn, ?_⟩) hst hpl)
  exact run_fnSD (us := .ref a :: us) (vs := .ref a :: vs) h5 (hr.mono hk) h3 h4 (hx σ) I2 (.cons rfl r) q2
theorem pe_methX0 {pl : Sem Bool} (he : PE X o ta) (c : CalM X.prog X.w X.K X.mg X.base CX j C m dvs sp) (hr : Room k X.A) (hx : ∀ σ, PassesAt CX X σ (E σ)) (hk : j ≤ k := by decide)
    (ht : eval (.Call (.Attribute o m apos) [] [] pos) X.env = (do
      let ov ← eval o X.env; standAt apos.atName
      let (f, first) ← holding [ov] (getMethod ov m pl); callWith pos f first (backTo pos (starEach [] X.env)) (backToKw pos (keywordEach [] X.env))) := by rfl) :
    PE X (.Call (.Attribute o m apos) [] [] pos) (tMethSD C m sp dvs E ta tNil) := by
  obtain ⟨f, fd, ps, ds, h1, h3, h4, h5⟩ := c.ex
  refine ⟨fun pins s σ H Q I h => PySem.W.methodCall_KW (pl := pl) (thn (he.run pins s σ H _ I h) fun u s1 ⟨x, H1, I1, rx, a, dx, fs, ex, ea, l, q⟩ => ?_) ht⟩
  subst ex; obtain rfl : u = Value.ref a := rx
  exact getmeth_ok I1 ea c.cl h1 l (PySem.W.callWith_K0 (first := [.ref a]) I1.kIn h1.kp (run_fnSD (us := [.ref a]) (vs := [.ref a]) h5 (hr.mono hk) h3 h4 (hx σ) I1 (.cons rfl .nil) q))
def tMakeSD (C : Addr) (sp : Sp) (dvs : List V) (E : L2.St → XK) (t : TA) : TE := fun σ H Q => t σ H fun vs H1 => ∀ x dx, H1 x = none → H1 dx = none → dx ≠ x → sp (.ref x :: (vs ++ dvs)) (upd (upd H1 dx (.own x)) x (.ins C dx [])) (fun v H2 => v = .non ∧ Q (.ref x) H2) (E σ)
theorem run_makeSD {f : Addr} {fd : FuncData} {ps : List Str} {ds : List Value} {pins : List (Addr × Obj)} {σ : L2.St} {H : Hp} {s : Shared} {Q : VK} {us : List Value} {vs : List V} (M : L2.Mk X.K C f) (F : FnOk X.prog X.w X.K X.mg X.base CX k f fd ps sp) (hr : Room (k + 1) X.A) (hb : Binds X.K fd ps ds) (hd : Vals dvs ds)
    (hx : PassesAt CX X σ (E σ)) (I : Inv X pins σ H s) (r : Vals vs us) (h : ∀ x dx, H x = none → H dx = none → dx ≠ x → sp (.ref x :: (vs ++ dvs)) (upd (upd H dx (.own x)) x (.ins C dx [])) (fun v H2 => v = .non ∧ Q (.ref x) H2) (E σ)) :
    wpAny (model X.prog X.w) X.A (call (.ref C) us) (EP X pins σ Q) X.xe s := by
  have hq := h (s.heap.objs.size + 1) s.heap.objs.size (I.hok.fresh (Nat.le_succ _)) (I.hok.fresh (Nat.le_refl _)) (Nat.ne_of_lt (Nat.lt_succ_self _)); have I2 := Inv.made (C := C) I
  have r2 : Vals (V.ref (s.heap.objs.size + 1) :: (vs ++ dvs)) (Value.ref (s.heap.objs.size + 1) :: (us ++ ds)) := .cons rfl (r.append hd); have hl : (Value.ref (s.heap.objs.size + 1) :: us ++ ds).length = ps.length := by have e := r2.length; rw [F.len _ _ _ _ hq] at e; exact e.symm
  refine wpAny_call (make_map (f := f) I.kIn M.makes M.init (beq_iff_eq.mp M.fn) (codeAny_mono (F.run _ X.stack _ _ ⟨Value.ref (s.heap.objs.size + 1) :: us, []⟩ (Value.ref (s.heap.objs.size + 1) :: (us ++ ds)) _ _ (E σ) (hr.make C us []) (I2.env0.make C us []) (hb _ (Value.ref (s.heap.objs.size + 1) :: us) I2.kIn hl) r2 hq) fun r s' hq' => ?_))
  match r, hq' with
  | .error e, hq' => exact hx pins _ _ e s' I2 hq'
  | .ok (.ret u), hq' => obtain ⟨v, H', I3, rv, ev, q3⟩ := I2.after hq'; subst ev; exact ⟨rv, ⟨V.ref (s.heap.objs.size + 1), H', I3, rfl, q3⟩⟩
  | .ok .next, hq' => exact False.elim hq'
  | .ok .brk, hq' => exact False.elim hq'
  | .ok .cont, hq' => exact False.elim hq'
theorem pe_makeX (c : CalC X.prog X.w X.K X.mg X.base CX j x C dvs sp) (hr : Room k X.A) (hg : Gl X x) (hx : ∀ σ, PassesAt CX X σ (E σ)) (ha : PA X (e :: es) t) (hk : j + 1 ≤ k := by decide)
    (hdb : (x == ("__debug__" : Str)) = false := by decide) (he : starEach (e :: es) X.env = (false, eval e X.env) :: starEach es X.env := by rfl) (hpl : (backTo pos (starEach es X.env)).any (·.1) = false := by rfl) :
    PE X (.Call (.Name x p) (e :: es) [] pos) (tMakeSD C sp dvs E t) := by
  obtain ⟨f, fd, ps, ds, h1, h2, h3, h4, h5⟩ := c.ex
  refine ⟨fun pins s σ H Q I h => wpAny_Call_Name_kw (ld_glob I hg h1 (PySem.W.callWith_K (h₀ := X.base) I.ok.mod.kin h2.kp (thn (ha.run pos pins s σ H _ I h) fun us s1 ⟨vs, H1, I1, r, q⟩ => ⟨I1.kIn, ?_⟩) he hpl) hdb)⟩
  exact run_makeSD h2 h5 (hr.mono hk) h3 h4 (hx σ) I1 r q
end
section
variable {K : PySem.W.Frag} {σ : L2.St} {H : Hp} {Q : VK} {C : Addr} {f : Str} {v : V}
/-- what is asked of the own __init__ of a class with one field -/
def sp1 (f : Str) (C : Addr) : Sp := fun vs H Q _ => ∃ (a : Addr) (v : V), vs = [.ref a, v] ∧ H a = some (exo a C none) ∧ ∀ dx, H dx = none → dx ≠ a → Q .non (upd (upd H dx (exd dx [(f, v)])) a (exo a C (some dx)))
def kMkO (C : Addr) (sp : Sp) (dvs : List V) (R : XK) : List V → Hp → Prop := fun vs H1 => vs.length ≤ 1000 ∧ ∀ a, H1 a = none → sp (.ref a :: (vs ++ dvs)) (upd H1 a (exo a C none))
  (fun v H2 => v = .non ∧ ∃ (d : Addr) (fs : List (Str × V)), H2 a = some (exo a C (some d)) ∧ H2 d = some (exd d fs) ∧ H1 d = none ∧ R (.ref C) (some d) (upd (del H2 a) d (.xd fs))) (fun _ _ _ => False)
theorem r_mkO {sp : Sp} {dvs : List V} {t : TA} {R : XK} (h : t σ H (kMkO C sp dvs R)) : tMkO C sp dvs t σ H R := h
theorem v_raise1 {R : XK} (q : ∀ d, H d = none → R (.ref C) (some d) (upd H d (.xd [(f, v)]))) : kMkO C (sp1 f C) [] R [v] H := by
  refine ⟨by simp, fun a ha => ⟨a, v, rfl, upd_same, fun dx hdx hne => ⟨rfl, dx, _, upd_same, by rw [upd_ne hne]; exact upd_same, (upd_free hdx).1, ?_⟩⟩⟩
  have hd := (upd_free hdx).1
  have e : upd (del (upd (upd (upd H a (exo a C none)) dx (exd dx [(f, v)])) a (exo a C (some dx))) a) dx (.xd [(f, v)]) = upd H dx (.xd [(f, v)]) := by
    funext b
    by_cases c1 : b = dx
    · rw [c1, upd_same, upd_same]
    · rw [upd_ne c1, upd_ne c1]
      by_cases c2 : b = a
      · rw [c2, del_same, ha]
      · rw [del_ne c2, upd_ne c2, upd_ne c1, upd_ne c2]
  rw [e]
  exact q dx hd
end
section
variable {σ : L2.St} {H : Hp} {Q : VK} {C a dx : Addr} {m : Str} {sp : Sp} {dvs : List V} {ta : TE} {t : TA} {fs : List (Str × V)} {vs : List V}
def kMethX (C : Addr) (m : Str) (sp : Sp) (dvs : List V) (E : XK) (t : TA) (σ : L2.St) (Q : VK) : VK := fun x H1 => ∃ a dx fs, x = .ref a ∧ H1 a = some (.ins C dx fs) ∧ fs.lookup m = none ∧ t σ H1 fun vs H2 => sp (x :: (vs ++ dvs)) H2 Q E
theorem r_methX {E : L2.St → XK} (h : ta σ H (kMethX C m sp dvs (E σ) t σ Q)) : tMethSD C m sp dvs E ta t σ H Q := h
theorem v_methX {E : XK} (h : H a = some (.ins C dx fs)) (l : fs.lookup m = none) (k : t σ H fun vs H2 => sp (.ref a :: (vs ++ dvs)) H2 Q E) : kMethX C m sp dvs E t σ Q (.ref a) H := ⟨a, dx, fs, rfl, h, l, k⟩
def kMakeX (C : Addr) (sp : Sp) (dvs : List V) (E : XK) (Q : VK) : List V → Hp → Prop := fun vs H1 => ∀ x dx, H1 x = none → H1 dx = none → dx ≠ x → sp (.ref x :: (vs ++ dvs)) (upd (upd H1 dx (.own x)) x (.ins C dx [])) (fun v H2 => v = .non ∧ Q (.ref x) H2) E
theorem r_makeX {E : L2.St → XK} (h : t σ H (kMakeX C sp dvs (E σ) Q)) : tMakeSD C sp dvs E t σ H Q := h
theorem v_makeX {E : XK} (k : ∀ x dx, H x = none → H dx = none → dx ≠ x → sp (.ref x :: (vs ++ dvs)) (upd (upd H dx (.own x)) x (.ins C dx [])) (fun v H2 => v = .non ∧ Q (.ref x) H2) E) : kMakeX C sp dvs E Q vs H := k
end
/-! isinstance of what a suite holds -/
def rIsY (K : PySem.W.Frag) (cls : Value) (d : Option Addr) (a : Addr) : List V → Hp → VK → Prop := fun xs H Q => ∃ D, cls = .ref D ∧ (∀ dd, d = some dd → ∃ fs, H dd = some (.xd fs)) ∧ ExcC K D ∧ rIsE K D a xs H Q
theorem call_isY {X : Cx} {a : Addr} {oe : Obj} {cls : Value} {d : Option Addr} {pn : List (Addr × Obj)} (hz : Zc cls d oe) (hf : ∃ vs, oe.data = .fields vs) : CallR (X.suite a ((a, oe) :: pn)) (.builtin "isinstance") (rIsY X.K cls d a) := by
  intro pins s σ H xs us Q I r h
  obtain ⟨D, rfl, hdd, C, c, cv, b, rfl, hcv, e, q⟩ := h
  cases r with
  | cons rx rr =>
    cases rr with
    | cons rt rr =>
      cases rr; cases rx
      have ec := hcv _ rt; subst ec
      obtain ⟨hget, _⟩ := I.pin (a, oe) (List.mem_append.mpr (.inl List.mem_cons_self)); obtain ⟨vs, hv⟩ := hf
      have hcl : (PySem.W.clsIn X.K D).isSome = true := by
        obtain ⟨cd, hc, _⟩ := PySem.W.any_some C.hd
        rw [hc]; rfl
      have J : ∃ od, PySem.W.InstAt s.heap a oe D od := by
        cases d with
        | none => exact ⟨none, hget, hz.1, by unfold PySem.W.notCls; rw [hv] <;> rfl, by rw [hz.2]; trivial⟩
        | some dd =>
          obtain ⟨fs, hfs⟩ := hdd dd rfl
          obtain ⟨mA, hns, _⟩ := (show ObjOk X.prog X.w H s.heap dd (.xd fs) from I.hok dd _ hfs)
          obtain ⟨od, ho, hl⟩ := lookIn_ns hns
          exact ⟨some od, hget, hz.1, by unfold PySem.W.notCls; rw [hv] <;> rfl, by rw [hz.2]; exact ho⟩
      obtain ⟨od, J⟩ := J
      exact PySem.W.kia_one (PySem.W.kitx_exc (od := od) hcl C.hg C.hk C.hs C.ha C.hn C.ht C.hm) I.kIn J e (fun z => nomatch z) fun tk => ⟨.bl b, H, I.kept (t' := tk) fun _ _ z => z, rfl, q⟩
section
variable {K : PySem.W.Frag} {D C a : Addr} {n : String} {H : Hp} {Q : VK} {b : Bool} {σ : L2.St}
theorem v_isY {d : Option Addr} (hd : ∀ dd, d = some dd → ∃ fs, H dd = some (.xd fs)) (hc : ExcC K D) (h : PySem.W.kitOne K (.ref D) (.ref C) = some b) (k : Q (.bl b) H) : rIsY K (.ref D) d a [.ref a, .ref C] H Q := ⟨D, rfl, hd, hc, .ref C, .ref C, b, rfl, fun _ r => r, h, k⟩
theorem v_isYT {d : Option Addr} (hd : ∀ dd, d = some dd → ∃ fs, H dd = some (.xd fs)) (hc : ExcC K D) (h : PySem.W.kitOne K (.ref D) (.type n) = some b) (k : Q (.bl b) H) : rIsY K (.ref D) d a [.ref a, .ty n] H Q := ⟨D, rfl, hd, hc, .ty n, .type n, b, rfl, fun _ r => r, h, k⟩
theorem xfOf (c : ExcC K D) : XfC K D := ⟨c.hg, c.hk, c.hs, c.hd⟩
theorem nodict : ∀ dd : Addr, (none : Option Addr) = some dd → ∃ fs, H dd = some (.xd fs) := fun _ z => nomatch z
theorem adict {d : Addr} {fs : List (Str × V)} (h : H d = some (.xd fs)) : ∀ dd : Addr, some d = some dd → ∃ fs, H dd = some (.xd fs) := fun _ z => by cases z; exact ⟨fs, h⟩
/-- e.f in a suite -/
def kXf (a : Addr) (cls : Value) (d : Option Addr) (C : Addr) (f : Str) (Q : VK) : VK := fun x H1 => x = .ref a ∧ cls = .ref C ∧ ∃ (dd : Addr) (fs : List (Str × V)) (v : V), d = some dd ∧ H1 dd = some (.xd fs) ∧ fs.lookup f = some v ∧ Q v H1
theorem r_xf {cls : Value} {d : Option Addr} {f : Str} {te : TE} (h : te σ H (kXf a cls d C f Q)) : tXf a cls d C f te σ H Q := h
theorem v_xf {d : Addr} {f : Str} {fs : List (Str × V)} {v : V} (h : H d = some (.xd fs)) (l : fs.lookup f = some v) (k : Q v H) : kXf a (.ref C) (some d) C f Q (.ref a) H := ⟨rfl, rfl, d, fs, v, rfl, h, l, k⟩
/-- self.f = e in an exception's __init__ -/
def kOst (K : PySem.W.Frag) (f : Str) (y : V) (R : Hp → Prop) : VK := fun x H2 => ∃ a C : Addr, x = .ref a ∧ OexC K C ∧ PySem.W.findIn K (.ref C) f = some none ∧
  ((H2 a = some (exo a C none) ∧ ∀ dx, H2 dx = none → dx ≠ a → R (upd (upd H2 dx (exd dx [(f, y)])) a (exo a C (some dx)))) ∨ ∃ (dx : Addr) (fs : List (Str × V)), H2 a = some (exo a C (some dx)) ∧ H2 dx = some (exd dx fs) ∧ fs.length ≤ 900 ∧ R (upd H2 dx (exd dx ((f, y) :: fs))))
theorem r_ost {D : Ends} {f : Str} {to te : TE} (h : te σ H fun y H1 => to σ H1 (kOst K f y (D.nx σ))) : tOst K f to te D σ H := h
end
end SH

set_option Elab.async false
set_option linter.all false
set_option maxRecDepth 100000
set_option maxHeartbeats 4000000
/-! SHZ: the same for exceptions whose context is None (L2N), and defs called within an except suite -/
namespace SH
open PySem PySem.Spec PyProof.Rows L2
section
variable {P : Program} {w : World} {K : PySem.W.Frag} {mg : Str → Option Value} {base : Heap}
theorem okN {x qual : Str} {st : Stmt} {f : Addr} {fd : FuncData} {N ps : List Str} {k : Nat} {sp : Sp} (F : Fun K x qual st f fd) (S : FnScope N ps (defScope st)) (len : ∀ vs H Q E, sp vs H Q E → vs.length = ps.length)
    (hb : ∀ (cdv : Value) (A : Around) (outer : List Env) (s : Shared) (H : Hp) (vs : List V) (Q : VK) (E : XK), Room k (A.deeper (envOfC qual (defScope st) s.heap.objs.size f cdv)) → sp vs H Q E →
      ∃ t, PSs (cxOf (L2N.CX P w) P w K mg base N qual (defScope st) f cdv A outer s H E) (defBody st) t ∧ t { nx := fun _ H' => Q .non H', rt := Q } (start N vs) H) : FnOk P w K mg base (L2N.CX P w) (k + 1) f fd ps sp := by
  obtain ⟨oc, od, kV, doc, pm, an, cdv, ct, osl, rfl, lk, hcd⟩ := F.ex
  exact fn_of lk hcd S len fun A outer s H vs Q E hr h => hb cdv A outer s H vs Q E hr h
theorem okND {x qual : Str} {st : Stmt} {dvs : List V} {f : Addr} {fd : FuncData} {N ps : List Str} {k : Nat} {sp : Sp} (F : FunD K x qual (defArgs st) (defBody st) (defScope st) dvs [] f fd) (S : FnScope N ps (defScope st)) (len : ∀ vs H Q E, sp vs H Q E → vs.length = ps.length)
    (hb : ∀ (cdv : Value) (A : Around) (outer : List Env) (s : Shared) (H : Hp) (vs : List V) (Q : VK) (E : XK), Room k (A.deeper (envOfC qual (defScope st) s.heap.objs.size f cdv)) → sp vs H Q E →
      ∃ t, PSs (cxOf (L2N.CX P w) P w K mg base N qual (defScope st) f cdv A outer s H E) (defBody st) t ∧ t { nx := fun _ H' => Q .non H', rt := Q } (start N vs) H) : FnOk P w K mg base (L2N.CX P w) (k + 1) f fd ps sp :=
  F.ok S len hb
theorem passLN {X : Cx} : Passes (L2N.CX X.prog X.w) X E0 := fun _ _ _ _ _ _ _ h => by
  obtain ⟨_, _, _, _, _, _, _, _, _, _, _, _, z⟩ := h
  exact z.elim
theorem takes0N {X : Cx} : L2N.Takes X (fun _ _ _ _ => False) := fun _ _ x => by
  obtain ⟨_, _, _, _, _, _, _, _, _, _, _, _, _, _, _, _, z⟩ := x
  exact z.elim
/-- a def that is called while an exception is handled; it raises nothing -/
theorem okH {x qual : Str} {st : Stmt} {f : Addr} {fd : FuncData} {N ps : List Str} {k : Nat} {sp : Sp} (F : Fun K x qual st f fd) (S : FnScope N ps (defScope st)) (len : ∀ vs H Q E, sp vs H Q E → vs.length = ps.length)
    (hb : ∀ (cdv : Value) (A : Around) (outer : List Env) (s : Shared) (H : Hp) (vs : List V) (Q : VK) (E : XK) (p : Addr × Obj), L2H.Hot1 A p → L2H.RoomH k (A.deeper (envOfC qual (defScope st) s.heap.objs.size f cdv)) → sp vs H Q E →
      ∃ t, PSs (L2H.cxH CX0 P w K mg base N qual (defScope st) f cdv A outer s H E p) (defBody st) t ∧ t { nx := fun _ H' => Q .non H', rt := Q } (start N vs) H) : L2H.FnH P w K mg base CX0 (k + 1) f fd ps sp := by
  obtain ⟨oc, od, kV, doc, pm, an, cdv, ct, osl, rfl, lk, hcd⟩ := F.ex
  exact L2H.fn_ofH lk hcd S len fun A outer s H vs Q E p hot hr h => hb cdv A outer s H vs Q E p hot hr h
end
structure CalH (P : Program) (w : World) (K : PySem.W.Frag) (mg : Str → Option Value) (base : Heap) (k : Nat) (x : Str) (sp : Sp) : Prop where
  ex : ∃ (f : Addr) (fd : FuncData) (ps : List Str), mg x = some (.ref f) ∧ PySem.W.keepIn K (.ref f) = true ∧ Binds K fd ps [] ∧ L2H.FnH P w K mg base CX0 k f fd ps sp
section
variable {X : Cx} {CX : CXT} {k j : Nat} {C : Addr} {sp : Sp} {x : Str} {p pos : Pos} {e : Expr} {es : List Expr} {t : TA}
theorem hotc {a : Addr} {oe : Obj} {cls : Value} {d : Option Addr} {pn : List (Addr × Obj)} (hz : L2N.Zn cls d oe) (hf : ∃ vs, oe.data = .fields vs) : L2H.HotC (X.suite a ((a, oe) :: pn)) := by
  obtain ⟨vs, hv⟩ := hf
  exact ⟨(a, oe), ⟨rfl, vs, hv, hz.2.2 vs hv⟩, List.mem_cons_self⟩
theorem pe_callHF (c : CalH X.prog X.w X.K X.mg X.base j x sp) (hr : L2H.RoomH k X.A) (hc : L2H.HotC X) (hg : Gl X x) (ha : PA X (e :: es) t) (hk : j ≤ k := by decide)
    (hdb : (x == ("__debug__" : Str)) = false := by decide) (he : starEach (e :: es) X.env = (false, eval e X.env) :: starEach es X.env := by rfl) (hpl : (backTo pos (starEach es X.env)).any (·.1) = false := by rfl) :
    PE X (.Call (.Name x p) (e :: es) [] pos) (tCallS sp (fun _ => E0) t) := by
  obtain ⟨f, fd, ps, h1, h2, h3, h4⟩ := c.ex
  exact L2H.pe_callH h4 (hr.mono hk) hc hg h1 h2 h3 (fun σ pins H s e s' _ z => z.elim) ha hdb he hpl
theorem r_callS {σ : L2.St} {H : Hp} {Q : VK} {E : L2.St → XK} (h : t σ H fun vs H1 => sp vs H1 Q (E σ)) : tCallS sp E t σ H Q := h
set_option maxHeartbeats 8000000 in
theorem pmk_oexN (c : CalE X.prog X.w X.K X.mg X.base j x C sp) (hr : Room k X.A) (hg : Gl X x) (ha : PA X (e :: es) t) (hk : j + 1 ≤ k := by decide)
    (hdb : (x == ("__debug__" : Str)) = false := by decide) (he : starEach (e :: es) X.env = (false, eval e X.env) :: starEach es X.env := by rfl) (hpl : (backTo pos (starEach es X.env)).any (·.1) = false := by rfl) :
    L2N.PMk X (.Call (.Name x p) (e :: es) [] pos) (tMkO C sp [] t) := by
  obtain ⟨fI, fd, ps, hm, iC, tI, hb, F1⟩ := c.ex; have T := c.ox
  intro pins s σ H Q I h
  obtain ⟨nm, q, N, bs, bm, sn, sub, ab, col, dd, k0, k1, k2, k3, k5, hC, hbm⟩ := c.ox.cls
  refine wpAny_Call_Name_kw (ld_glob I hg hm (PySem.W.callWith_K (h₀ := X.base) I.ok.mod.kin T.kC (thn (ha.run pos pins s σ H _ I h) fun us s1 ⟨vs, H1, I1, r1, hz, q1⟩ => ⟨I1.kIn, ?_⟩) he hpl) hdb)
  show wpAny _ _ (call (.ref C) us) _ _ _; obtain ⟨hp, g, dr, tk, os⟩ := s1
  have hsz : hp.objs.size ≤ hp.objs.size + 1 := Nat.le_succ _; have hn : H1 (hp.objs.size + 1) = none := I1.hok.fresh hsz
  have hq := q1 (hp.objs.size + 1) hn; rw [List.append_nil] at hq
  have kk : ∀ b o, hp.get? b = some o → ((hp.push (PySem.W.kdv_tup us)).push (PySem.HandSPX.excO C hp.objs.size)).get? b = some o := fun b o e => by exact Heap.get?_push_of_some _ (Heap.get?_push_of_some _ e)
  have hget : ((hp.push (PySem.W.kdv_tup us)).push (PySem.HandSPX.excO C hp.objs.size)).get? (hp.objs.size + 1) = some (PySem.HandSPX.excO C hp.objs.size) := by (heap_get)
  have I2 : Inv X pins σ (upd H1 (hp.objs.size + 1) (exo (hp.objs.size + 1) C none)) ⟨(hp.push (PySem.W.kdv_tup us)).push (PySem.HandSPX.excO C hp.objs.size), g, dr, tk, os⟩ := by
    exact I1.laid (t' := tk) (a := hp.objs.size + 1) (o := exo (hp.objs.size + 1) C none) (h' := (hp.push (PySem.W.kdv_tup us)).push (PySem.HandSPX.excO C hp.objs.size)) kk hsz (exo_ok hget)
  have r2 : Vals (V.ref (hp.objs.size + 1) :: vs) (Value.ref (hp.objs.size + 1) :: us) := .cons rfl r1
  have hl : (Value.ref (hp.objs.size + 1) :: us ++ []).length = ps.length := by have e := r2.length; rw [F1.len _ _ _ _ hq] at e; rw [List.append_nil]; exact e.symm
  have hus : us.length ≤ sizeLine := by rw [← Paired.length r1, sizeLine_eq]; omega
  have b2 := hb _ (Value.ref (hp.objs.size + 1) :: us) I2.kIn hl; rw [List.append_nil] at b2
  refine wpAny_call (PySem.HandSPX.call_own F.excBase_ValueError (fun Y => PySem.HandSPX.refsVE_contains Y bm hbm) (I1.kIn _ _ hC) (PySem.W.looks_findIn I1.kIn iC) (fun self => PySem.W.bind_fn I1.kIn self tI) hus
    (codeAny_mono (F1.run _ X.stack _ _ ⟨Value.ref (hp.objs.size + 1) :: us, []⟩ (Value.ref (hp.objs.size + 1) :: us) _ _ (fun _ _ _ => False) ((hr.mono hk).make C us []) (I2.env0.make C us []) b2 r2 hq) fun r s' hq' => ?_))
  match r, hq' with
  | .error er, hq' => exact False.elim hq'
  | .ok .next, hq' => exact False.elim hq'
  | .ok .brk, hq' => exact False.elim hq'
  | .ok .cont, hq' => exact False.elim hq'
  | .ok (.ret u), hq' =>
    obtain ⟨v, H2, os2, bare2, un2, hok2, rv, ev, d, fs, ea, ed, hd1, q2⟩ := hq'; subst ev
    obtain ⟨h2, g2, d2, t2, os'⟩ := s'; obtain ⟨t0, G, J, kG, ge, hoe, na⟩ := mk_end0 (d2 := d2) (t2 := t2) I1 hsz kk un2 hok2 os2 bare2 ea ed hd1
    exact ⟨rv, ⟨hp.objs.size + 1, _, _, ⟨G, g2, d2, t2, os'⟩, _, .ref C, some d, rfl, J, kG, ge, hoe, ⟨rfl, rfl, fun vs hv => by cases hv; rfl⟩, rfl, rfl, na, rfl, bare2, raises_own T.exC T.tyC, q2⟩⟩
end
theorem r_catchM {K : PySem.W.Frag} {c cls : Value} {d : Option Addr} {ts : Addr → Value → Option Addr → TS} {r : List (Value × (Addr → Value → Option Addr → TS))} {Wo : WX} {D : Ends} {σ : L2.St} {H : Hp} (h : PySem.W.exmOne K cls c = some true)
    (k : ∀ a, H a = none → ts a cls d D σ H) : L2.wMany K Wo D ((c, ts) :: r) cls d σ H := ⟨true, h, fun _ => k, fun z => by cases z⟩
theorem r_catchM2 {K : PySem.W.Frag} {c cls : Value} {d : Option Addr} {ts : Addr → Value → Option Addr → TS} {r : List (Value × (Addr → Value → Option Addr → TS))} {Wo : WX} {D : Ends} {σ : L2.St} {H : Hp} (h : PySem.W.exmOne K cls c = some false)
    (k : L2.wMany K Wo D r cls d σ H) : L2.wMany K Wo D ((c, ts) :: r) cls d σ H := ⟨false, h, (fun z => by cases z), fun _ => k⟩
section
variable {X : Cx} {o e : Expr} {es : List Expr} {to : TE} {t : TA} {name : Str} {apos cpos : Pos} {T id : String} {r : V → List V → Hp → VK → Prop}
theorem pe_bmK (K : PySem.W.Frag) (pa : PlainAttrs T) (slot : Slot T name id) (hty : typeOf (.builtin id) = pure (.type "method_descriptor")) (hm : MtR X id r) (ho : PE X o to) (ha : PA X (e :: es) t) (hK : X.K = K := by rfl)
    (hbase : attributeBase o name X.env (eval o X.env) = eval o X.env := by rfl)
    (hfew : ((backTo cpos (starEach (e :: es) X.env)).all (fun x => !x.1) && (backToKw cpos (keywordEach [] X.env)).all (fun x => x.1.isSome)
      && decide ((e :: es).length + ([] : List Keyword).length + (if ([] : List Keyword).isEmpty then 0 else 1) < 30)) = true := by rfl)
    (hline : (apos.endLine == cpos.line) = true := by rfl) (hs : starEach (e :: es) X.env = (false, eval e X.env) :: starEach es X.env := by rfl) (hplain : (backTo cpos (starEach es X.env)).any (·.1) = false := by rfl) :
    PE X (.Call (.Attribute o name apos) (e :: es) [] cpos) (tBM K T r to t) := by
  subst hK
  exact pe_bm pa slot hty hm ho ha hbase hfew hline hs hplain
end
end SH

set_option Elab.async false
set_option linter.all false
set_option maxRecDepth 100000
set_option maxHeartbeats 4000000
/-! SHW: exceptions as values: kept past their suite, made without being raised, asked and read anywhere -/
namespace SH
open PySem PySem.Spec PyProof.Rows L2
/-- at a: an exception of the class cls, its dict at d -/
def exK (a : Addr) (cls : Value) (d : Option Addr) : HO := .ext fun h => ∃ (oe : Obj) (vs : Array Value), h.get? a = some oe ∧ Zc cls d oe ∧ oe.data = .fields vs
theorem exK_ok {P : Program} {w : World} {H : Hp} {h : Heap} {a : Addr} {cls : Value} {d : Option Addr} {oe : Obj} {vs : Array Value} (e : h.get? a = some oe) (z : Zc cls d oe) (q : oe.data = .fields vs) : ObjOk P w H h a (exK a cls d) :=
  ⟨⟨oe, vs, e, z, q⟩, ⟨oe, e⟩, fun _ _ ⟨o, v, p, r⟩ k => ⟨o, v, k o p, r⟩⟩
theorem exK_at {P : Program} {w : World} {H : Hp} {h : Heap} {a : Addr} {cls : Value} {d : Option Addr} (hok : HOk P w H h) (he : H a = some (exK a cls d)) : ∃ (oe : Obj) (vs : Array Value), h.get? a = some oe ∧ Zc cls d oe ∧ oe.data = .fields vs := by
  have x : ObjOk P w H h a (.ext fun h => ∃ (oe : Obj) (vs : Array Value), h.get? a = some oe ∧ Zc cls d oe ∧ oe.data = .fields vs) := hok a _ he
  exact x.1
section
variable {X : Cx} {pins : List (Addr × Obj)} {σ : L2.St} {H : Hp} {s sI : Shared}
/-- an exception that stands untracked is tracked from now on; sI: the state without it -/
theorem trackK {a : Addr} {cls : Value} {d : Option Addr} {oe : Obj} {vs : Array Value} (I : Inv X pins σ H s) (J : Inv X pins σ H sI) (hx : X.ex = []) (ng : sI.heap.get? a = none) (he : s.heap.get? a = some oe) (z : Zc cls d oe) (hd : oe.data = .fields vs) (na : H a = none) :
    Inv X pins σ (upd H a (exK a cls d)) s := by
  have gone : ∀ {b : Addr} {o : Obj}, sI.heap.get? b = some o → b ≠ a := fun {b o} e y => by rw [y, ng] at e; cases e
  have nT : ∀ {b : Addr} {u : HO}, H b = some u → b ≠ a := fun {b u} e y => by rw [y, na] at e; cases e
  have n0 : ∀ b o, X.s_0.heap.get? b = some o → b ≠ a := fun b o e => by
    obtain ⟨o', q⟩ := J.base.there b o e (by rw [hx]; exact fun y => nomatch y)
    exact gone q
  refine ⟨I.ok, I.os, I.bare, ⟨I.base.keep, I.base.slot, fun b o e n hq => ?_, I.base.there, fun b xs e => ?_, fun b o u e => ?_, fun b ps e => ?_⟩, I.loc, I.cell, ?_, fun x c e => ?_, fun p hp => ?_, fun b u e => ?_, I.len⟩
  · rw [upd_ne (n0 b o e)]; exact I.base.free b o e n hq
  · have q := I.base.tups b xs e
    rw [upd_ne (nT q)]; exact q
  · have q := I.base.frzs b o u e
    rw [upd_ne (nT q)]; exact q
  · obtain ⟨m, q⟩ := I.base.tbls b ps e
    exact ⟨m, by rw [upd_ne (nT q)]; exact q⟩
  · obtain ⟨m, ⟨o, es, ep, ho, r⟩, hl⟩ := J.loc
    rw [upd_ne (gone ho)]; exact I.free
  · obtain ⟨v, o, ho, hv⟩ := J.cell x c e
    rw [upd_ne (gone ho)]; exact I.freeC x c e
  · obtain ⟨e, n, ne, nf, dd⟩ := I.pin p hp
    obtain ⟨e', _⟩ := J.pin p hp
    exact ⟨e, by rw [upd_ne (gone e')]; exact n, ne, nf, dd⟩
  · by_cases hb : b = a
    · subst hb
      rw [upd_same] at e
      cases e
      exact exK_ok he z hd
    · rw [upd_ne hb] at e
      exact (I.hok b u e).stay (fun c v _ q => q) (fun c q => by rw [upd_ne (nT q)]; exact q) fun c xs q => by rw [upd_ne (nT q)]; exact q
theorem suiteK (I : Inv X pins σ H s) (a : Addr) : Inv (X.suite a (X.pn ++ pins)) [] σ H s :=
  ⟨I.ok.suite _ _, I.os, I.bare, I.base, I.loc, I.cell, I.free, I.freeC, fun p hp => I.pin p (by rw [List.append_nil] at hp; exact hp), I.hok, I.len⟩
theorem unsuiteK {a : Addr} {pn' : List (Addr × Obj)} (I : Inv (X.suite a (X.pn ++ pins)) pn' σ H s) (ok : X.Ok) : Inv X pins σ H s :=
  ⟨ok, I.os, I.bare, I.base, I.loc, I.cell, I.free, I.freeC, fun p hp => I.pin p (List.mem_append_left _ hp), I.hok, I.len⟩
end
/-- what the clause 'except x as n' wishes of an exception of the body: it is tracked in the suite and behind -/
def wAsK (K : PySem.W.Frag) (c : Value) (i : Nat) (ts : TS) (Wout : WX) (D : Ends) : WX := fun cls d σ H =>
  ∃ b, PySem.W.exmOne K cls c = some b ∧ (b = true → ∀ a, H a = none → ts { nx := fun σ' H' => D.nx (σ'.set i none) H', rt := D.rt, bk := fun σ' H' => D.bk (σ'.set i none) H', ct := fun σ' H' => D.ct (σ'.set i none) H' } (σ.set i (some (.ref a))) (upd H a (exK a cls d))) ∧
    (b = false → Wout cls d σ H)
theorem r_catchK {K : PySem.W.Frag} {c cls : Value} {d : Option Addr} {i : Nat} {ts : TS} {Wo : WX} {D : Ends} {σ : L2.St} {H : Hp} (h : PySem.W.exmOne K cls c = some true)
    (k : ∀ a, H a = none → ts { nx := fun σ' H' => D.nx (σ'.set i none) H', rt := D.rt, bk := fun σ' H' => D.bk (σ'.set i none) H', ct := fun σ' H' => D.ct (σ'.set i none) H' } (σ.set i (some (.ref a))) (upd H a (exK a cls d))) : wAsK K c i ts Wo D cls d σ H :=
  ⟨true, h, fun _ => k, fun z => by cases z⟩
section
variable {X : Cx} {x n : Str} {c : Value} {i : Nat} {body suite : List Stmt} {b₀ : Stmt} {np pos pos' : Pos} {tb : WX → TS} {ts : TS} {Wout : WX}
set_option maxHeartbeats 8000000 in
theorem ps_try_asK (hs : X.stack = X.env :: X.outer) (hf : X.env.frame = some X.env.locals) (hx : X.ex = []) (hN : X.N.Nodup) (hi : X.N[i]? = some n) (hln : X.env.kindOf n = some .local) (hc : Names X x c) (tk : L2N.Takes X Wout)
    (hb : ∀ (W : WX) (pn : List (Addr × Obj)) (xe : Value → Shared → Prop), L2N.Takes (X.tr pn xe) W → PassesOwn (model X.prog X.w) X.A X.env xe → PSs (X.tr pn xe) body (tb W))
    (hsu : ∀ (a : Addr) (pn : List (Addr × Obj)), PSs (X.suite a pn) (b₀ :: suite) ts) :
    PS X (.Try body [.ExceptHandler (some (.Name x np)) (some n) (b₀ :: suite) pos'] [] [] pos) (fun D σ H => tb (wAsK X.K c i ts Wout D) D σ H) := by
  refine ⟨fun pins s σ H D I h => ?_⟩
  have ok := I.ok
  have hfr : X.A.frames = some (X.env :: X.outer) := by rw [ok.frames, hs]
  have hloc : Loc X.env.scope n := .inl hln
  refine wpAny_Try_except ?_
  refine wpAny_mono ((hb (wAsK X.K c i ts Wout D) (X.pn ++ pins) (fun e s₁ => wpAny (model X.prog X.w) X.A (noteFrame e X.env) (fun _ s₂ => wpAny (model X.prog X.w) X.A (setFlight e none) (fun _ s₃ =>
    wpAny (model X.prog X.w) X.A (handleBy e X.env [.ExceptHandler (some (.Name x np)) (some n) (b₀ :: suite) pos']) (SP X pins D) X.xe s₃) X.xe s₂) X.xe s₁) (fun u s' xx => ?_) PassesOwn.looking).run [] s σ H D (I.toTry _) h) (fun f s1 hsp => ?_) (fun e s1 he => he)
  · obtain ⟨a, B, sI, pins', σ', H', cls, d, rfl, J', nb, up, sky, na, os, ag, b, hb1, hyes, hno⟩ := xx
    have J : Inv X pins σ' H' sI := J'.ofTry ok
    have sky' : Sky B (X.env :: X.outer) a (L2N.Zn cls d) X.env.locals s'.heap := by rw [← hs]; exact sky
    show wpAny (model X.prog X.w) X.A (noteFrame (.ref a) X.env) _ _ _
    refine L2N.Sky.land L2N.Zn.steady hfr hf sky' fun h3 fl3 up3 => ?_
    have J3 : Inv X pins σ' H' { s' with heap := h3 } := J.landed nb fl3.1 (up.trans up3) os ag
    obtain ⟨oe3, vs3, he3, hz3, hd3⟩ := fl3.there
    have notFr : ∀ {h : Heap} {o : Obj} {vs : Array Value}, h.FunFrames B (X.env :: X.outer) → h.get? a = some o → o.data = .fields vs → a ∉ frs (X.env :: X.outer) := fun {h o vs} ff e dd hm => by
      obtain ⟨_, o', e', hnf⟩ := ff.mem hm
      rw [e] at e'; cases e'
      exact hnf _ dd
    have nfr := notFr fl3.2.2.1 he3 hd3
    have nL : a ≠ X.env.locals := fun z => nfr (List.mem_filterMap.mpr ⟨X.env, List.mem_cons_self, by rw [hf, z]⟩)
    have nF : a ∉ X.fs := fun hm => by
      obtain ⟨e, he, q⟩ := List.mem_filterMap.mp hm
      exact nfr (List.mem_filterMap.mpr ⟨e, List.mem_cons_of_mem _ he, q⟩)
    have ng : sI.heap.get? a = none := by
      cases q : sI.heap.get? a with
      | none => rfl
      | some o =>
        have z := nb a o q (by rw [hs]; exact nfr)
        rw [fl3.2.1] at z; cases z
    have S3 := J3.suite he3 hd3 na nL nF
    refine wpAny_handleBy_cons (codeAny_handlers_test ?_) (by intro q; cases q)
    have LT : PySem.W.Looks (model X.prog X.w) h3 (typeOf (.ref a)) cls := fun A Q E s k q => wpAny_typeOf_ref (k _ _ he3) (by rw [hz3.1]; exact q)
    have LM := PySem.W.exm_one (M := model X.prog X.w) (J3.kIn) LT hb1
    have test : ∀ {Q : Value → Shared → Prop} {E : Value → Shared → Prop}, Q c { s' with heap := h3 } → wpAny (model X.prog X.w) (X.A.mark (some (.ref a))) (eval (.Name x np) X.env) Q E { s' with heap := h3 } := fun {Q E} q => by
      obtain ⟨hg, hdbg, hm | ⟨hm, hv, hnn⟩⟩ := hc
      · exact ld_glob (X := X.suite a ((a, oe3) :: (X.pn ++ pins))) S3 hg hm q hdbg
      · exact ld_blt (X := X.suite a ((a, oe3) :: (X.pn ++ pins))) S3 hg hm hv q hnn hdbg
    refine test (LM.here ?_)
    cases b with
    | true =>
      refine codeAny_handlers_suite_as ?_
      refine HandSPX.lands_againZ fl3 fun h4 fl4 up4 => ?_
      have J4 : Inv X pins σ' H' { s' with heap := h4 } := J.landed nb fl4.1 ((up.trans up3).trans up4) os ag
      obtain ⟨oe4, vs4, he4, hz4, hd4⟩ := fl4.there
      have S4 := suiteK (trackK J4 J hx ng he4 hz4.zc hd4 na) a
      refine store_ok (X := X.suite a (X.pn ++ pins)) (v := .ref a) S4 hN hi hloc rfl (fun s5 S5 => ?_) (.inr hln)
      refine wpAny_mono ((hsu a (X.pn ++ pins)).run [] s5 _ _ _ S5 (hyes rfl a na)) (fun f s6 hsp => ?_) (fun _ _ z => False.elim z)
      have end_ : ∀ {σ6 : L2.St} {H6 : Hp} {Q : Shared → Prop}, Inv (X.suite a (X.pn ++ pins)) [] σ6 H6 s6 → (∀ s7, Inv X pins (σ6.set i none) H6 s7 → Q s7) →
          wpAny (model X.prog X.w) X.A (do bindName X.env n .none; unbindBehindTheSuite X.env n pos') (fun _ s7 => Q s7) X.xe s6 := fun {σ6 H6 Q} S6 hq => gone_ok (unsuiteK S6 ok) hN hi hln hq
      cases f with
      | next =>
        obtain ⟨σ6, H6, S6, q6⟩ := hsp
        exact end_ S6 fun s7 J7 => ⟨_, _, J7, q6⟩
      | brk =>
        obtain ⟨σ6, H6, S6, q6⟩ := hsp
        exact end_ S6 fun s7 J7 => ⟨_, _, J7, q6⟩
      | cont =>
        obtain ⟨σ6, H6, S6, q6⟩ := hsp
        exact end_ S6 fun s7 J7 => ⟨_, _, J7, q6⟩
      | ret u =>
        obtain ⟨v6, σ6, H6, S6, r6, q6⟩ := hsp
        exact end_ S6 fun s7 J7 => ⟨_, _, _, J7, r6, q6⟩
    | false =>
      show wpAny _ X.A (handleBy (.ref a) X.env []) _ _ _
      refine wpAny_handleBy_nil ?_
      obtain ⟨k1, k2, k3, oe, vs, T, oT, ts', he, hz, hd, h1, hr⟩ := id fl3
      unfold PySem.passOn
      refine wpAny_bind (wpAny_field he hd h1 ?_)
      rw [if_neg (show ¬ ((Value.ref T == Value.none) = true) from by simp)]
      have fin : wpAny (model X.prog X.w) X.A (setFlight (.ref a) X.env.frame) (fun _ s4 => wpAny (model X.prog X.w) X.A (throw (.ref a) : Sem Flow) (SP X pins D) X.xe s4) X.xe { s' with heap := h3 } := by
        rw [hf]
        refine HandSPX.setFlight_upZ fl3 fun h4 hh4 up4 => wpAny_throw (tk _ _ ?_)
        exact ⟨a, B, sI, pins, σ', H', cls, d, rfl, J, nb, (up.trans up3).trans up4, .inr (.inr (by rw [hs]; exact hh4)), na, os, ag, hno rfl⟩
      first
        | exact wpAny_bind (wpAny_pure (wpAny_bind fin))
        | exact wpAny_bind fin
  · cases f with
    | next =>
      obtain ⟨σ', H', J', q⟩ := hsp
      exact wpAny_execs_nil ⟨σ', H', J'.ofTry ok, q⟩
    | brk =>
      obtain ⟨σ', H', J', q⟩ := hsp
      exact ⟨σ', H', J'.ofTry ok, q⟩
    | cont =>
      obtain ⟨σ', H', J', q⟩ := hsp
      exact ⟨σ', H', J'.ofTry ok, q⟩
    | ret u =>
      obtain ⟨v, σ', H', J', r, q⟩ := hsp
      exact ⟨v, σ', H', J'.ofTry ok, r, q⟩
end
theorem pi_listK {X : Cx} {tg l : Expr} {tl : TE} (K : PySem.W.Frag) (hl : PE X l tl) (hK : X.K = K := by rfl) : PI X tg l (iList K tl) := by subst hK; exact pi_list hl
/-! isinstance of a kept exception, its fields -/
def rIsK (K : PySem.W.Frag) : List V → Hp → VK → Prop := fun xs H Q => ∃ (a D : Addr) (d : Option Addr) (c : V) (cv : Value) (b : Bool), xs = [.ref a, c] ∧ H a = some (exK a (.ref D) d) ∧ (∀ dd, d = some dd → ∃ fs, H dd = some (.xd fs)) ∧ ExcC K D ∧ (∀ u, RelV c u → u = cv) ∧ PySem.W.kitOne K (.ref D) cv = some b ∧ Q (.bl b) H
theorem call_isK {X : Cx} : CallR X (.builtin "isinstance") (rIsK X.K) := by
  intro pins s σ H xs us Q I r h
  obtain ⟨a, D, d, c, cv, b, rfl, ha, hdd, C, hcv, e, q⟩ := h
  cases r with
  | cons rx rr =>
    cases rr with
    | cons rt rr =>
      cases rr; cases rx
      have ec := hcv _ rt; subst ec
      obtain ⟨oe, vs, hget, hz, hv⟩ := exK_at I.hok ha
      have hcl : (PySem.W.clsIn X.K D).isSome = true := by
        obtain ⟨cd, hc, _⟩ := PySem.W.any_some C.hd
        rw [hc]; rfl
      have J : ∃ od, PySem.W.InstAt s.heap a oe D od := by
        cases d with
        | none => exact ⟨none, hget, hz.1, by unfold PySem.W.notCls; rw [hv] <;> rfl, by rw [hz.2]; trivial⟩
        | some dd =>
          obtain ⟨fs, hfs⟩ := hdd dd rfl
          obtain ⟨mA, hns, _⟩ := (show ObjOk X.prog X.w H s.heap dd (.xd fs) from I.hok dd _ hfs)
          obtain ⟨od, ho, hl⟩ := lookIn_ns hns
          exact ⟨some od, hget, hz.1, by unfold PySem.W.notCls; rw [hv] <;> rfl, by rw [hz.2]; exact ho⟩
      obtain ⟨od, J⟩ := J
      exact PySem.W.kia_one (PySem.W.kitx_exc (od := od) hcl C.hg C.hk C.hs C.ha C.hn C.ht C.hm) I.kIn J e (fun z => nomatch z) fun tk => ⟨.bl b, H, I.kept (t' := tk) fun _ _ z => z, rfl, q⟩
section
variable {K : PySem.W.Frag} {D C a : Addr} {n : String} {H : Hp} {Q : VK} {b : Bool} {σ : L2.St}
theorem v_isK {d : Option Addr} (ha : H a = some (exK a (.ref D) d)) (hd : ∀ dd, d = some dd → ∃ fs, H dd = some (.xd fs)) (hc : ExcC K D) (h : PySem.W.kitOne K (.ref D) (.ref C) = some b) (k : Q (.bl b) H) : rIsK K [.ref a, .ref C] H Q := ⟨a, D, d, .ref C, .ref C, b, rfl, ha, hd, hc, fun _ r => r, h, k⟩
theorem v_isKT {d : Option Addr} (ha : H a = some (exK a (.ref D) d)) (hd : ∀ dd, d = some dd → ∃ fs, H dd = some (.xd fs)) (hc : ExcC K D) (h : PySem.W.kitOne K (.ref D) (.type n) = some b) (k : Q (.bl b) H) : rIsK K [.ref a, .ty n] H Q := ⟨a, D, d, .ty n, .type n, b, rfl, ha, hd, hc, fun _ r => r, h, k⟩
end
/-- x.f of a kept exception -/
def tXfK (C : Addr) (f : Str) (te : TE) : TE := fun σ H Q => te σ H fun x H1 => ∃ (a dd : Addr) (fs : List (Str × V)) (v : V), x = .ref a ∧ H1 a = some (exK a (.ref C) (some dd)) ∧ H1 dd = some (.xd fs) ∧ fs.lookup f = some v ∧ Q v H1
theorem pe_xfK {X : Cx} {C : Addr} {e : Expr} {te : TE} {pos : Pos} {n : Str} (T : XfC X.K C) (hno : PySem.W.findIn X.K (.ref C) n = some none)
    (he : PE X e te) (hb : attributeBase e n X.env (eval e X.env) = eval e X.env := by rfl) : PE X (.Attribute e n pos) (tXfK C n te) := by
  refine ⟨fun pins s σ H Q I h => attr_of hb (thn (he.run pins s σ H _ I h) fun u s1 hh => ?_)⟩
  obtain ⟨x, H1, I1, rx, a, dd, fs, v, ex, ea, ed, l, q⟩ := hh
  subst ex
  obtain rfl : u = Value.ref a := rx
  obtain ⟨oe, vs, ha, hz, hd⟩ := exK_at I1.hok ea
  have hx : ObjOk X.prog X.w H1 s1.heap dd (.xd fs) := I1.hok dd _ ed
  obtain ⟨mA, hns, hr⟩ := hx
  obtain ⟨od, ho, hl⟩ := lookIn_ns hns
  obtain ⟨u, hu, ru⟩ := RelO.some_of (v := v) (o := mA n) (by rw [← l]; exact hr n)
  have J : PySem.W.InstAt s1.heap a oe C (some od) := ⟨ha, hz.1, by unfold PySem.W.notCls; rw [hd] <;> rfl, by rw [hz.2]; exact ho⟩
  exact HandSPX.exc_get I1.kIn J T.ga T.gg T.exC (PySem.W.findObj_own T.hdC hno rfl (by rw [hl, hu])) (handed_of ru) ⟨v, H1, I1.tok _, ru, q⟩
def kXfK (C : Addr) (f : Str) (Q : VK) : VK := fun x H1 => ∃ (a dd : Addr) (fs : List (Str × V)) (v : V), x = .ref a ∧ H1 a = some (exK a (.ref C) (some dd)) ∧ H1 dd = some (.xd fs) ∧ fs.lookup f = some v ∧ Q v H1
section
variable {σ : L2.St} {H : Hp} {Q : VK} {C a d : Addr} {f : Str} {fs : List (Str × V)} {v : V} {te : TE}
theorem r_xfK (h : te σ H (kXfK C f Q)) : tXfK C f te σ H Q := h
theorem v_xfK (ha : H a = some (exK a (.ref C) (some d))) (h : H d = some (.xd fs)) (l : fs.lookup f = some v) (k : Q v H) : kXfK C f Q (.ref a) H := ⟨a, d, fs, v, rfl, ha, h, l, k⟩
end
/-! exceptions made, not raised -/
def tExc0 (C : Addr) : TE := fun _ H Q => ∀ a, H a = none → Q (.ref a) (upd H a (exK a (.ref C) none))
/-- C(e, ..), with an own __init__ -/
def tMkK (C : Addr) (sp : Sp) (dvs : List V) (t : TA) : TE := fun σ H Q => t σ H fun vs H1 => vs.length ≤ 1000 ∧ ∀ a, H1 a = none → sp (.ref a :: (vs ++ dvs)) (upd H1 a (exo a C none))
  (fun v H2 => v = .non ∧ ∃ (d : Addr) (fs : List (Str × V)), H2 a = some (exo a C (some d)) ∧ H2 d = some (exd d fs) ∧ H1 d = none ∧ Q (.ref a) (upd (upd (del H2 a) d (.xd fs)) a (exK a (.ref C) (some d)))) (fun _ _ _ => False)
section
variable {X : Cx} {CX : CXT} {k j : Nat} {C : Addr} {sp : Sp} {x : Str} {p pos : Pos} {e : Expr} {es : List Expr} {t : TA}
set_option maxHeartbeats 8000000 in
theorem pe_mkK (c : CalE X.prog X.w X.K X.mg X.base j x C sp) (hr : Room k X.A) (hg : Gl X x) (ha : PA X (e :: es) t) (hk : j + 1 ≤ k := by decide)
    (hdb : (x == ("__debug__" : Str)) = false := by decide) (he : starEach (e :: es) X.env = (false, eval e X.env) :: starEach es X.env := by rfl) (hpl : (backTo pos (starEach es X.env)).any (·.1) = false := by rfl) :
    PE X (.Call (.Name x p) (e :: es) [] pos) (tMkK C sp [] t) := by
  obtain ⟨fI, fd, ps, hm, iC, tI, hb, F1⟩ := c.ex; have T := c.ox
  refine ⟨fun pins s σ H Q I h => ?_⟩
  obtain ⟨nm, q, N, bs, bm, sn, sub, ab, col, dd, k0, k1, k2, k3, k5, hC, hbm⟩ := c.ox.cls
  refine wpAny_Call_Name_kw (ld_glob I hg hm (PySem.W.callWith_K (h₀ := X.base) I.ok.mod.kin T.kC (thn (ha.run pos pins s σ H _ I h) fun us s1 ⟨vs, H1, I1, r1, hz, q1⟩ => ⟨I1.kIn, ?_⟩) he hpl) hdb)
  show wpAny _ _ (call (.ref C) us) _ _ _; obtain ⟨hp, g, dr, tk, os⟩ := s1
  have hsz : hp.objs.size ≤ hp.objs.size + 1 := Nat.le_succ _; have hn : H1 (hp.objs.size + 1) = none := I1.hok.fresh hsz
  have hq := q1 (hp.objs.size + 1) hn; rw [List.append_nil] at hq
  have kk : ∀ b o, hp.get? b = some o → ((hp.push (PySem.W.kdv_tup us)).push (PySem.HandSPX.excO C hp.objs.size)).get? b = some o := fun b o e => by exact Heap.get?_push_of_some _ (Heap.get?_push_of_some _ e)
  have hget : ((hp.push (PySem.W.kdv_tup us)).push (PySem.HandSPX.excO C hp.objs.size)).get? (hp.objs.size + 1) = some (PySem.HandSPX.excO C hp.objs.size) := by (heap_get)
  have I2 : Inv X pins σ (upd H1 (hp.objs.size + 1) (exo (hp.objs.size + 1) C none)) ⟨(hp.push (PySem.W.kdv_tup us)).push (PySem.HandSPX.excO C hp.objs.size), g, dr, tk, os⟩ := by
    exact I1.laid (t' := tk) (a := hp.objs.size + 1) (o := exo (hp.objs.size + 1) C none) (h' := (hp.push (PySem.W.kdv_tup us)).push (PySem.HandSPX.excO C hp.objs.size)) kk hsz (exo_ok hget)
  have r2 : Vals (V.ref (hp.objs.size + 1) :: vs) (Value.ref (hp.objs.size + 1) :: us) := .cons rfl r1
  have hl : (Value.ref (hp.objs.size + 1) :: us ++ []).length = ps.length := by have e := r2.length; rw [F1.len _ _ _ _ hq] at e; rw [List.append_nil]; exact e.symm
  have hus : us.length ≤ sizeLine := by rw [← Paired.length r1, sizeLine_eq]; omega
  have b2 := hb _ (Value.ref (hp.objs.size + 1) :: us) I2.kIn hl; rw [List.append_nil] at b2
  refine wpAny_call (PySem.HandSPX.call_own F.excBase_ValueError (fun Y => PySem.HandSPX.refsVE_contains Y bm hbm) (I1.kIn _ _ hC) (PySem.W.looks_findIn I1.kIn iC) (fun self => PySem.W.bind_fn I1.kIn self tI) hus
    (codeAny_mono (F1.run _ X.stack _ _ ⟨Value.ref (hp.objs.size + 1) :: us, []⟩ (Value.ref (hp.objs.size + 1) :: us) _ _ (fun _ _ _ => False) ((hr.mono hk).make C us []) (I2.env0.make C us []) b2 r2 hq) fun r s' hq' => ?_))
  match r, hq' with
  | .error er, hq' => exact False.elim hq'
  | .ok .next, hq' => exact False.elim hq'
  | .ok .brk, hq' => exact False.elim hq'
  | .ok .cont, hq' => exact False.elim hq'
  | .ok (.ret u), hq' =>
    obtain ⟨v, H2, os2, bare2, un2, hok2, rv, ev, d, fs, ea, ed, hd1, q2⟩ := hq'; subst ev
    obtain ⟨h2, g2, d2, t2, os'⟩ := s'; obtain ⟨t0, G, J, kG, ge, hoe, na⟩ := mk_end0 (d2 := d2) (t2 := t2) I1 hsz kk un2 hok2 os2 bare2 ea ed hd1
    exact ⟨rv, ⟨.ref (hp.objs.size + 1), _, J.laidN (t' := t2) kG ge na (exK_ok hoe ⟨rfl, rfl⟩ rfl), rfl, q2⟩⟩
/-- C(): a class without an own __init__ -/
theorem pe_exc0K {bmB : List Value} {B newId initId : String} (F : ExcBaseFacts B newId initId bmB) (q : PySem.W.excIn X.K C bmB newId = true) (gC : X.mg x = some (.ref C)) (kC : PySem.W.keepIn X.K (.ref C) = true) (hg : Gl X x)
    (hdb : (x == ("__debug__" : Str)) = false := by decide) :
    PE X (.Call (.Name x p) [] [] pos) (tExc0 C) := by
  refine ⟨fun pins s σ H Q I h => ?_⟩
  refine wpAny_Call_Name_kw (ld_glob I hg gC ?_ hdb)
  refine PySem.W.callWith_K0 I.kIn kC ?_
  show wpAny _ _ (call (.ref C) []) _ _ _
  obtain ⟨bm, N, nm, qn, bs, hdct, sn, sub, ab, col, dd, k0, k1, k2, k3, k5, mN, hC, hN, hni, T⟩ := exc_obj I.kIn q
  refine wpAny_call_exc_subT F T hC hN hni (fun h' a hm => ?_) (by show 0 ≤ sizeLine; omega)
  have hn : H a = none := I.hok.gone hm.new
  obtain ⟨t, ht, _, _⟩ := hm.there
  exact ⟨.ref a, upd H a (exK a (.ref C) none), I.laidN hm.keeps hm.new hn (exK_ok ht ⟨rfl, rfl⟩ rfl), rfl, h a hn⟩
end
section
variable {σ : L2.St} {H : Hp} {Q : VK} {C : Addr} {sp : Sp} {dvs : List V} {t : TA} {f : Str} {v : V}
theorem r_exc0 (h : ∀ a, H a = none → Q (.ref a) (upd H a (exK a (.ref C) none))) : tExc0 C σ H Q := h
def kMkK (C : Addr) (sp : Sp) (dvs : List V) (Q : VK) : List V → Hp → Prop := fun vs H1 => vs.length ≤ 1000 ∧ ∀ a, H1 a = none → sp (.ref a :: (vs ++ dvs)) (upd H1 a (exo a C none))
  (fun v H2 => v = .non ∧ ∃ (d : Addr) (fs : List (Str × V)), H2 a = some (exo a C (some d)) ∧ H2 d = some (exd d fs) ∧ H1 d = none ∧ Q (.ref a) (upd (upd (del H2 a) d (.xd fs)) a (exK a (.ref C) (some d)))) (fun _ _ _ => False)
theorem r_mkK (h : t σ H (kMkK C sp dvs Q)) : tMkK C sp dvs t σ H Q := h
/-- a class with one field, made -/
theorem v_mk1 (q : ∀ a d, H a = none → H d = none → d ≠ a → Q (.ref a) (upd (upd H d (.xd [(f, v)])) a (exK a (.ref C) (some d)))) : kMkK C (sp1 f C) [] Q [v] H := by
  refine ⟨by simp, fun a ha => ⟨a, v, rfl, upd_same, fun dx hdx hne => ⟨rfl, dx, _, upd_same, by rw [upd_ne hne]; exact upd_same, (upd_free hdx).1, ?_⟩⟩⟩
  have hd := (upd_free hdx).1
  have e : upd (upd (del (upd (upd (upd H a (exo a C none)) dx (exd dx [(f, v)])) a (exo a C (some dx))) a) dx (.xd [(f, v)])) a (exK a (.ref C) (some dx)) = upd (upd H dx (.xd [(f, v)])) a (exK a (.ref C) (some dx)) := by
    funext b
    by_cases c2 : b = a
    · rw [c2, upd_same, upd_same]
    · rw [upd_ne c2, upd_ne c2]
      by_cases c1 : b = dx
      · rw [c1, upd_same, upd_same]
      · rw [upd_ne c1, upd_ne c1, del_ne c2, upd_ne c2, upd_ne c1, upd_ne c2]
  rw [e]
  exact q a dx ha hd hne
end
end SH

set_option Elab.async false
set_option linter.all false
set_option maxRecDepth 100000
set_option maxHeartbeats 4000000
/-! SHU: list comprehensions whose element (or test) lets an exception out of a call (L2N) -/
namespace SH
open PySem PySem.Spec PyProof.Rows L2
/-- the block's context with a way for what is raised -/
abbrev blkX (X : Cx) (s : Shared) (H : Hp) (scope : Scope) (cenv : Env) (fp : List Addr) (xe : Value → Shared → Prop) : Cx := { X.blk s H scope cenv fp with xe := xe }
theorem blk_in {X : Cx} {s0 : Shared} {H0 : Hp} {scope : Scope} {ce : Env} {fp : List Addr} {xe : Value → Shared → Prop} {pins : List (Addr × Obj)} {σ : L2.St} {H : Hp} {s : Shared}
    (I : Inv (X.blk s0 H0 scope ce fp) pins σ H s) : Inv (blkX X s0 H0 scope ce fp xe) pins σ H s :=
  ⟨⟨I.ok.mod, I.ok.kind, I.ok.glob, I.ok.blt, I.ok.above, I.ok.inj, I.ok.has, I.ok.cab, I.ok.hd, I.ok.frames, I.ok.stk, I.ok.exf, I.ok.bs, I.ok.bsz, I.ok.noex, I.ok.exfs, I.ok.funs, I.ok.frf⟩, I.os, I.bare, I.base, I.loc, I.cell, I.free, I.freeC, I.pin, I.hok, I.len⟩
theorem blk_out {X : Cx} {s0 : Shared} {H0 : Hp} {scope : Scope} {ce : Env} {fp : List Addr} {xe : Value → Shared → Prop} {pins : List (Addr × Obj)} {σ : L2.St} {H : Hp} {s : Shared}
    (I : Inv (blkX X s0 H0 scope ce fp xe) pins σ H s) : Inv (X.blk s0 H0 scope ce fp) pins σ H s :=
  ⟨⟨I.ok.mod, I.ok.kind, I.ok.glob, I.ok.blt, I.ok.above, I.ok.inj, I.ok.has, I.ok.cab, I.ok.hd, I.ok.frames, I.ok.stk, I.ok.exf, I.ok.bs, I.ok.bsz, I.ok.noex, I.ok.exfs, I.ok.funs, I.ok.frf⟩, I.os, I.bare, I.base, I.loc, I.cell, I.free, I.freeC, I.pin, I.hok, I.len⟩

section
variable {X : Cx} {pins : List (Addr × Obj)} {σ : L2.St} {H H' : Hp} {s s' : Shared} {B : Heap} {W : WX} {a : Addr} {cls : Value} {d : Option Addr}
/-- an exception in our air from what a call left -/
theorem air (I : Inv X pins σ H s) (hok : HOk X.prog X.w H' B) (ub : UB (frs X.stack) H H' s.heap B s'.heap) (st : B.StaysIn s'.heap) (sky : Sky B X.stack a (L2N.Zn cls d) X.env.locals s'.heap)
    (na : H' a = none) (os : s'.os = s.os) (ag : AllBare s'.gens) (w : W cls d σ H') : L2N.XE X W (.ref a) s' := by
  obtain ⟨G, g1, g2⟩ := restrict s'.heap fun b => (B.get? b).isSome || decide (b ∈ frs X.stack)
  have gB : ∀ b o, B.get? b = some o → G.get? b = some o := fun b o e => (g1 b (by simp [e])).trans (st b o e)
  have gF : ∀ b, b ∈ frs X.stack → G.get? b = s'.heap.get? b := fun b hb => g1 b (by simp [hb])
  have og : ∀ b o, G.get? b = some o → s'.heap.get? b = some o ∧ (b ∉ frs X.stack → B.get? b = some o) := fun b o e => by
    cases q : ((B.get? b).isSome || decide (b ∈ frs X.stack)) with
    | false => rw [g2 b q] at e; cases e
    | true =>
      rw [g1 b q] at e
      refine ⟨e, fun nb => ?_⟩
      have q : (B.get? b).isSome = true := by simpa [nb] using q
      obtain ⟨o', q⟩ := Option.isSome_iff_exists.mp q
      rw [st b o' q] at e
      rw [q]; exact e
  refine ⟨a, B, { s with heap := G, gens := s'.gens, drawn := s'.drawn, toks := s'.toks }, pins, σ, H', cls, d, rfl, ?_, fun b o e hb => (og b o e).2 hb, Heap.UpToSlots.of_keeps fun b o e => (og b o e).1, sky, na, os, ag, w⟩
  refine I.call (ch := []) ⟨fun b o e n hb _ => gB b o (ub.keep b o e n hb), fun b o e n hb _ => ?_, fun b o e n _ => ub.free b o e n, fun b o e _ => ?_, ub.tups, ub.frzs, ub.tbls⟩ (hok.kept gB) ag (fun _ z => nomatch z)
  · obtain ⟨sl, q⟩ := ub.slot b o e hb
    exact ⟨sl, (gF b hb).trans q⟩
  · by_cases hb : b ∈ frs X.stack
    · obtain ⟨sl, q⟩ := ub.slot b o e hb
      exact ⟨_, (gF b hb).trans q⟩
    · obtain ⟨o', q⟩ := ub.there b o e hb
      exact ⟨o', gB b o' q⟩
end

theorem hid1_get {h : Heap} {C b : Addr} {o : Obj} (e : h.get? b = some o) (n : b ≠ C) : (PySem.W.hideAll h [C]).get? b = some o := PySem.W.hideAll_get _ e (by simpa using n)
theorem hid1_of {h : Heap} {C b : Addr} {o : Obj} (e : (PySem.W.hideAll h [C]).get? b = some o) : h.get? b = some o ∧ b ≠ C :=
  ⟨PySem.W.of_hideAll _ e, fun z => by rw [z, PySem.W.hideAll_none _ (List.mem_singleton.mpr rfl)] at e; cases e⟩
theorem hok_hid {P : Program} {w : World} {H : Hp} {h : Heap} {C : Addr} (x : HOk P w H h) (n : H C = none) : HOk P w H (PySem.W.hideAll h [C]) := fun b o q =>
  (x b o q).stay (fun c u hc r => hid1_get r fun z => by
    rcases hc with hc | hc
    · rw [← hc, z, n] at q; cases q
    · rw [z, n] at hc; cases hc) (fun _ r => r) fun _ _ r => r

section
variable {X : Cx} {pins : List (Addr × Obj)} {σ : L2.St} {W : WX}
theorem pass_blk {s3 : Shared} {H3 : Hp} {scope : Scope} {ce : Env} {fp : List Addr} (I3 : Inv X pins σ H3 s3) (hs : X.stack = X.env :: X.outer) (hf : X.env.frame = some X.env.locals) (hcf : ce.frame = X.env.frame) (tk : L2N.Takes X W)
    (hfp : ∀ b ∈ fp, (b ∈ X.ex ∨ X.s_0.heap.objs.size ≤ b) ∧ b ≠ X.env.locals ∧ (∀ x c, X.env.cells.lookup x = some c → c ≠ b) ∧ ∀ p ∈ X.pn ++ pins, p.1 ≠ b) (σ' : L2.St) :
    PassesAt (L2N.CX X.prog X.w) (blkX X s3 H3 scope ce fp (notedBy (model X.prog X.w) X.A ce (CompFails (model X.prog X.w) X.A X.xe ce))) σ' (fun cls d H => W cls d σ H) := by
  intro pins' Hc sc e s' J c
  have hfr : X.A.frames = some (X.env :: X.outer) := by rw [I3.ok.frames, hs]
  obtain ⟨a, B, H', cls, d, rfl, fl, hok, ub, na, os, ag, hE⟩ := c
  have hC : s3.heap.objs.size ≤ ce.locals := J.ok.above
  have nC : Hc ce.locals = none := J.free
  have fC : ce.locals ∉ frs X.stack := fun hb => by
    obtain ⟨_, o, e, _⟩ := I3.stack.mem hb
    exact absurd (Nat.lt_of_lt_of_le (Heap.lt_size e) hC) (Nat.lt_irrefl _)
  obtain ⟨m, hn, _⟩ := J.loc
  have hn : sc.heap.Ns ce.locals m := hn
  have hn' : s'.heap.Ns ce.locals m := by
    obtain ⟨o, es, ep, ho, r⟩ := hn
    exact ⟨o, es, ep, fl.1 _ _ (ub.keep _ _ ho nC fC), r⟩
  have nC' : H' ce.locals = none := by
    obtain ⟨o, es, ep, ho, r⟩ := hn
    exact ub.free _ _ ho nC
  -- the call as the def's own, the block's names left out
  have Ic : Inv X pins σ Hc { sc with heap := PySem.W.hideAll sc.heap [ce.locals] } := by
    refine I3.call' (ch := fp) J.os ⟨fun b o e n hb hx => hid1_get (J.base.keep b o e n hb hx) (Nat.ne_of_lt (Nat.lt_of_lt_of_le (Heap.lt_size e) hC)), fun b o e n hb hx => ?_, J.base.free, fun b o e hx => ?_, J.base.tups, J.base.frzs, J.base.tbls⟩ (hok_hid J.hok nC) J.bare hfp
    · obtain ⟨sl, q⟩ := J.base.slot b o e n hb hx
      exact ⟨sl, hid1_get q (Nat.ne_of_lt (Nat.lt_of_lt_of_le (Heap.lt_size e) hC))⟩
    · obtain ⟨o', q⟩ := J.base.there b o e hx
      exact ⟨o', hid1_get q (Nat.ne_of_lt (Nat.lt_of_lt_of_le (Heap.lt_size e) hC))⟩
  have fl2 : HandSPX.FlyingZ (PySem.W.hideAll B [ce.locals]) (X.env :: X.outer) a (L2N.Zn cls d) s'.heap := by
    rw [← hs]
    obtain ⟨f1, f2, f3, oe, vs, T, oT, ts, he, hz, hd, h1, hnT, r⟩ := fl
    have no : ∀ b, B.get? b = none → (PySem.W.hideAll B [ce.locals]).get? b = none := fun b h => by
      cases q : (PySem.W.hideAll B [ce.locals]).get? b with
      | none => rfl
      | some o => rw [(hid1_of q).1] at h; cases h
    refine ⟨fun b o e => f1 b o (hid1_of e).1, no _ f2, ?_, oe, vs, T, oT, ts, he, hz, hd, h1, no _ hnT, r⟩
    have go : ∀ l, s'.heap.FunFrames B l → s'.heap.FunFrames (PySem.W.hideAll B [ce.locals]) l := by
      intro l
      induction l with
      | nil => intro _; trivial
      | cons x r ih => exact fun ⟨k, ⟨L, o, h1, h2, h3⟩, q⟩ => ⟨k, ⟨L, o, h1, no _ h2, h3⟩, ih q⟩
    exact go _ f3
  show wpAny (model X.prog X.w) X.A (noteFrame (.ref a) ce) _ _ s'
  rw [noteFrame_env _ hcf]
  refine PXN.looks_onZ L2N.Zn.steady hfr hf fl2 fun h1 hh1 up1 => ?_
  refine ⟨m, hn'.upToSlots up1, fun h2 m2 hn2 sb2 => ?_⟩
  have sb : ∀ b, b ≠ ce.locals → ∀ o, h1.get? b = some o → h2.get? b = some o := fun b hb o e => (sb2.2 b hb).trans e
  have hnf : ∀ b o vs, h1.get? b = some o → o.data = .fields vs → b ≠ ce.locals := fun b o vs e hd z => by
    obtain ⟨o', es, ep, e', hd', _⟩ := hn'.upToSlots up1
    rw [z] at e; rw [show h1.get? ce.locals = some o' from e'] at e; cases e
    rw [hd'] at hd; cases hd
  have hh2 : HandSPX.HeldZ (PySem.W.hideAll B [ce.locals]) (X.env :: X.outer) a (L2N.Zn cls d) X.env.locals h2 := by
    obtain ⟨f1, f2, f3, oe, vs, T, oT, ts, he, hz, hd, h1', hnT, hTe, hT, hdT, h3⟩ := hh1
    exact ⟨fun b o e => sb b (hid1_of e).2 o (f1 b o e), f2, Heap.FunFrames.sameBut sb2 hn2 f3, oe, vs, T, oT, ts, sb _ (hnf _ _ _ he hd) _ he, hz, hd, h1', hnT, hTe, sb _ (hnf _ _ _ hT hdT) _ hT, hdT, h3⟩
  obtain ⟨k1, k2, k3, oe, vs, T, oT, ts, he, hz, hd, hv1, hr⟩ := id hh2
  unfold PySem.passOn
  refine wpAny_bind (wpAny_field he hd hv1 ?_)
  rw [if_neg (show ¬ ((Value.ref T == Value.none) = true) from by simp)]
  have fin : wpAny (model X.prog X.w) X.A (setFlight (.ref a) ce.frame) (fun _ s4 => wpAny (model X.prog X.w) X.A (throw (.ref a) : Sem Value) (fun _ _ => False) X.xe s4) X.xe { s' with heap := h2 } := by
    rw [hcf, hf]
    refine HandSPX.setFlight_onZ hh2 fun h3 hh3 up3 => wpAny_throw (tk _ _ ?_)
    refine air (s := { sc with heap := PySem.W.hideAll sc.heap [ce.locals] }) (s' := { s' with heap := h3 }) (B := PySem.W.hideAll B [ce.locals]) Ic (hok_hid hok nC') ⟨fun b o e n hb => hid1_get (ub.keep b o (hid1_of e).1 n hb) (hid1_of e).2, fun b o e hb => ?_, fun b o e => ub.free b o (hid1_of e).1, fun b o e hb => ?_, ub.tups, ub.frzs, ub.tbls⟩
      hh3.1 (.inr (.inr (by rw [hs]; exact hh3))) na os ag hE
    · obtain ⟨_, o₀, e₀, nf⟩ := Ic.stack.mem hb
      have e₀ : (PySem.W.hideAll sc.heap [ce.locals]).get? b = some o₀ := e₀
      rw [e] at e₀; cases e₀
      obtain ⟨sl, q⟩ := ub.slot b o (hid1_of e).1 hb
      obtain ⟨sl1, q1⟩ := up1 b _ q nf
      obtain ⟨sl3, q3⟩ := up3 b _ (sb b (hid1_of e).2 _ q1) nf
      exact ⟨sl3, q3⟩
    · obtain ⟨o', q⟩ := ub.there b o (hid1_of e).1 hb
      exact ⟨o', hid1_get q (hid1_of e).2⟩
  first
    | exact wpAny_bind (wpAny_pure (wpAny_bind fin))
    | exact wpAny_bind fin
end

section
variable {X : Cx}
/-- as tLc; what a test or an element lets out is wished for with the def's slots -/
def tLcX (W : WX) (wi : TI) (g : TG) (tt : WX → TT) (te : WX → TE) (vs : List Nat) : TE := fun σ H Q => tLc wi g (tt fun c d _ H' => W c d σ H') (te fun c d _ H' => W c d σ H') vs σ H Q
/-- a block that may let an exception out -/
def HotBlk (X' : Cx) (W : WX) : Prop := ∀ σ, PassesAt (L2N.CX X'.prog X'.w) X' σ (WE W σ)
theorem lcX_core {pins : List (Addr × Obj)} {s : Shared} {σ : L2.St} {H : Hp} {Q : VK} {elt tg iter : Expr} {ifs : List Expr} {scope : Scope} {own : List (Str × Nat)} {pos pos' : Pos} {wi : TI} {g : TG} {tt : WX → TT} {te : WX → TE} {W : WX} {use : Option (Value → Sem Unit)} {Qf : Value → Shared → Prop}
    (hc : X.calm = true) (hN : X.N.Nodup) (hs : X.stack = X.env :: X.outer) (hf : X.env.frame = some X.env.locals) (tk : L2N.Takes X W) (I : Inv X pins σ H s) (hi : PI X tg iter wi) (ok : BlkOk X.N X.env.scope scope own)
    (hg : ∀ (s : Shared) (H : Hp) (C : Addr) (cl : List (Str × Addr)) (fp : List Addr), PG (X.blk s H scope (compEnvC scope cl C X.env) fp) tg g)
    (ht : ∀ (s : Shared) (H : Hp) (C : Addr) (cl : List (Str × Addr)) (fp : List Addr) (xe : Value → Shared → Prop) (Wb : WX), HotBlk (blkX X s H scope (compEnvC scope cl C X.env) fp xe) Wb → PTs (blkX X s H scope (compEnvC scope cl C X.env) fp xe) ifs (tt Wb))
    (he : ∀ (s : Shared) (H : Hp) (C : Addr) (cl : List (Str × Addr)) (fp : List Addr) (xe : Value → Shared → Prop) (Wb : WX), HotBlk (blkX X s H scope (compEnvC scope cl C X.env) fp xe) Wb → PE (blkX X s H scope (compEnvC scope cl C X.env) fp xe) elt (te Wb))
    (hfs : ∀ x, foldedSetIterable iter X.env x = pure x) (h : tLcX W wi g tt te (own.map (·.2)) σ H Q)
    (hRR : ∀ D C s' m H', Inv X pins σ H' s' → Q (.ref D) H' → s'.heap.Ns C m → FpOk X pins H' C → compPost (model X.prog X.w) X.A X.xe use Qf (.ref D) C (.ok .next) s') :
    wpAny (model X.prog X.w) X.A (comprehension (.ListComp elt [⟨tg, iter, ifs, 0⟩] scope pos) scope X.env pos' (newList []) false (eval iter X.env) use) Qf X.xe s := by
  have hfree : ∀ y ∈ scope.names, y.2 = .free → ∃ c, X.env.cells.lookup y.1 = some c := fun y hy e => by
    rcases ok.free y hy e with k | k
    · exact I.ok.has _ (.inl k)
    · exact I.ok.has _ (.inr k)
  refine comprehension_at (use := use) rfl hfs (closure_ok hfree) ok.kind (fun y hy e => by rw [ok.uniq y hy, e]) (thn (hi.run pins s σ H _ I h) fun xv s1 hx => thn hx fun itv s2 h2 => ?_)
  obtain ⟨it, fp, tn, J, H2, e, I2, T, st2, f2, q⟩ := h2
  subst e
  refine wpAny_newObj_type (newEnv_comp ?_) (by show 0 ≤ sizeLine; decide)
  generalize hD : s2.heap.objs.size = D
  have hDn : H2 D = none := I2.hok.fresh (Nat.le_of_eq hD)
  obtain ⟨Wt, ⟨m0, w0⟩, turn⟩ := q D hDn
  generalize hs3 : ({ s2 with heap := s2.heap.push { cls := .type "list", data := .seq ([] : List Value).toArray } } : Shared) = s3
  have I3 : Inv X pins σ (upd H2 D (.lst [])) s3 := by
    rw [← hs3]
    refine I2.laid (t' := s2.toks) (fun b o e => Heap.get?_push_of_some _ e) (Nat.le_of_eq hD) ⟨Nat.zero_le _, [], 0, .nil, ?_⟩
    rw [← hD]
    exact Heap.get?_push_size _ rfl
  have h3 : s3.heap = s2.heap.push { cls := .type "list", data := .seq ([] : List Value).toArray } := by rw [← hs3]
  have f3 : ∀ b ∈ fp, FpOk X pins (upd H2 D (.lst [])) b ∧ b < s3.heap.objs.size := fun b hb => by
    obtain ⟨o, e, _⟩ := T.obj _ _ st2 b hb
    have hlt := Heap.lt_size e
    refine ⟨⟨?_, (f2 b hb).2⟩, by rw [h3, Heap.size_push]; exact Nat.lt_succ_of_lt hlt⟩
    rw [upd_ne (by rw [← hD]; exact Nat.ne_of_lt hlt)]
    exact (f2 b hb).1
  have st3 : tn 0 s3.heap := T.keep _ _ _ st2 fun b _ o e => by rw [h3]; exact Heap.get?_push_of_some _ e
  have I4 := block_start I3 ok hN f3
  have hch : ∀ b ∈ fp, (b ∈ X.ex ∨ X.s_0.heap.objs.size ≤ b) ∧ b ≠ X.env.locals ∧ (∀ x c, X.env.cells.lookup x = some c → c ≠ b) ∧ ∀ p ∈ X.pn ++ pins, p.1 ≠ b :=
    fun b hb => ⟨(f3 b hb).1.2.2.2.1, (f3 b hb).1.2.1, (f3 b hb).1.2.2.2.2.1, (f3 b hb).1.2.2.2.2.2⟩
  have pg := hg s3 (upd H2 D (.lst [])) s3.heap.objs.size (cellsFrom (s3.heap.objs.size + 1) scope.names (cloFrom X.env.cells scope.names [])) fp
  have hot := pass_blk (scope := scope) (ce := compEnvC scope (cellsFrom (s3.heap.objs.size + 1) scope.names (cloFrom X.env.cells scope.names [])) s3.heap.objs.size X.env) (W := W) I3 hs hf rfl tk hch
  have pt := ht s3 (upd H2 D (.lst [])) s3.heap.objs.size (cellsFrom (s3.heap.objs.size + 1) scope.names (cloFrom X.env.cells scope.names [])) fp _ (fun c d _ H' => W c d σ H') hot
  have pe := he s3 (upd H2 D (.lst [])) s3.heap.objs.size (cellsFrom (s3.heap.objs.size + 1) scope.names (cloFrom X.env.cells scope.names [])) fp _ (fun c d _ H' => W c d σ H') hot
  show codeAny _ _ (.compStart (.ListComp elt [⟨tg, iter, ifs, 0⟩] scope pos) 0 (.ref it) (.ref D) (compEnvC scope (cellsFrom (s3.heap.objs.size + 1) scope.names (cloFrom X.env.cells scope.names [])) s3.heap.objs.size X.env))
    (compEnds (model X.prog X.w) X.A X.xe use Qf (.ref D) (compEnvC scope (cellsFrom (s3.heap.objs.size + 1) scope.names (cloFrom X.env.cells scope.names [])) s3.heap.objs.size X.env)) { s3 with heap := pushCells (s3.heap.push { cls := .type "dict", data := .dict #[] }) scope.names }
  have nfp : ∀ b ∈ fp, (upd H2 D (.lst [])) b = none := fun b hb => (f3 b hb).1.1
  clear hot
  generalize hce : compEnvC scope (cellsFrom (s3.heap.objs.size + 1) scope.names (cloFrom X.env.cells scope.names [])) s3.heap.objs.size X.env = ce at I4 pg pt pe ⊢
  have cL : ce.locals = s3.heap.objs.size := by subst hce; rfl
  generalize hH3 : upd H2 D (.lst []) = H3 at I3 I4 pg pt pe w0 nfp f3
  generalize hs4 : ({ s3 with heap := pushCells (s3.heap.push { cls := .type "dict", data := .dict #[] }) scope.names } : Shared) = s4 at I4 ⊢
  have st4 : tn 0 s4.heap := T.keep _ _ _ st3 fun b _ o e => by rw [← hs4]; exact pushCells_keeps _ _ _ _ (Heap.get?_push_of_some _ e)
  have stat : ∀ {σ' : L2.St} {H' : Hp} {s' : Shared}, Inv (X.blk s3 H3 scope ce fp) [] σ' H' s' → (∀ b ∈ fp, H' b = none) → ∀ b ∈ fp, FpOk (X.blk s3 H3 scope ce fp) [] H' b := fun {σ' H' s'} I' hn b hb =>
    ⟨hn b hb, (I'.ok.exf b hb).1, I'.ok.exfs b hb, .inl hb, fun x c e => (I'.ok.exf b hb).2 x c e, fun p hp => absurd (show p ∈ ([] : List (Addr × Obj)) ++ [] from hp) (by simp)⟩
  have loop : codeAny (model X.prog X.w) X.A (.compLoop (.ListComp elt [⟨tg, iter, ifs, 0⟩] scope pos) 0 (.ref it) (.ref D) ce) (compEnds (model X.prog X.w) X.A X.xe use Qf (.ref D) ce) s4 := by
    refine compLoop_any (fun n s' => ∃ i H', Inv (X.blk s3 H3 scope ce fp) [] (wipe σ (own.map (·.2))) H' s' ∧ tn i s'.heap ∧ (∀ b ∈ fp, H' b = none) ∧ Wt i n H') ?_ m0 ⟨0, H3, I4, st4, nfp, w0⟩
    rintro n s5 ⟨i, H5, I5, st5, n5, w5⟩
    rcases turn i n H5 w5 with ⟨stop, qq⟩ | ⟨go, Nx, hNx, step⟩
    · have td := T.done (X.blk s3 H3 scope ce fp) rfl rfl rfl hc i [] s5 _ H5 (fun _ _ => False) I5 (stat I5 n5) st5 stop
      refine thnF td fun r s6 ⟨hr, I6⟩ => ?_
      subst hr
      have I7 : Inv X pins σ H5 s6 := I3.call' (ch := fp) I6.os I6.base I6.hok I6.bare hch
      have nC : H5 s3.heap.objs.size = none := by
        have z : H5 ce.locals = none := I6.free
        rw [cL] at z
        exact z
      obtain ⟨m, hn, _⟩ := I6.loc
      have hn : s6.heap.Ns ce.locals m := hn
      rw [cL] at hn
      have fin := hRR D s3.heap.objs.size s6 m H5 I7 qq hn (I3.fpOk (Nat.le_refl _) nC)
      rw [← cL] at fin
      cases use <;> exact fin
    · have ti := T.item (X.blk s3 H3 scope ce fp) rfl rfl rfl hc i [] s5 _ H5 (fun _ _ => False) I5 (stat I5 n5) st5 go
      refine thnF ti fun r s6 ⟨u, hr, h6⟩ => ?_
      subst hr
      refine thnF h6 fun _ s7 ⟨x, H7, I7, r7, y7, st7, n7⟩ => ?_
      have I7' := I7.pinned (stat I7 n7) (T.obj _ _ st7)
      refine thnF (pg.run _ s7 _ H7 x u _ I7' r7 (step x H7 y7)) fun _ s8 ⟨σ8, H8, I8, hw8, q8⟩ => ?_
      refine thn (pt.run _ s8 σ8 H8 _ (blk_in I8) q8) fun b s9 ⟨H9, I9, q9⟩ => ?_
      have fin : ∀ {s' : Shared} {H' : Hp}, Inv (X.blk s3 H3 scope ce fp) ([] ++ pinsAt fp s7.heap) σ8 H' s' → Nx H' → ∃ m, m < n ∧ ∃ i H', Inv (X.blk s3 H3 scope ce fp) [] (wipe σ (own.map (·.2))) H' s' ∧ tn i s'.heap ∧ (∀ b ∈ fp, H' b = none) ∧ Wt i m H' := fun {s' H'} I' nx => by
        obtain ⟨m', hm, w'⟩ := hNx H' nx
        have pin' : ∀ b ∈ fp, ∀ o, s7.heap.get? b = some o → s'.heap.get? b = some o ∧ H' b = none := fun b hb o e =>
          let z := I'.pin (b, o) (List.mem_append_right _ (List.mem_append_right _ (mem_pinsAt hb e)))
          ⟨z.1, z.2.1⟩
        have hl : (wipe σ (own.map (·.2))).length = σ8.length := by rw [← hw8, wipe_length]
        refine ⟨m', hm, i + 1, H', (I'.unpinned (pins := [])).weak hl (fun j v e => ?_), T.keep _ _ _ st7 fun b hb o e => (pin' b hb o e).1, fun b hb => ?_, w'⟩
        · rw [← hw8] at e
          exact (wipe_some e).1
        · obtain ⟨o, e, _⟩ := T.obj _ _ st7 b hb
          exact (pin' b hb o e).2
      cases b with
      | false =>
        simp only [Bool.false_eq_true, if_false] at q9 ⊢
        exact fin (blk_out I9) q9
      | true =>
        simp only [if_true] at q9 ⊢
        refine thn (pe.run _ s9 σ8 H9 _ I9 q9) fun z s10 ⟨yv, H10, I10, r10, acc, hD10, hz10, nx⟩ => ?_
        exact app_ok (X := X.blk s3 H3 scope ce fp) (blk_out I10) hD10 hz10 r10 fun s11 I11 => fin I11 nx
  exact codeAny_compStart_list loop (T.self X.A 0 _ _ _ st4 loop)
/-- as a value -/
theorem pe_lcX {elt tg iter : Expr} {ifs : List Expr} {scope : Scope} {own : List (Str × Nat)} {pos : Pos} {wi : TI} {g : TG} {tt : WX → TT} {te : WX → TE} {W : WX} (hs : X.stack = X.env :: X.outer) (hf : X.env.frame = some X.env.locals) (tk : L2N.Takes X W) (hc : X.calm = true) (hN : X.N.Nodup) (hi : PI X tg iter wi) (ok : BlkOk X.N X.env.scope scope own)
    (hg : ∀ (s : Shared) (H : Hp) (C : Addr) (cl : List (Str × Addr)) (fp : List Addr), PG (X.blk s H scope (compEnvC scope cl C X.env) fp) tg g)
    (ht : ∀ (s : Shared) (H : Hp) (C : Addr) (cl : List (Str × Addr)) (fp : List Addr) (xe : Value → Shared → Prop) (Wb : WX), HotBlk (blkX X s H scope (compEnvC scope cl C X.env) fp xe) Wb → PTs (blkX X s H scope (compEnvC scope cl C X.env) fp xe) ifs (tt Wb))
    (he : ∀ (s : Shared) (H : Hp) (C : Addr) (cl : List (Str × Addr)) (fp : List Addr) (xe : Value → Shared → Prop) (Wb : WX), HotBlk (blkX X s H scope (compEnvC scope cl C X.env) fp xe) Wb → PE (blkX X s H scope (compEnvC scope cl C X.env) fp xe) elt (te Wb))
    (hfs : ∀ x, foldedSetIterable iter X.env x = pure x := by intro _; rfl) :
    PE X (.ListComp elt [⟨tg, iter, ifs, 0⟩] scope pos) (tLcX W wi g tt te (own.map (·.2))) := by
  refine ⟨fun pins s σ H Q I h => ?_⟩
  rw [eval_ListComp]
  refine lcX_core hc hN hs hf tk I hi ok hg ht he hfs h fun D C s' m H' I' q hn f => ⟨m, hn, fun h'' sb => ?_⟩
  obtain ⟨f0, f1, f2, f3, f4, f5⟩ := f
  exact ⟨.ref D, H', I'.turned (t' := s'.toks) (fun b o hb e => (sb.2 b hb).trans e) f0 f1 f3 f4 f5, rfl, q⟩
/-- name = [..] on one line, the name a local -/
theorem ps_setLcX {i : Nat} {y : Str} {py : Pos} {elt tg iter : Expr} {ifs : List Expr} {scope : Scope} {own : List (Str × Nat)} {pos spos : Pos} {wi : TI} {g : TG} {tt : WX → TT} {te : WX → TE} {W : WX} (hs : X.stack = X.env :: X.outer) (hf : X.env.frame = some X.env.locals) (tk : L2N.Takes X W) (hc : X.calm = true) (hN : X.N.Nodup) (hy : X.N[i]? = some y) (hyl : X.env.scope.names.lookup y = some .local)
    (hsw : swapsWith (.ListComp elt [⟨tg, iter, ifs, 0⟩] scope pos) (some (.Name y py)) spos.line X.env = pure true) (hi : PI X tg iter wi) (ok : BlkOk X.N X.env.scope scope own)
    (hg : ∀ (s : Shared) (H : Hp) (C : Addr) (cl : List (Str × Addr)) (fp : List Addr), PG (X.blk s H scope (compEnvC scope cl C X.env) fp) tg g)
    (ht : ∀ (s : Shared) (H : Hp) (C : Addr) (cl : List (Str × Addr)) (fp : List Addr) (xe : Value → Shared → Prop) (Wb : WX), HotBlk (blkX X s H scope (compEnvC scope cl C X.env) fp xe) Wb → PTs (blkX X s H scope (compEnvC scope cl C X.env) fp xe) ifs (tt Wb))
    (he : ∀ (s : Shared) (H : Hp) (C : Addr) (cl : List (Str × Addr)) (fp : List Addr) (xe : Value → Shared → Prop) (Wb : WX), HotBlk (blkX X s H scope (compEnvC scope cl C X.env) fp xe) Wb → PE (blkX X s H scope (compEnvC scope cl C X.env) fp xe) elt (te Wb))
    (hfs : ∀ x, foldedSetIterable iter X.env x = pure x := by intro _; rfl) :
    PS X (.Assign [.Name y py] (.ListComp elt [⟨tg, iter, ifs, 0⟩] scope pos) spos) (tAsg (tLcX W wi g tt te (own.map (·.2))) (gName i)) := by
  refine ⟨fun pins s σ H D I h => ?_⟩
  rw [exec_Assign_Name_used _ _ _ _ hsw]
  refine wpAny_bind (wpAny_standAt (wpAny_bind ?_))
  show wpAny _ X.A (do let _ ← comprehension (.ListComp elt [⟨tg, iter, ifs, 0⟩] scope pos) scope X.env (firstIterPos [⟨tg, iter, ifs, 0⟩] pos) (newList []) false (eval iter X.env) (some (assign (.Name y py) X.env))) _ _ s
  have h : tLcX W wi g tt te (own.map (·.2)) σ H (fun x H1 => gName i x σ H1 D.nx) := h
  refine wpAny_bind (thn (lcX_core (Qf := fun _ s' => SP X pins D .next s') hc hN hs hf tk I hi ok hg ht he hfs h fun L C s' m H' I' q hn f => ?_) fun _ s' hq => wpAny_pure (wpAny_pure hq))
  show wpAny _ _ (assign (.Name y py) X.env (.ref L)) _ _ _
  refine wpAny_assign_Name (store_ok2 (v := V.ref L) I' hN hy (.inl hyl) rfl (fun s2 I2 ⟨a, sb, ha⟩ => ?_) (.inr hyl))
  obtain ⟨f0, f1, f2, f3, f4, f5⟩ := f
  have haC : C ≠ a := by
    rcases ha with z | z
    · rw [z]; exact f1
    · exact fun e => f4 y a z e.symm
  refine ⟨m, hn.sameBut sb haC, fun h3 sb3 => ?_⟩
  exact ⟨_, H', I2.turned (t' := s2.toks) (fun b o hb e => (sb3.2 b hb).trans e) f0 f1 f3 f4 f5, q⟩
end
theorem r_lcX {W : WX} {wi : TI} {g : TG} {tt : WX → TT} {te : WX → TE} {vs : List Nat} {σ : L2.St} {H : Hp} {Q : VK} (h : tLc wi g (tt fun c d _ H' => W c d σ H') (te fun c d _ H' => W c d σ H') vs σ H Q) : tLcX W wi g tt te vs σ H Q := h
end SH

set_option Elab.async false
set_option linter.all false
set_option maxRecDepth 100000
set_option maxHeartbeats 4000000
/-! SHO: defs called within a suite whose exception is tracked (no pins; the defs raise nothing and make no calm step) -/
namespace SH
open PySem PySem.Spec PyProof.Rows L2
/-- what a def promises where an exception is handled -/
structure FnU (P : Program) (w : World) (K : PySem.W.Frag) (mg : Str → Option Value) (base : Heap) (CX : CXT) (k : Nat) (f : Addr) (fd : FuncData) (ps : List Str) (sp : Sp) : Prop where
  len : ∀ vs H Q E, sp vs H Q E → vs.length = ps.length
  run : ∀ (A : Around) (outer : List Env) (s : Shared) (H : Hp) (args : Args) (us : List Value) (vs : List V) (Q : VK) (E : XK), L2H.RoomH k A → Env0 P w K mg base A outer s H → BindsTo s fd args (ps.zip us) → Vals vs us → sp vs H Q E →
    codeAny (model P w) A (.call (.ref f) args) (CR CX outer P w H s Q E) s
def cxU (CX : CXT) (P : Program) (w : World) (K : PySem.W.Frag) (mg : Str → Option Value) (base : Heap) (N : List Str) (qual : Str) (scope : Scope) (f : Addr) (cd : Value) (A : Around) (outer : List Env) (s : Shared) (H : Hp) (E : XK) : Cx :=
  { cxOf CX P w K mg base N qual scope f cd A outer s H E with calm := false, pn := [] }
theorem inv_startU {CX : CXT} {P : Program} {w : World} {K : PySem.W.Frag} {mg : Str → Option Value} {base : Heap} {N ps : List Str} {qual : Str} {scope : Scope} {f : Addr} {cd : Value} {A : Around} {outer : List Env} {s s1 : Shared} {H : Hp} {E : XK} {us : List Value} {vs : List V}
    (S : FnScope N ps scope) (e0 : Env0 P w K mg base A outer s H) (hl : vs.length = ps.length) (r : Vals vs us)
    (x : InCallC s s.heap.objs.size (bindL (envOfC qual scope s.heap.objs.size f cd).kindOf (ps.zip us) fun _ => none) (cellsFrom (s.heap.objs.size + 1) scope.names []) (bindC (envOfC qual scope s.heap.objs.size f cd).kindOf (ps.zip us) fun _ => none) s1) :
    Inv (cxU CX P w K mg base N qual scope f cd A outer s H E) [] (L2.start N vs) H s1 := by
  have hpl : ps.length ≤ N.length := by have := congrArg List.length S.pre; rw [List.length_take] at this; omega
  obtain ⟨h1, tk, rfl, hk⟩ := x.done
  have noA : ∀ b : Addr, b ∉ (cxU CX P w K mg base N qual scope f cd A outer s H E).ex := fun b z => absurd (show b ∈ ([] : List Addr) from z) (by simp)
  refine ⟨⟨e0.mod, S.kind, rfl, rfl, Nat.le_refl _, fun y z c h1 h2 => ?_, fun y hy => ?_, fun y c _ h => ?_, (fun z => Bool.noConfusion (show false = true from z)), Around.frames_deeper e0.frames, .inr ⟨rfl, rfl⟩, fun b z => absurd z (noA b), e0.bs, e0.bsz, fun b _ _ => noA b, fun b z => absurd z (noA b), e0.funs, e0.frf⟩,
    rfl, e0.bare, Un.kept hk, ⟨_, x.toInCall.ns, fun i y v h1 h2 h3 => ?_⟩, fun y c h => ⟨_, x.cell y c h⟩, e0.hok.fresh (Nat.le_refl _), fun y c h => ?_, fun q hq => ?_, e0.hok.kept hk, ?_⟩
  · exact name_of_addr x.apart (PySem.mem_of_lookup h1) (PySem.mem_of_lookup h2)
  · have hy : scope.names.lookup y = some .cell ∨ scope.names.lookup y = some .free := hy
    rcases hy with hy | hy
    · exact cell_has hy
    · exact absurd rfl (S.nofree _ (PySem.mem_of_lookup hy))
  · exact Nat.le_of_lt (x.above y c (PySem.mem_of_lookup h))
  · have hi : i < vs.length := by
      unfold L2.start at h2
      by_cases hi : i < vs.length
      · exact hi
      · rw [List.getElem?_append_right (by simpa using hi)] at h2
        rw [List.getElem?_replicate] at h2
        split at h2 <;> cases h2
    have ha : vs[i]? = some v := by
      unfold L2.start at h2
      rw [List.getElem?_append_left (by simpa using hi), List.getElem?_map] at h2
      cases e : vs[i]? with
      | none => rw [e] at h2; cases h2
      | some a => rw [e] at h2; cases h2; rfl
    obtain ⟨u, hu, rv⟩ := r.get ha
    have hp : ps[i]? = some y := by
      rw [← S.pre, List.getElem?_take_of_lt (by omega)]; exact h1
    have ndP : ps.Nodup := by rw [← S.pre]; exact S.nd.sublist (List.take_sublist _ _)
    refine ⟨u, rv, ?_⟩
    rcases S.par y (List.mem_of_getElem? hp) with k | k
    · exact .inl ⟨k, bindL_get ndP hp hu k⟩
    · obtain ⟨c, e⟩ := cell_has (n := s.heap.objs.size + 1) k
      refine .inr ⟨.inl k, c, e, ?_⟩
      have q := x.cell y c e
      rw [bindC_get ndP hp hu (by show scope.names.lookup y ≠ _; rw [k]; decide)] at q
      exact q
  · exact e0.hok.fresh (Nat.le_of_lt (x.above y c (PySem.mem_of_lookup h)))
  · exact absurd (show q ∈ ([] : List (Addr × Obj)) from hq) (by simp)
  · unfold L2.start
    show _ = N.length
    rw [List.length_append, List.length_map, List.length_replicate]
    omega
theorem fn_ofU {CX : CXT} {P : Program} {w : World} {K : PySem.W.Frag} {mg : Str → Option Value} {base : Heap} {k : Nat} {f : Addr} {name qual : Str} {params : Arguments} {body : List Stmt} {scope : Scope} {dV kV doc pm cdv ct oc : Value} {an od : Option Addr}
    {osl : Array (Option Value)} {N ps : List Str} {sp : Sp} (lk : K.lookup f = some ⟨oc, od, .func (PySem.W.fnOf name qual params body scope dV kV doc pm an cdv ct), osl⟩) (hcd : PySem.W.codeIn K cdv qual = true) (S : FnScope N ps scope)
    (len : ∀ vs H Q E, sp vs H Q E → vs.length = ps.length)
    (hbody : ∀ (A : Around) (outer : List Env) (s : Shared) (H : Hp) (vs : List V) (Q : VK) (E : XK), L2H.RoomH k (A.deeper (envOfC qual scope s.heap.objs.size f cdv)) → sp vs H Q E →
      ∃ t, PSs (cxU CX P w K mg base N qual scope f cdv A outer s H E) body t ∧ t { nx := fun _ H' => Q .non H', rt := Q } (L2.start N vs) H) :
    FnU P w K mg base CX (k + 1) f (PySem.W.fnOf name qual params body scope dV kV doc pm an cdv ct) ps sp := by
  refine ⟨len, fun A outer s H args us vs Q E hr e0 hb r hsp => ?_⟩
  have hl := len _ _ _ _ hsp
  have KX : K.In s.heap := e0.mod.kin.keeps fun b o e => (e0.bs b o e).1
  have lim : s.heap.NoLimit := e0.mod.nolimit.keeps fun b o e => (e0.bs b o e).1
  have hkind : ∀ y ∈ ps.zip us, scope.names.lookup y.1 = some .local ∨ (scope.names.lookup y.1 = some .cell ∧ ((cellsFrom (s.heap.objs.size + 1) scope.names []).lookup y.1).isSome = true) := fun ⟨n, v⟩ hy => by
    rcases S.par n (List.of_mem_zip hy).1 with q | q
    · exact .inl q
    · exact .inr ⟨q, PySem.W.cellsFrom_some _ _ _ (.inl q)⟩
  refine codeAny_call_function hr.depth (KX _ _ lk) rfl S.co S.gen rfl (PySem.W.codeRec_of KX hcd) (hb _ _ _ _ ?_)
  refine wpAny_newFunctionEnv_cells S.kind hkind fun env he s1 x => ?_
  subst he
  refine ⟨lim.keeps x.toInCall.keep, codeAny_func ?_⟩
  obtain ⟨t, ht, hq⟩ := hbody A outer s H vs Q E (hr.deeper _) hsp
  have I : Inv (cxU CX P w K mg base N qual scope f cdv A outer s H E) [] (L2.start N vs) H s1 := inv_startU S e0 hl r x
  refine wpAny_mono (ht.run [] s1 (L2.start N vs) H _ I hq) (fun fl s' hs => ?_) fun e s' hs => hs
  have fin : ∀ {σ' : L2.St} {H' : Hp} {v : V} {u : Value}, Inv (cxU CX P w K mg base N qual scope f cdv A outer s H E) [] σ' H' s' → RelV v u → Q v H' → CE outer P w H s Q u s' :=
    fun {σ' H' v u} J rv q => ⟨v, H', J.os, J.bare, J.base, J.hok, rv, q⟩
  cases fl with
  | ret u =>
    obtain ⟨v, σ', H', J, rv, q⟩ := hs
    exact fin J rv q
  | next =>
    obtain ⟨σ', H', J, q⟩ := hs
    exact fin (v := V.non) (u := Value.none) J rfl q
  | brk =>
    obtain ⟨_, _, _, q⟩ := hs
    exact False.elim q
  | cont =>
    obtain ⟨_, _, _, q⟩ := hs
    exact False.elim q
/-- a def that is called while an exception is handled and tracked; it raises nothing -/
theorem okU {P : Program} {w : World} {K : PySem.W.Frag} {mg : Str → Option Value} {base : Heap} {x qual : Str} {st : Stmt} {f : Addr} {fd : FuncData} {N ps : List Str} {k : Nat} {sp : Sp} (F : Fun K x qual st f fd) (S : FnScope N ps (defScope st)) (len : ∀ vs H Q E, sp vs H Q E → vs.length = ps.length)
    (hb : ∀ (cdv : Value) (A : Around) (outer : List Env) (s : Shared) (H : Hp) (vs : List V) (Q : VK) (E : XK), L2H.RoomH k (A.deeper (envOfC qual (defScope st) s.heap.objs.size f cdv)) → sp vs H Q E →
      ∃ t, PSs (cxU CX0 P w K mg base N qual (defScope st) f cdv A outer s H E) (defBody st) t ∧ t { nx := fun _ H' => Q .non H', rt := Q } (start N vs) H) : FnU P w K mg base CX0 (k + 1) f fd ps sp := by
  obtain ⟨oc, od, kV, doc, pm, an, cdv, ct, osl, rfl, lk, hcd⟩ := F.ex
  exact fn_ofU lk hcd S len fun A outer s H vs Q E hr h => hb cdv A outer s H vs Q E hr h
structure CalU (P : Program) (w : World) (K : PySem.W.Frag) (mg : Str → Option Value) (base : Heap) (k : Nat) (x : Str) (sp : Sp) : Prop where
  ex : ∃ (f : Addr) (fd : FuncData) (ps : List Str), mg x = some (.ref f) ∧ PySem.W.keepIn K (.ref f) = true ∧ Binds K fd ps [] ∧ FnU P w K mg base CX0 k f fd ps sp
section
variable {X : Cx} {CX : CXT} {k j : Nat} {f : Addr} {fd : FuncData} {ps : List Str} {sp : Sp} {E : L2.St → XK} {x : Str} {p pos : Pos} {e : Expr} {es : List Expr} {t : TA}
theorem run_fnU {pins : List (Addr × Obj)} {σ : L2.St} {H : Hp} {s : Shared} {Q : VK} {us : List Value} {vs : List V} (F : FnU X.prog X.w X.K X.mg X.base CX k f fd ps sp) (hr : L2H.RoomH k X.A) (hb : Binds X.K fd ps []) (hx : PassesAt CX X σ (E σ))
    (I : Inv X pins σ H s) (r : Vals vs us) (h : sp vs H Q (E σ)) : wpAny (model X.prog X.w) X.A (call (.ref f) us) (EP X pins σ Q) X.xe s := by
  have hl : us.length = ps.length := by rw [← r.length]; exact F.len _ _ _ _ h
  have b := hb s us I.kIn (by rw [List.append_nil]; exact hl)
  rw [List.append_nil] at b
  refine wpAny_call (codeAny_mono (F.run X.A X.stack s H ⟨us, []⟩ us vs Q (E σ) hr I.env0 b r h) fun r s' hq => ?_)
  cases r with
  | error e => exact hx pins H s e s' I hq
  | ok fl =>
    cases fl with
    | ret u => exact I.after hq
    | next => exact False.elim hq
    | brk => exact False.elim hq
    | cont => exact False.elim hq
theorem pe_callUF (c : CalU X.prog X.w X.K X.mg X.base j x sp) (hr : L2H.RoomH k X.A) (hg : Gl X x) (ha : PA X (e :: es) t) (hk : j ≤ k := by decide)
    (hdb : (x == ("__debug__" : Str)) = false := by decide) (he : starEach (e :: es) X.env = (false, eval e X.env) :: starEach es X.env := by rfl) (hpl : (backTo pos (starEach es X.env)).any (·.1) = false := by rfl) :
    PE X (.Call (.Name x p) (e :: es) [] pos) (tCallS sp (fun _ => E0) t) := by
  obtain ⟨f, fd, ps, h1, h2, h3, h4⟩ := c.ex
  refine ⟨fun pins s σ H Q I h => ?_⟩
  refine wpAny_Call_Name_kw (ld_glob I hg h1 ?_ hdb)
  refine PySem.W.callWith_K (h₀ := X.base) I.ok.mod.kin h2 (thn (ha.run pos pins s σ H _ I h) fun us s1 ⟨vs, H1, I1, r, q⟩ => ⟨I1.kIn, ?_⟩) he hpl
  exact run_fnU (E := fun _ => E0) h4 (hr.mono hk) h3 (fun pins H s e s' _ z => z.elim) I1 r q
end
end SH

set_option Elab.async false
set_option linter.all false
set_option maxRecDepth 100000
set_option maxHeartbeats 8000000
/-! the step -/
local macro_rules | `(tactic| walk_at "slot") => `(tactic| (with_reducible first | exact SH.get_z | (apply SH.get_s; walk_at "slot")))
local macro_rules | `(tactic| walk_at "put") => `(tactic| (with_reducible first | exact SH.set_z | (apply SH.set_s; walk_at "put")))
local macro_rules | `(tactic| walk_at "wipe") => `(tactic| (with_reducible first | exact SH.wp_z | apply SH.wp_s (by walk_at "wipe") (by walk_at "put")))
local macro_rules | `(tactic| walk_at "begin") => `(tactic| ((apply SH.r_start (by (repeat (with_reducible first | exact SH.st_z | apply SH.st_c | apply SH.st_n)))); (try dsimp only [L2.Cx.nox, L2.Cx.wish, L2.cxOf])))
local macro_rules | `(tactic| walk_at "r0") => `(tactic| with_reducible first
  | ((apply SH.r_nx (by walk_at "put")))
  | refine SH.r_seq ?_ | refine SH.r_asg ?_ | (apply SH.r_gnw (by walk_at "wipe")) | (apply SH.r_gtw (by walk_at "wipe")) | ((apply SH.r_gname (by walk_at "put")))
  | ((apply SH.r_var (by walk_at "slot"))) | refine SH.r_c ?_ | refine SH.r_op ?_ | refine SH.r_cons ?_ | refine SH.r_nil ?_
  | refine SH.v_addI ?_ | refine SH.v_subI ?_ | refine SH.v_ltI ?_ | refine SH.v_leI ?_ | refine SH.v_gtI ?_ | refine SH.v_geI ?_ | refine SH.v_eqI ?_ | refine SH.v_neI ?_
  | refine SH.v_eqB ?_ | refine SH.v_neB ?_ | refine SH.w_isB ?_ | refine SH.w_notB ?_ | refine SH.v_isN ?_ | refine SH.v_notN ?_ | refine SH.v_ipA ?_ | refine SH.v_ipS ?_ | refine SH.v_and ?_
  | refine SH.r_ifS ?_ | refine SH.r_test ?_ | refine SH.r_bl ?_ | refine SH.r_B ?_ | refine SH.r_and ?_ | refine SH.r_or ?_ | refine SH.r_not ?_ | refine SH.r_andV ?_ | refine SH.r_orV ?_ | refine SH.r_notV ?_
  | refine SH.r_T ?_ | refine SH.r_F ?_ | refine SH.r_nT ?_ | refine SH.r_nF ?_
  | refine SH.r_ret ?_ | refine SH.r_retN ?_ | refine SH.r_drop ?_ | ((apply SH.r_aug (by walk_at "slot"))) | refine SH.r_next ?_ | refine SH.r_if ?_
  | refine SH.r_call ?_ | refine SH.r_cb ?_ | refine SH.r_tup ?_ | refine SH.r_lst ?_ | refine SH.r_part ?_ | refine SH.r_nopart ?_ | refine SH.r_int ?_ | refine SH.r_sl ?_ | refine SH.r_chain ?_
  | refine SH.r_bm ?_ | refine SH.r_bm0 ?_ | refine SH.r_un ?_ | refine SH.r_neg ?_ | refine SH.r_gcons ?_ | refine SH.r_gnil ?_ | refine SH.r_gsub ?_ | refine SH.r_brk ?_ | refine SH.r_cont ?_ | refine SH.r_yes ?_
  | refine SH.r_for ?_ | refine SH.r_lcX ?_ | refine SH.r_lc ?_ | refine SH.r_iList ?_ | refine SH.r_iTup ?_ | refine SH.r_iRng1 ?_ | refine SH.r_iRng2 ?_ | refine SH.r_iRng3 ?_ | refine SH.r_iEnum ?_ | refine SH.r_iZip ?_ | refine SH.r_iRev ?_
  | refine SH.r_fldF ?_ | refine SH.r_sfldF ?_ | refine SH.r_sfldAugF ?_ | refine SH.r_meth ?_ | refine SH.r_make ?_ | refine SH.r_lrg1 ?_ | refine SH.r_lrg2 ?_ | refine SH.r_bits ?_ | refine SH.v_bits ?_ | refine SH.w_max ?_ | refine SH.w_min ?_
  | refine SH.r_par ?_ | refine SH.r_par3 ?_ | (apply SH.v_par (by walk_at "put") (by walk_at "put")) | (apply SH.v_par3 (by walk_at "put") (by walk_at "put") (by walk_at "put"))
  | refine SH.r_callS ?_ | refine SH.r_mkO ?_ | refine SH.r_xf ?_ | refine SH.r_xfK ?_ | refine SH.r_mkK ?_ | refine SH.r_exc0 ?_ | refine SH.r_ost ?_ | refine SH.r_methX ?_ | refine SH.r_makeX ?_ | refine SH.r_augS ?_ | refine SH.r_dnewT ?_ | refine SH.r_dput ?_ | refine SH.r_dget1 ?_ | refine SH.r_dgetI ?_ | refine SH.r_din ?_ | refine SH.r_dnotin ?_ | refine SH.w_intI ?_ | refine SH.w_intB ?_ | ((apply SH.v_dget1 (by assumption))))
/-! heap facts -/
local macro_rules | `(tactic| walk_at "ne") => `(tactic| with_reducible first
  | assumption | (apply Ne.symm; assumption)
  | ((apply SH.ne_of_none'); (focus (assumption; done)); (focus (walk_at "lk"))) | ((apply Ne.symm); (apply SH.ne_of_none'); (focus (assumption; done)); (focus (walk_at "lk")))
  | ((apply L2.ne_of); (focus (walk_at "lk")); (focus (walk_at "lk")); (focus (intro z; cases z; done))))
local macro_rules | `(tactic| walk_at "lk") => `(tactic| (focus
  ((repeat (with_reducible first
  | assumption | exact L2.upd_same
  | (apply SH.off_old (by assumption))
  | ((apply SH.off_far); (focus (walk_at "ne")))
  | (apply SH.Stp.keep0 (by assumption))));
        done)))
local macro_rules | `(tactic| walk_at "sq") => `(tactic| (focus
  ((repeat (with_reducible first
  | assumption | exact L2.SqL.of L2.upd_same | exact L2.SqT.of L2.upd_same | exact L2.SqL.of (by assumption) | exact L2.SqT.of (by assumption)
  | (apply SH.sql_off (by assumption)) | (apply SH.sqt_off (by assumption))
  | ((apply SH.sql_offar); (focus (walk_at "ne"))) | ((apply SH.sqt_offar); (focus (walk_at "ne")))
  | (apply SH.Stp.sql0 (by assumption)) | (apply SH.Stp.sqt0 (by assumption))));
        done)))
local macro_rules | `(tactic| walk_at "st") => `(tactic| (focus
  ((repeat (with_reducible first
  | assumption | exact SH.Stp.refl _ _
  | (apply SH.st_new (by assumption)) | (apply SH.st_trans (by assumption)) | ((apply SH.st_put); (focus (walk_at "fr")))));
        done)))
local macro_rules | `(tactic| walk_at "fr") => `(tactic| with_reducible first | assumption | ((apply SH.st_fr (by assumption)); (walk_at "st")))
local macro_rules | `(tactic| walk_at "few") => `(tactic| first | exact SH.few0 | exact SH.few1 | exact SH.few2 | exact SH.few3 | exact SH.few4 | exact SH.few5 | exact SH.few6 | (simp; done))
local macro_rules | `(tactic| walk_at "pf") => `(tactic| first | exact SH.pf_nil | exact SH.pf_hit | (apply SH.pf_miss (by decide) (by walk_at "pf")))
/-! steps with a side -/
local macro_rules | `(tactic| walk_at "r2") => `(tactic| first
  | ((with_reducible refine SH.v_mulI ?_ ?_); (focus (first | exact L2.CMul.ok (.inl ⟨by omega, by omega⟩) | exact L2.CMul.ok (.inr ⟨by omega, by omega⟩) | exact SH.mul64 ⟨by omega, by omega⟩ ⟨by omega, by omega⟩)))
  | ((with_reducible refine SH.v_divS ?_ ?_ ?_); (focus omega); (focus omega))
  | ((with_reducible refine SH.v_mod ?_ ?_); (focus omega))
  | (with_reducible refine SH.v_pow60 ?_)
  | ((with_reducible apply SH.v_lenQ); (focus (walk_at "sq")); (focus (first | exact List.length_map _ | rfl))) | ((with_reducible apply SH.v_lenU); (focus (walk_at "sq")); (focus (first | exact List.length_map _ | rfl)))
  | ((with_reducible apply SH.v_slL); (focus (walk_at "sq"))) | ((with_reducible apply SH.v_iList); (focus (walk_at "sq")))
  | ((with_reducible refine SH.v_rng2 ?_ ?_); (focus (refine ⟨by omega, by omega, by omega, by omega⟩)))
  | ((with_reducible refine SH.v_rng1 ?_ ?_); (focus (refine ⟨by omega, by omega⟩)))
  | ((with_reducible apply SH.v_fld); (focus (walk_at "lk")); (focus rfl)) | ((with_reducible apply SH.v_sfld); (focus (walk_at "lk")); (focus (walk_at "few")); (focus (walk_at "pf"))) | ((with_reducible apply SH.v_aug1); (focus (walk_at "lk")); (focus rfl)) | ((with_reducible apply SH.v_aug2); (focus (walk_at "lk")); (focus (walk_at "few")); (focus (walk_at "pf")))
  | ((with_reducible apply SH.v_enum); (focus (walk_at "sq"))) | ((with_reducible apply SH.v_rev1); (focus (walk_at "sq"))) | ((with_reducible apply SH.v_zip); (focus (walk_at "sq")); (focus (walk_at "sq"))) | ((with_reducible apply SH.v_iTup); (focus (walk_at "sq")))
  | (with_reducible refine SH.v_tup1 ?_) | (with_reducible refine SH.v_tup2 ?_) | (with_reducible refine SH.v_tup3 ?_) | (with_reducible refine SH.v_lst0 ?_) | (with_reducible refine SH.v_lst1 ?_) | (with_reducible refine SH.v_lst2 ?_) | (with_reducible refine SH.v_lst3 ?_) | (with_reducible refine SH.v_lst4 ?_)
  | ((with_reducible apply SH.r_ty); (focus (walk_at "lk")))
  | ((with_reducible apply SH.w_listL); (focus (walk_at "sq"))) | ((with_reducible apply SH.w_listT); (focus (walk_at "sq"))) | ((with_reducible apply SH.w_tupL); (focus (walk_at "sq"))) | ((with_reducible apply SH.w_tupT); (focus (walk_at "sq")))
  | ((with_reducible apply SH.r_gtup); (focus (walk_at "sq")); (focus rfl))
  | ((with_reducible apply SH.r_glst); (focus (walk_at "sq")); (focus rfl))
  | (with_reducible refine SH.r_callX ?_)
  | ((with_reducible refine SH.r_wp ?_ ?_); (focus rfl))
  | ((with_reducible apply SH.v_methX); (focus (walk_at "lk")); (focus rfl)) | ((with_reducible apply SH.v_xf); (focus (walk_at "lk")); (focus rfl)) | ((with_reducible apply SH.v_xfK); (focus (walk_at "lk")); (focus (walk_at "lk")); (focus rfl)) | ((with_reducible apply SH.v_meth); (focus (walk_at "lk")); (focus rfl)) | ((with_reducible apply SH.isi_L); (focus (walk_at "lk"))) | ((with_reducible apply SH.isi_T); (focus (walk_at "lk"))) | (with_reducible refine SH.isi_bl_bool ?_) | (with_reducible refine SH.isi_bl_int ?_)
  | (with_reducible refine SH.r_ckw ?_) | (with_reducible refine SH.r_ckw2 ?_) | (with_reducible refine SH.r_lrev ?_) | ((with_reducible apply SH.v_lrev); (focus (walk_at "sq")))
  | ((with_reducible refine SH.v_isiIT ?_)) | ((with_reducible refine SH.v_isiIB ?_)) )
local macro_rules | `(tactic| walk_at "r1") => `(tactic| first | walk_at "r0" | walk_at "r2")
local macro_rules | `(tactic| walk_at "rd") => `(tactic| repeat walk_at "r1")
/-! the same, up to the making of an instance, or a call -/
local macro_rules | `(tactic| walk_at "rq") => `(tactic| repeat ((fail_if_success (with_reducible refine SH.r_make ?_)); walk_at "r1"))
local macro_rules | `(tactic| walk_at "rc") => `(tactic| repeat ((fail_if_success (with_reducible refine SH.r_call ?_)); walk_at "r1"))
/-! the same, up to an if -/
local macro_rules | `(tactic| walk_at "ri") => `(tactic| repeat ((fail_if_success (with_reducible refine SH.r_ifS ?_)); walk_at "r1"))

namespace Law
open PySem PySem.Spec PyProof.Rows L2 SH NdefX LamX
def top (i : Nat) : Stmt := PySem.Challenge.pw_sorthall_k76_refused_and_stopped.main.body.getD i (.Pass ⟨0, 0, 0, 0⟩)
abbrev s_NoRow___init__ : Stmt := inClass (top 7) 0
theorem sc_NoRow___init__ : FnScope ["self", "line"] ["self", "line"] (defScope s_NoRow___init__) := ⟨rfl, rfl, rfl, by decide +kernel, rfl, by decide +kernel, by decide +kernel⟩
abbrev s_NoOrder___init__ : Stmt := inClass (top 8) 0
theorem sc_NoOrder___init__ : FnScope ["self", "flaw"] ["self", "flaw"] (defScope s_NoOrder___init__) := ⟨rfl, rfl, rfl, by decide +kernel, rfl, by decide +kernel, by decide +kernel⟩
abbrev s_TooFar___init__ : Stmt := inClass (top 9) 0
theorem sc_TooFar___init__ : FnScope ["self", "place", "others"] ["self", "place", "others"] (defScope s_TooFar___init__) := ⟨rfl, rfl, rfl, by decide +kernel, rfl, by decide +kernel, by decide +kernel⟩
abbrev s_Spent___init__ : Stmt := inClass (top 10) 0
theorem sc_Spent___init__ : FnScope ["self", "asked"] ["self", "asked"] (defScope s_Spent___init__) := ⟨rfl, rfl, rfl, by decide +kernel, rfl, by decide +kernel, by decide +kernel⟩
abbrev s_cut_between : Stmt := top 12
theorem sc_cut_between : FnScope ["low", "high"] ["low", "high"] (defScope s_cut_between) := ⟨rfl, rfl, rfl, by decide +kernel, rfl, by decide +kernel, by decide +kernel⟩
abbrev s_Pour___init__ : Stmt := inClass (top 13) 0
theorem sc_Pour___init__ : FnScope ["self", "asker", "pieces", "piece"] ["self", "asker", "pieces"] (defScope s_Pour___init__) := ⟨rfl, rfl, rfl, by decide +kernel, rfl, by decide +kernel, by decide +kernel⟩
abbrev s_Pour_front : Stmt := inClass (top 13) 1
theorem sc_Pour_front : FnScope ["self", "number", "gone", "piece"] ["self", "number", "gone"] (defScope s_Pour_front) := ⟨rfl, rfl, rfl, by decide +kernel, rfl, by decide +kernel, by decide +kernel⟩
abbrev s_Pour_goes_on : Stmt := inClass (top 13) 2
theorem sc_Pour_goes_on : FnScope ["self", "one", "other"] ["self", "one", "other"] (defScope s_Pour_goes_on) := ⟨rfl, rfl, rfl, by decide +kernel, rfl, by decide +kernel, by decide +kernel⟩
abbrev s_Pour_meeting : Stmt := inClass (top 13) 3
theorem sc_Pour_meeting : FnScope ["self", "one", "other"] ["self", "one", "other"] (defScope s_Pour_meeting) := ⟨rfl, rfl, rfl, by decide +kernel, rfl, by decide +kernel, by decide +kernel⟩
abbrev s_Pour_hold_all : Stmt := inClass (top 13) 4
theorem sc_Pour_hold_all : FnScope ["self", "low", "high", "here", "middle", "one"] ["self", "low", "high"] (defScope s_Pour_hold_all) := ⟨rfl, rfl, rfl, by decide +kernel, rfl, by decide +kernel, by decide +kernel⟩
abbrev s_Pour_way_down : Stmt := inClass (top 13) 5
theorem sc_Pour_way_down : FnScope ["self", "number", "spans", "low", "high", "middle"] ["self", "number"] (defScope s_Pour_way_down) := ⟨rfl, rfl, rfl, by decide +kernel, rfl, by decide +kernel, by decide +kernel⟩
abbrev s_Pour_first : Stmt := inClass (top 13) 6
theorem sc_Pour_first : FnScope ["self", "top"] ["self"] (defScope s_Pour_first) := ⟨rfl, rfl, rfl, by decide +kernel, rfl, by decide +kernel, by decide +kernel⟩
abbrev s_Pour_take : Stmt := inClass (top 13) 8
theorem sc_Pour_take : FnScope ["self", "top", "number", "here", "anew", "low", "high", "middle"] ["self"] (defScope s_Pour_take) := ⟨rfl, rfl, rfl, by decide +kernel, rfl, by decide +kernel, by decide +kernel⟩
abbrev s_LastPour_front : Stmt := inClass (top 14) 0
theorem sc_LastPour_front : FnScope ["self", "number", "gone", "piece"] ["self", "number", "gone"] (defScope s_LastPour_front) := ⟨rfl, rfl, rfl, by decide +kernel, rfl, by decide +kernel, by decide +kernel⟩
abbrev s_LastPour_goes_on : Stmt := inClass (top 14) 1
theorem sc_LastPour_goes_on : FnScope ["self", "one", "other"] ["self", "one", "other"] (defScope s_LastPour_goes_on) := ⟨rfl, rfl, rfl, by decide +kernel, rfl, by decide +kernel, by decide +kernel⟩
abbrev s_rest_of_all : Stmt := top 16
theorem sc_rest_of_all : FnScope ["total", "taken", "place", "gone", "one"] ["total", "taken", "place"] (defScope s_rest_of_all) := ⟨rfl, rfl, rfl, by decide +kernel, rfl, by decide +kernel, by decide +kernel⟩
abbrev s_so_manieth : Stmt := top 17
theorem sc_so_manieth : FnScope ["asker", "many", "total", "singly", "pour", "ahead", "place", "after", "one", "k"] ["asker", "many"] (defScope s_so_manieth) := ⟨rfl, rfl, rfl, by decide +kernel, rfl, by decide +kernel, by decide +kernel⟩
abbrev s_Asker___init__ : Stmt := inClass (top 19) 0
theorem sc_Asker___init__ : FnScope ["self", "row", "rule", "most"] ["self", "row", "rule", "most"] (defScope s_Asker___init__) := ⟨rfl, rfl, rfl, by decide +kernel, rfl, by decide +kernel, by decide +kernel⟩
abbrev s_Asker_many : Stmt := inClass (top 19) 1
theorem sc_Asker_many : FnScope ["self"] ["self"] (defScope s_Asker_many) := ⟨rfl, rfl, rfl, by decide +kernel, rfl, by decide +kernel, by decide +kernel⟩
abbrev s_Asker_ahead : Stmt := inClass (top 19) 2
theorem sc_Asker_ahead : FnScope ["self", "p", "q", "later", "earlier", "said"] ["self", "p", "q"] (defScope s_Asker_ahead) := ⟨rfl, rfl, rfl, by decide +kernel, rfl, by decide +kernel, by decide +kernel⟩
abbrev s_Asker_widen : Stmt := inClass (top 19) 4
theorem sc_Asker_widen : FnScope ["self", "more"] ["self", "more"] (defScope s_Asker_widen) := ⟨rfl, rfl, rfl, by decide +kernel, rfl, by decide +kernel, by decide +kernel⟩
abbrev s_Rule_before : Stmt := inClass (top 21) 0
theorem sc_Rule_before : FnScope ["self", "x", "y"] ["self", "x", "y"] (defScope s_Rule_before) := ⟨rfl, rfl, rfl, by decide +kernel, rfl, by decide +kernel, by decide +kernel⟩
abbrev s_AskedRule___init__ : Stmt := inClass (top 22) 0
theorem sc_AskedRule___init__ : FnScope ["self", "teller"] ["self", "teller"] (defScope s_AskedRule___init__) := ⟨rfl, rfl, rfl, by decide +kernel, rfl, by decide +kernel, by decide +kernel⟩
abbrev s_AskedRule_before : Stmt := inClass (top 22) 1
theorem sc_AskedRule_before : FnScope ["self", "x", "y", "ask"] ["self", "x", "y"] (defScope s_AskedRule_before) := ⟨rfl, rfl, rfl, by decide +kernel, rfl, by decide +kernel, by decide +kernel⟩
abbrev s__law_cell_at : Stmt := top 24
theorem sc__law_cell_at : FnScope ["_law_script", "_law_k"] ["_law_script", "_law_k"] (defScope s__law_cell_at) := ⟨rfl, rfl, rfl, by decide +kernel, rfl, by decide +kernel, by decide +kernel⟩
abbrev s__law_stream : Stmt := top 25
theorem sc__law_stream : FnScope ["_law_seed", "_law_many_here", "_law_found", "_law_number", "_law_k"] ["_law_seed", "_law_many_here"] (defScope s__law_stream) := ⟨rfl, rfl, rfl, by decide +kernel, rfl, by decide +kernel, by decide +kernel⟩
abbrev s__law_numbers : Stmt := top 26
theorem sc__law_numbers : FnScope ["_law_script"] ["_law_script"] (defScope s__law_numbers) := ⟨rfl, rfl, rfl, by decide +kernel, rfl, by decide +kernel, by decide +kernel⟩
abbrev s__law_row : Stmt := top 27
theorem sc__law_row : FnScope ["_law_numbers_here", "_law_kind", "_law_base", "_law_keys", "_law_number", "_law_k"] ["_law_numbers_here", "_law_kind"] (defScope s__law_row) := ⟨rfl, rfl, rfl, by decide +kernel, rfl, by decide +kernel, by decide +kernel⟩
abbrev s__law_teller : Stmt := top 28
theorem sc__law_teller : FnScope ["_law_said", "_law_tells"] ["_law_said"] (defScope s__law_teller) := ⟨rfl, rfl, rfl, by decide +kernel, rfl, by decide +kernel, by decide +kernel⟩
abbrev s__law_many : Stmt := top 29
theorem sc__law_many : FnScope ["_law_total", "_law_one", "_law_two", "_law_way"] ["_law_total", "_law_one", "_law_two"] (defScope s__law_many) := ⟨rfl, rfl, rfl, by decide +kernel, rfl, by decide +kernel, by decide +kernel⟩
abbrev s__law_another : Stmt := top 30
theorem sc__law_another : FnScope ["_law_e"] ["_law_e"] (defScope s__law_another) := ⟨rfl, rfl, rfl, by decide +kernel, rfl, by decide +kernel, by decide +kernel⟩
abbrev s__law_tried : Stmt := top 31
theorem sc__law_tried : FnScope ["_law_asker", "_law_many_here", "_law_kinds", "_law_found", "_law_e"] ["_law_asker", "_law_many_here"] (defScope s__law_tried) := ⟨rfl, rfl, rfl, by decide +kernel, rfl, by decide +kernel, by decide +kernel⟩
abbrev s__law_no_place : Stmt := top 32
theorem sc__law_no_place : FnScope ["_law_row_here", "_law_many_here", "_law_most", "_law_said", "_law_found", "_law_kinds"] ["_law_row_here", "_law_many_here", "_law_most"] (defScope s__law_no_place) := ⟨rfl, rfl, rfl, by decide +kernel, rfl, by decide +kernel, by decide +kernel⟩
abbrev s__law_stopped : Stmt := top 33
theorem sc__law_stopped : FnScope ["_law_row_here", "_law_many_here", "_law_needed", "_law_most", "_law_said", "_law_asker", "_law_found", "_law_kinds"] ["_law_row_here", "_law_many_here", "_law_needed", "_law_most"] (defScope s__law_stopped) := ⟨rfl, rfl, rfl, by decide +kernel, rfl, by decide +kernel, by decide +kernel⟩
abbrev s_law : Stmt := top 34
theorem sc_law : FnScope ["_law_script", "_law_row_here", "_law_far", "_law_none", "_law_k", "_law_many_here", "_law_said", "_law_found", "_law_needed", "_law_most"] ["_law_script"] (defScope s_law) := ⟨rfl, rfl, rfl, by decide +kernel, rfl, by decide +kernel, by decide +kernel⟩
abbrev s__law_teller___law_tells : Stmt := inDef (top 28) 0
theorem sc__law_teller___law_tells : NScope ["_law_x", "_law_y", "_law_said", "_law_first"] ["_law_x", "_law_y"] ["_law_said"] (C8.fnScope s__law_teller___law_tells) := nscope_by (by decide +kernel)
abbrev s_LastPour___init__ : Stmt := inClass (top 13) 0
theorem sc_LastPour___init__ : FnScope ["self", "asker", "pieces", "piece"] ["self", "asker", "pieces"] (defScope s_LastPour___init__) := ⟨rfl, rfl, rfl, by decide +kernel, rfl, by decide +kernel, by decide +kernel⟩
abbrev s_LastPour_meeting : Stmt := inClass (top 13) 3
theorem sc_LastPour_meeting : FnScope ["self", "one", "other"] ["self", "one", "other"] (defScope s_LastPour_meeting) := ⟨rfl, rfl, rfl, by decide +kernel, rfl, by decide +kernel, by decide +kernel⟩
abbrev s_LastPour_hold_all : Stmt := inClass (top 13) 4
theorem sc_LastPour_hold_all : FnScope ["self", "low", "high", "here", "middle", "one"] ["self", "low", "high"] (defScope s_LastPour_hold_all) := ⟨rfl, rfl, rfl, by decide +kernel, rfl, by decide +kernel, by decide +kernel⟩
abbrev s_LastPour_way_down : Stmt := inClass (top 13) 5
theorem sc_LastPour_way_down : FnScope ["self", "number", "spans", "low", "high", "middle"] ["self", "number"] (defScope s_LastPour_way_down) := ⟨rfl, rfl, rfl, by decide +kernel, rfl, by decide +kernel, by decide +kernel⟩
abbrev s_LastPour_first : Stmt := inClass (top 13) 6
theorem sc_LastPour_first : FnScope ["self", "top"] ["self"] (defScope s_LastPour_first) := ⟨rfl, rfl, rfl, by decide +kernel, rfl, by decide +kernel, by decide +kernel⟩
abbrev s_LastPour_take : Stmt := inClass (top 13) 8
theorem sc_LastPour_take : FnScope ["self", "top", "number", "here", "anew", "low", "high", "middle"] ["self"] (defScope s_LastPour_take) := ⟨rfl, rfl, rfl, by decide +kernel, rfl, by decide +kernel, by decide +kernel⟩
structure Ad where
  HallError : Addr
  NoRule : Addr
  NoPaper : Addr
  NoPlace : Addr
  NoKey : Addr
  NoRow : Addr
  NoOrder : Addr
  TooFar : Addr
  Spent : Addr
  Pour : Addr
  LastPour : Addr
  Asker : Addr
  Rule : Addr
  AskedRule : Addr
  P : Addr
structure Txt (K : PySem.W.Frag) (mg : Str → Option Value) (A : Ad) : Prop where
  z_ValueError : mg "ValueError" = Option.none
  z_sorted : mg "sorted" = Option.none
  z_range : mg "range" = Option.none
  z_len : mg "len" = Option.none
  z_list : mg "list" = Option.none
  z_reversed : mg "reversed" = Option.none
  z_max : mg "max" = Option.none
  z_min : mg "min" = Option.none
  z_isinstance : mg "isinstance" = Option.none
  g_HallError : mg "HallError" = some (.ref A.HallError)
  xn_HallError : PySem.W.excIn K A.HallError [.type "ValueError", .type "Exception", .type "BaseException", .type "object"] "ValueError.__new__" = true
  kp_HallError : PySem.W.keepIn K (.ref A.HallError) = true
  sb_HallError : PySem.W.subIn K (.ref A.HallError) (.type "BaseException") = some true
  ty_HallError : PySem.W.typeIn K (.ref A.HallError) = some (.type "type")
  ec_HallError : L2.ExcC K A.HallError
  g_NoRule : mg "NoRule" = some (.ref A.NoRule)
  g_NoPaper : mg "NoPaper" = some (.ref A.NoPaper)
  g_NoPlace : mg "NoPlace" = some (.ref A.NoPlace)
  xn_NoPlace : PySem.W.excIn K A.NoPlace [.type "ValueError", .type "Exception", .type "BaseException", .type "object"] "ValueError.__new__" = true
  kp_NoPlace : PySem.W.keepIn K (.ref A.NoPlace) = true
  sb_NoPlace : PySem.W.subIn K (.ref A.NoPlace) (.type "BaseException") = some true
  ty_NoPlace : PySem.W.typeIn K (.ref A.NoPlace) = some (.type "type")
  ec_NoPlace : L2.ExcC K A.NoPlace
  g_NoKey : mg "NoKey" = some (.ref A.NoKey)
  g_NoRow : mg "NoRow" = some (.ref A.NoRow)
  g_NoOrder : mg "NoOrder" = some (.ref A.NoOrder)
  g_TooFar : mg "TooFar" = some (.ref A.TooFar)
  g_Spent : mg "Spent" = some (.ref A.Spent)
  ox_Spent : L2.OexC K A.Spent
  na_Spent_asked : PySem.W.findIn K (.ref A.Spent) "asked" = some none
  kp_Spent : PySem.W.keepIn K (.ref A.Spent) = true
  sb_Spent : PySem.W.subIn K (.ref A.Spent) (.type "BaseException") = some true
  ty_Spent : PySem.W.typeIn K (.ref A.Spent) = some (.type "type")
  ec_Spent : L2.ExcC K A.Spent
  g_Pour : mg "Pour" = some (.ref A.Pour)
  cl_Pour : Cls K A.Pour
  na_Pour_asker : NoAttr K A.Pour "asker"
  na_Pour_pieces : NoAttr K A.Pour "pieces"
  na_Pour_gone : NoAttr K A.Pour "gone"
  na_Pour_went_on : NoAttr K A.Pour "went_on"
  g_LastPour : mg "LastPour" = some (.ref A.LastPour)
  cl_LastPour : Cls K A.LastPour
  na_LastPour_pieces : NoAttr K A.LastPour "pieces"
  na_LastPour_asker : NoAttr K A.LastPour "asker"
  na_LastPour_gone : NoAttr K A.LastPour "gone"
  na_LastPour_went_on : NoAttr K A.LastPour "went_on"
  g_Asker : mg "Asker" = some (.ref A.Asker)
  cl_Asker : Cls K A.Asker
  na_Asker_row : NoAttr K A.Asker "row"
  na_Asker_rule : NoAttr K A.Asker "rule"
  na_Asker_most : NoAttr K A.Asker "most"
  na_Asker_asked : NoAttr K A.Asker "asked"
  na_Asker_log : NoAttr K A.Asker "log"
  g_Rule : mg "Rule" = some (.ref A.Rule)
  cl_Rule : Cls K A.Rule
  g_AskedRule : mg "AskedRule" = some (.ref A.AskedRule)
  cl_AskedRule : Cls K A.AskedRule
  na_AskedRule_teller : NoAttr K A.AskedRule "teller"
  exm_Spent_HallError : PySem.W.exmOne K (.ref A.Spent) (.ref A.HallError) = some true
  exm_NoPlace_HallError : PySem.W.exmOne K (.ref A.NoPlace) (.ref A.HallError) = some true
  kits_Spent_ValueError : PySem.W.kitOne K (.ref A.Spent) (.type "ValueError") = some true
  kits_Spent_NoPlace : PySem.W.kitOne K (.ref A.Spent) (.ref A.NoPlace) = some false
  kits_Spent_Spent : PySem.W.kitOne K (.ref A.Spent) (.ref A.Spent) = some true
  kits_Spent_NoPaper : PySem.W.kitOne K (.ref A.Spent) (.ref A.NoPaper) = some false
  kits_Spent_NoRule : PySem.W.kitOne K (.ref A.Spent) (.ref A.NoRule) = some false
  kits_Spent_NoKey : PySem.W.kitOne K (.ref A.Spent) (.ref A.NoKey) = some false
  kits_Spent_NoRow : PySem.W.kitOne K (.ref A.Spent) (.ref A.NoRow) = some false
  kits_Spent_NoOrder : PySem.W.kitOne K (.ref A.Spent) (.ref A.NoOrder) = some false
  kits_Spent_TooFar : PySem.W.kitOne K (.ref A.Spent) (.ref A.TooFar) = some false
  kits_NoPlace_ValueError : PySem.W.kitOne K (.ref A.NoPlace) (.type "ValueError") = some true
  kits_NoPlace_NoPlace : PySem.W.kitOne K (.ref A.NoPlace) (.ref A.NoPlace) = some true
  kits_NoPlace_Spent : PySem.W.kitOne K (.ref A.NoPlace) (.ref A.Spent) = some false
  kits_NoPlace_NoPaper : PySem.W.kitOne K (.ref A.NoPlace) (.ref A.NoPaper) = some false
  kits_NoPlace_NoRule : PySem.W.kitOne K (.ref A.NoPlace) (.ref A.NoRule) = some false
  kits_NoPlace_NoKey : PySem.W.kitOne K (.ref A.NoPlace) (.ref A.NoKey) = some false
  kits_NoPlace_NoRow : PySem.W.kitOne K (.ref A.NoPlace) (.ref A.NoRow) = some false
  kits_NoPlace_NoOrder : PySem.W.kitOne K (.ref A.NoPlace) (.ref A.NoOrder) = some false
  kits_NoPlace_TooFar : PySem.W.kitOne K (.ref A.NoPlace) (.ref A.TooFar) = some false
/-! ### papers -/
/-- nats in a list of the heap -/
abbrev nv (ps : List Nat) : List V := ps.map fun n : Nat => V.int n
def Pap (ps : List Nat) : Prop := ps.Perm (List.range ps.length)
theorem Pap.lt {ps : List Nat} (h : Pap ps) {p : Nat} (hp : p ∈ ps) : p < ps.length := List.mem_range.mp (h.mem_iff.mp hp)
theorem Pap.mem {ps : List Nat} (h : Pap ps) {p : Nat} (hp : p < ps.length) : p ∈ ps := h.mem_iff.mpr (List.mem_range.mpr hp)
theorem Pap.nodup {ps : List Nat} (h : Pap ps) : ps.Nodup := h.nodup_iff.mpr List.nodup_range
theorem pap_range (n : Nat) : Pap (List.range n) := by unfold Pap; rw [List.length_range]
/-- the paper back -/
def inv (ps : List Nat) : List Nat := (List.range ps.length).map fun i => ps.idxOf i
theorem inv_len (ps : List Nat) : (inv ps).length = ps.length := by simp [inv]
theorem inv_at {ps : List Nat} {i : Nat} (h : i < ps.length) : (inv ps)[i]? = some (ps.idxOf i) := by simp [inv, h]
theorem Pap.idx {ps : List Nat} (h : Pap ps) {i : Nat} (hi : i < ps.length) : ps.idxOf i < ps.length ∧ ps[ps.idxOf i]? = some i := by
  have hm := h.mem hi
  have hl := List.idxOf_lt_length_of_mem hm
  exact ⟨hl, by rw [List.getElem?_eq_getElem hl]; simp⟩
theorem Pap.idx_at {ps : List Nat} (h : Pap ps) {a p : Nat} (e : ps[a]? = some p) : ps.idxOf p = a := by
  obtain ⟨ha, e⟩ := List.getElem?_eq_some_iff.mp e
  rw [← e]
  exact List.Nodup.idxOf_getElem h.nodup a ha
/-- told[ps[a]] = a all through -/
theorem Pap.inv_of {ps told : List Nat} (h : Pap ps) (hl : told.length = ps.length) (ht : ∀ (a p : Nat), ps[a]? = some p → told[p]? = some a) : told = inv ps := by
  refine List.ext_getElem? fun i => ?_
  by_cases hi : i < ps.length
  · rw [inv_at hi]
    exact ht _ _ (h.idx hi).2
  · rw [List.getElem?_eq_none (by omega), List.getElem?_eq_none (by rw [inv_len]; omega)]
theorem Pap.inv {ps : List Nat} (h : Pap ps) : Pap (inv ps) := by
  unfold Pap
  rw [inv_len]
  refine (List.perm_ext_iff_of_nodup ?_ List.nodup_range).mpr fun a => ?_
  · unfold Law.inv
    refine List.pairwise_map.mpr (List.Pairwise.imp_of_mem ?_ List.nodup_range)
    intro x y hx hy hne e
    have ex := (h.idx (List.mem_range.mp hx)).2
    have ey := (h.idx (List.mem_range.mp hy)).2
    rw [e] at ex
    exact hne (Option.some.inj (ex.symm.trans ey))
  · unfold Law.inv
    rw [List.mem_map, List.mem_range]
    constructor
    · rintro ⟨i, hi, rfl⟩; exact (h.idx (List.mem_range.mp hi)).1
    · intro ha
      refine ⟨ps[a], List.mem_range.mpr (h.lt (List.getElem_mem ha)), h.idx_at (by simp [ha])⟩
/-- what is laid -/
def lay {α : Type} (d : α) (row : List α) (ps : List Nat) : List α := ps.map fun p => row.getD p d
theorem lay_len {α : Type} {d : α} {row : List α} {ps : List Nat} : (lay d row ps).length = ps.length := by simp [lay]
theorem lay_map {α β : Type} (f : α → β) (d : α) (row : List α) (ps : List Nat) : lay (f d) (row.map f) ps = (lay d row ps).map f := by
  unfold lay
  rw [List.map_map]
  refine List.map_congr_left fun p _ => ?_
  simp [List.getD_eq_getElem?_getD, Option.getD_map]
/-- laid by a paper and then by another one -/
theorem lay_lay {α : Type} {d : α} {row : List α} {ps qs : List Nat} (h : ∀ q ∈ qs, q < ps.length) : lay d (lay d row ps) qs = lay d row (lay 0 ps qs) := by
  unfold lay
  rw [List.map_map]
  refine List.map_congr_left fun q hq => ?_
  have := h q hq
  simp [this]
theorem lay_stay {α : Type} {d : α} {row : List α} : lay d row (List.range row.length) = row := by
  refine List.ext_getElem? fun i => ?_
  by_cases hi : i < row.length
  · simp [lay, hi]
  · rw [List.getElem?_eq_none (by rw [lay_len, List.length_range]; omega), List.getElem?_eq_none (by omega)]
theorem Pap.lay_inv {ps : List Nat} (h : Pap ps) : lay 0 ps (Law.inv ps) = List.range ps.length := by
  unfold lay Law.inv
  rw [List.map_map]
  refine (List.map_congr_left (g := id) fun i hi => ?_).trans (List.map_id _)
  have := (h.idx (List.mem_range.mp hi)).2
  simp [List.getD_eq_getElem?_getD, this]
theorem Pap.inv_lay {ps : List Nat} (h : Pap ps) : lay 0 (Law.inv ps) ps = List.range ps.length := by
  refine List.ext_getElem? fun i => ?_
  by_cases hi : i < ps.length
  · have e : ps[i]? = some ps[i] := List.getElem?_eq_getElem hi
    have e2 := inv_at (h.lt (List.getElem_mem hi))
    rw [h.idx_at e] at e2
    simp [lay, hi, List.getD_eq_getElem?_getD, e2]
  · rw [List.getElem?_eq_none (by rw [lay_len]; omega), List.getElem?_eq_none (by rw [List.length_range]; omega)]
theorem Pap.lay {ps qs : List Nat} (h : Pap ps) (k : Pap qs) (e : ps.length = qs.length) : Pap (lay 0 ps qs) := by
  unfold Pap
  rw [lay_len]
  have h1 : (Law.lay 0 ps qs).Perm (Law.lay 0 ps (List.range qs.length)) := List.Perm.map _ k
  rw [← e, lay_stay] at h1
  rw [← e]
  exact h1.trans h
/-- the back of two behind one another -/
theorem Pap.inv_two {ps qs : List Nat} (h : Pap ps) (k : Pap qs) (e : ps.length = qs.length) : Law.inv (Law.lay 0 ps qs) = Law.lay 0 (Law.inv qs) (Law.inv ps) := by
  have hb := h.lay k e
  refine (hb.inv_of (by rw [lay_len, inv_len, lay_len]; exact e) fun a p hp => ?_).symm
  have ha : a < qs.length := by
    have := (List.getElem?_eq_some_iff.mp hp).1
    rwa [lay_len] at this
  have hq : qs[a]? = some qs[a] := List.getElem?_eq_getElem ha
  have hlt := k.lt (List.getElem_mem ha)
  have hp2 : ps[qs[a]]? = some p := by
    simp only [Law.lay, List.getElem?_map, hq, Option.map_some, List.getD_eq_getElem?_getD] at hp
    rw [List.getElem?_eq_getElem (by omega)] at hp ⊢
    exact hp
  have hpl : p < ps.length := h.lt (List.mem_of_getElem? hp2)
  simp only [Law.lay, List.getElem?_map, inv_at hpl, Option.map_some, h.idx_at hp2, List.getD_eq_getElem?_getD, inv_at hlt, k.idx_at hq, Option.getD_some]
/-- put in anywhere -/
theorem Pap.insert {ps : List Nat} (h : Pap ps) (i : Nat) : Pap (ps.take i ++ [ps.length] ++ ps.drop i) := by
  unfold Pap
  have hl : (ps.take i ++ [ps.length] ++ ps.drop i).length = ps.length + 1 := by
    simp only [List.length_append, List.length_take, List.length_drop, List.length_singleton]; omega
  rw [hl, List.range_succ]
  have : (ps.take i ++ [ps.length] ++ ps.drop i).Perm (ps ++ [ps.length]) := by
    have h1 : (ps.take i ++ [ps.length] ++ ps.drop i).Perm (ps.take i ++ (ps.drop i ++ [ps.length])) := by
      rw [List.append_assoc]
      exact List.Perm.append_left _ List.perm_append_comm
    rw [← List.append_assoc, List.take_append_drop] at h1
    exact h1
  exact this.trans (List.Perm.append_right _ h)
theorem lay_succ {α : Type} {d : α} {row : List α} {qs : List Nat} {j q : Nat} (h : qs[j]? = some q) : lay d row (qs.take (j + 1)) = lay d row (qs.take j) ++ [row.getD q d] := by
  unfold lay
  rw [List.take_succ, h]
  simp
theorem nv_at {ps : List Nat} {q : Nat} (h : q < ps.length) : (nv ps)[q]? = some (.int (ps.getD q 0)) := by simp [nv, h]
theorem nv_app {ps : List Nat} {q : Nat} : nv (ps ++ [q]) = nv ps ++ [.int q] := by simp [nv]
/-! ### the function that the rule asks: it goes by the first numbers and writes down -/
def sp__law_teller___law_tells (K : PySem.W.Frag) (A : Ad) : List V → Sp := fun ws vs H Q _ => ∃ (l x y : Addr) (evs : List V) (kx ky : Int) (px py : Nat), vs = [.ref x, .ref y] ∧ (ws = [.ref l] ∧ H l = some (.lst evs) ∧ evs.length ≤ 100000 ∧ H x = some (.tup [.int kx, .int px]) ∧ H y = some (.tup [.int ky, .int py])) ∧
  ∀ t H', Stp [l] H H' → H' l = some (.lst (evs ++ [.ref t])) → H' t = some (.tup [.int px, .int py, .bl (decide (kx < ky))]) → Q (.bl (decide (kx < ky))) H'
abbrev Clo1 (H : Hp) (f : Addr) (ws : List V) (cl : List (Str × Addr)) (c' : Addr) : Prop := SH.Clo H f s__law_teller___law_tells "_law_tells" "_law_teller.<locals>._law_tells" ["_law_said"] ws cl c'
abbrev telAt : Addr → Hp → Prop := fun f H => ∃ ws cl c', SH.Clo H f s__law_teller___law_tells "_law_tells" "_law_teller.<locals>._law_tells" ["_law_said"] ws cl c'
abbrev telSp (K : PySem.W.Frag) (A : Ad) : Addr → Sp := fun f vs H Q E => ∃ ws cl c', SH.Clo H f s__law_teller___law_tells "_law_tells" "_law_teller.<locals>._law_tells" ["_law_said"] ws cl c' ∧ sp__law_teller___law_tells K A ws vs H Q E
theorem cok__law_teller___law_tells {P : Program} {w : World} {K : PySem.W.Frag} {mg : Str → Option Value} {base : Heap} {A : Ad} (T : Txt K mg A) : SH.COk P w K mg base CX0 1 s__law_teller___law_tells "_law_tells" "_law_teller.<locals>._law_tells" ["_law_x", "_law_y"] ["_law_said"] (sp__law_teller___law_tells K A) := by
  refine SH.cok_of sc__law_teller___law_tells (fun _ _ _ _ _ us hl => match us, hl with | [_, _], _ => rfl) (fun ws vs H Q E h => by obtain ⟨_, _, _, _, _, _, _, _, rfl, _⟩ := h; rfl) (fun A' outer s f cl c' H H0 vs ws Q Q0 E hr h hw lo fin => ?_)
  obtain ⟨l, x, y, evs, kx, ky, px, py, rfl, ⟨rfl, hl, hle, hx, hy⟩, k⟩ := h
  refine ⟨_, (pss_cons (ps_set (i := 3) sc__law_teller___law_tells.nd rfl (Or.inl rfl) (pe_cmpR (SH.oLt hr.units0) (pe_ix SH.ixA (pv 0) pe_int (fun _ _ => rfl)) (pe_ix SH.ixA (pv 1) pe_int (fun _ _ => rfl)) (nomark _)))
        (pss_cons (ps_expr (pe_bm PySem.F.plainAttrs_list PySem.F.slot_list_append PySem.F.type_list_append mt_append (pv 2) (pa_cons (pe_tup (pa_cons (pe_ix SH.ixA (pv 0) pe_int (fun _ _ => rfl)) (pa_cons (pe_ix SH.ixA (pv 1) pe_int (fun _ _ => rfl)) (pa_cons (pv 3) pa_nil)))) pa_nil)))
        (pss_one (ps_ret (pv 3))))), ?_⟩
  show (_ : TS) _ [some (.ref x), some (.ref y), some (.ref l), none] H0
  dsimp only [NdefX.ncx]
  have hl0 := lo _ _ hl True.intro
  have hx0 := lo _ _ hx True.intro
  have hy0 := lo _ _ hy True.intro
  walk_at "rd"
  refine v_ixTn (n := 0) (SqT.of hx0) rfl rfl ?_
  walk_at "rd"
  refine v_ixTn (n := 0) (SqT.of hy0) rfl rfl ?_
  walk_at "rd"
  refine v_ixTn (n := 1) (SqT.of hx0) rfl rfl ?_
  walk_at "rd"
  refine v_ixTn (n := 1) (SqT.of hy0) rfl rfl ?_
  walk_at "rd"
  intro t ht
  walk_at "rd"
  have ntl : t ≠ l := (ne_of_none hl0 ht).symm
  refine v_app (upd_old hl0 ht) (by omega) ?_
  walk_at "rd"
  refine fin _ [l] _ (((Stp.refl [l] H0).new ht).putL (by simp) (upd_old hl0 ht)) fun H' S hsub => ?_
  exact k t H' S (hsub l _ upd_same) (hsub t _ (upd_far ntl upd_same))
abbrev Tb (A : Ad) : List NTab := [(A.P, fun _ _ => "_law_teller.<locals>._law_tells")]
def sp__law_teller (K : PySem.W.Frag) (A : Ad) : Sp := fun vs H Q _ => ∃ (p0 : V), vs = [p0] ∧ TabsN (Tb A) H ∧ ∀ (f' : Addr) (H' : Hp) (cl : List (Str × Addr)) (c' : Addr), ExtN H H' → (∀ b, H' b = none → H b = none) → TabsN (Tb A) H' → H f' = none → SH.Clo H' f' s__law_teller___law_tells "_law_tells" "_law_teller.<locals>._law_tells" ["_law_said"] [p0] cl c' → Q (.ref f') H'
theorem ok__law_teller {P : Program} {w : World} {K : PySem.W.Frag} {mg : Str → Option Value} {base : Heap} {A : Ad} {f c : Addr} {dV kV doc pm ct oc : Value} {an od : Option Addr} {osl : Array (Option Value)} (lk : K.lookup f = some ⟨oc, od, .func (PySem.W.fnOf "_law_teller" "_law_teller" (defArgs s__law_teller) (defBody s__law_teller) (defScope s__law_teller) dV kV doc pm an (.ref c) ct), osl⟩) (hcd : PySem.W.codeIn K (.ref c) "_law_teller" = true) (TB : LamX.TabB base mg c A.P) :
    FnOk P w K mg base CX0 1 f (PySem.W.fnOf "_law_teller" "_law_teller" (defArgs s__law_teller) (defBody s__law_teller) (defScope s__law_teller) dV kV doc pm an (.ref c) ct) ["_law_said"] (sp__law_teller K A) := by
  refine SH.maker (T := Tb A) (fr := ["_law_said"]) (ps := ["_law_said"]) (i := 1) (st := s__law_teller___law_tells) (ix := [0]) lk hcd sc__law_teller rfl rfl TB (List.mem_singleton.mpr rfl) rfl (fun p hp _ => by rw [List.mem_singleton] at hp; rw [hp]) (fun _ _ => rfl) (by decide +kernel) (by decide +kernel) (by decide +kernel) rfl rfl (fun _ => rfl) rfl rfl (by decide) (by decide) (by decide) rfl (fun vs H Q E h => by obtain ⟨_, rfl, _⟩ := h; rfl) (fun vs H Q E h => ?_)
  obtain ⟨p0, rfl, h1, h2⟩ := h
  exact ⟨h1, h2⟩
/-! ### asks: the later place, the earlier one, what was told -/
abbrev Ent := T3 Nat Nat Bool
/-- all entries are what the oracle tells -/
def Told (or : List Ent → Nat → Nat → Bool) : List Ent → List Ent → Prop
  | _, [] => True
  | log, e :: es => e.c = or log e.a e.b ∧ Told or (log ++ [e]) es
theorem Told.app {or : List Ent → Nat → Nat → Bool} : ∀ {log es fs : List Ent}, Told or log es → Told or (log ++ es) fs → Told or log (es ++ fs)
  | log, [], fs, _, h => by simpa using h
  | log, e :: es, fs, h, k => ⟨h.1, Told.app h.2 (by simpa using k)⟩
theorem Told.one {or : List Ent → Nat → Nat → Bool} {log : List Ent} {e : Ent} (h : e.c = or log e.a e.b) : Told or log [e] := ⟨h, True.intro⟩
/-- an oracle that doesn't look at the log -/
theorem Told.all {lt : Nat → Nat → Bool} : ∀ {log es : List Ent}, Told (fun _ => lt) log es → ∀ e ∈ es, e.c = lt e.a e.b
  | log, [], _, e, h => by cases h
  | log, e' :: es, h, e, he => by
    rcases List.mem_cons.mp he with z | he
    · rw [z]; exact h.1
    · exact Told.all h.2 e he
theorem max_v (p q : Nat) : (if (q : Int) > (p : Int) then (q : Int) else (p : Int)) = ((max p q : Nat) : Int) := by split <;> omega
theorem min_v (p q : Nat) : (if (q : Int) < (p : Int) then (q : Int) else (p : Int)) = ((min p q : Nat) : Int) := by split <;> omega
def AskF (r : Addr) (u : V) (n : Nat) (l : Addr) : List (Str × V) := [("row", .ref r), ("rule", u), ("most", .non), ("asked", .int n), ("log", .ref l)]
def sp_Spent___init__ (K : PySem.W.Frag) (A : Ad) : Sp := sp1 "asked" A.Spent
theorem ok_Spent___init__ {P : Program} {w : World} {K : PySem.W.Frag} {mg : Str → Option Value} {base : Heap} {A : Ad} {f : Addr} {fd : FuncData} (F : Fun K "__init__" "Spent.__init__" s_Spent___init__ f fd) (T : Txt K mg A)  : FnOk P w K mg base CX0 1 f fd ["self", "asked"] (sp_Spent___init__ K A) := by
  refine F.ok sc_Spent___init__ (fun vs H Q E h => by obtain ⟨_, _, rfl, _⟩ := h; rfl) (fun cdv A' outer s H vs Q E hr h => ?_)
  obtain ⟨a, v, rfl, ha, k⟩ := h
  refine ⟨_, (pss_one (L2.ps_ost (pv 0) (pv 1))), ?_⟩
  walk_at "begin"
  walk_at "rd"
  refine ⟨a, A.Spent, rfl, T.ox_Spent, T.na_Spent_asked, .inl ⟨ha, fun dx h1 h2 => ?_⟩⟩
  exact k dx h1 h2
theorem r_J {t : TS} {D : Ends} {σ : L2.St} {H : Hp} (P : L2.St → Hp → Prop) (hk : ∀ σ' H', P σ' H' → D.nx σ' H') (h : ∀ N : L2.St → Hp → Prop, (∀ σ' H', P σ' H' → N σ' H') → t { D with nx := N } σ H) : t D σ H := h D.nx hk
def mV : Option Nat → V
  | none => .non
  | some n => .int (n : Nat)
def AskM (r : Addr) (u : V) (m : Option Nat) (n : Nat) (l : Addr) : List (Str × V) := [("row", .ref r), ("rule", u), ("most", mV m), ("asked", .int n), ("log", .ref l)]
def sp_AskedRule___init__ (K : PySem.W.Frag) (A : Ad) : Sp := fun vs H Q _ => ∃ (s : Addr) (f : V), vs = [.ref s, f] ∧ (∃ dx, H s = some (.ins A.AskedRule dx [])) ∧ ∀ dx, Q .non (upd H s (.ins A.AskedRule dx [("teller", f)]))
theorem ok_AskedRule___init__ {P : Program} {w : World} {K : PySem.W.Frag} {mg : Str → Option Value} {base : Heap} {A : Ad} {f : Addr} {fd : FuncData} (F : Fun K "__init__" "AskedRule.__init__" s_AskedRule___init__ f fd) (T : Txt K mg A)  : FnOk P w K mg base CX0 1 f fd ["self", "teller"] (sp_AskedRule___init__ K A) := by
  refine F.ok sc_AskedRule___init__ (fun vs H Q E h => by obtain ⟨_, _, rfl, _⟩ := h; rfl) (fun cdv A' outer s H vs Q E hr h => ?_)
  obtain ⟨s', f', rfl, ⟨dx, hs⟩, k⟩ := h
  refine ⟨_, (pss_one (SH.ps_fldF T.cl_AskedRule T.na_AskedRule_teller (pv 0) (pv 1) rfl)), ?_⟩
  walk_at "begin"
  walk_at "rd"
  exact k dx

def sp_AskedRule_before (K : PySem.W.Frag) (A : Ad) : Sp := fun vs H Q E => ∃ (u f x y d : Addr), vs = [.ref u, .ref x, .ref y] ∧ H u = some (.ins A.AskedRule d [("teller", .ref f)]) ∧ telAt f H ∧ telSp K A f [.ref x, .ref y] H Q (fun _ _ _ => False)
theorem ok_AskedRule_before {P : Program} {w : World} {K : PySem.W.Frag} {mg : Str → Option Value} {base : Heap} {A : Ad} {f : Addr} {fd : FuncData} (F : Fun K "before" "AskedRule.before" s_AskedRule_before f fd) (T : Txt K mg A) (TEL : SH.TelOk P w K mg base 1 telAt (telSp K A)) : FnOk P w K mg base CX0 2 f fd ["self", "x", "y"] (sp_AskedRule_before K A) := by
  refine F.ok sc_AskedRule_before (fun vs H Q E h => by obtain ⟨_, _, _, _, _, rfl, _⟩ := h; rfl) (fun cdv A' outer s H vs Q E hr h => ?_)
  obtain ⟨u, f', x, y, d, rfl, hu, hat, k⟩ := h
  refine ⟨_, (pss_cons (ps_set (i := 3) sc_AskedRule_before.nd rfl (Or.inl rfl) (SH.pe_fldF T.cl_AskedRule T.na_AskedRule_teller (pv 0)))
        (pss_one (ps_ret (SH.pe_callTel (i := 3) TEL hr rfl (Or.inl rfl) (pa_cons (pv 1) (pa_cons (pv 2) pa_nil)))))), ?_⟩
  walk_at "begin"
  walk_at "rd"
  refine SH.r_tel rfl hat ?_
  walk_at "rd"
  exact k

/-! ### the asker of a function that goes by keys and writes down -/
/-- a row of pairs (key, place) -/
def RowP (H : Hp) (row : List V) (ks : List Int) : Prop := row.length = ks.length ∧ ∀ (i : Nat) (v : V), row[i]? = some v → ∃ (t : Addr), v = .ref t ∧ H t = some (.tup [.int (getE ks i), .int (i : Nat)])
theorem RowP.stp {M : List Addr} {H H' : Hp} {row : List V} {ks : List Int} (h : RowP H row ks) (S : Stp M H H') : RowP H' row ks :=
  ⟨h.1, fun i v e => by obtain ⟨t, h1, h2⟩ := h.2 i v e; exact ⟨t, h1, S.tup h2⟩⟩
theorem RowP.app {H : Hp} {row : List V} {ks : List Int} {t : Addr} {k : Int} (h : RowP H row ks) (ht : H t = some (.tup [.int k, .int (row.length : Nat)])) : RowP H (row ++ [.ref t]) (ks ++ [k]) := by
  refine ⟨by simp [h.1], fun i v e => ?_⟩
  by_cases hi : i < row.length
  · rw [List.getElem?_append_left hi] at e
    obtain ⟨t', a, b⟩ := h.2 i v e
    exact ⟨t', a, by rw [getE_app (by rw [← h.1]; exact hi)]; exact b⟩
  · rw [List.getElem?_append_right (by omega)] at e
    have hz : i = row.length := by
      have := (List.getElem?_eq_some_iff.mp e).1
      simp at this; omega
    subst hz
    simp at e
    exact ⟨t, e.symm, by rw [getE_last h.1.symm]; exact ht⟩
structure Ask where
  s : Addr
  r : Addr
  l : Addr
  dx : Addr
  u : Addr
  du : Addr
  f : Addr
  tl : Addr
  cl : List (Str × Addr)
  cc : Addr
  ks : List Int
  row : List V
  pre : List Ent
  m : Option Nat
def Ask.n (I : Ask) : Nat := I.ks.length
def Ask.M (I : Ask) : List Addr := [I.s, I.l, I.tl]
def Ask.own (I : Ask) : List Addr := [I.s, I.l, I.tl, I.r, I.u]
def Ask.lt (I : Ask) (p q : Nat) : Bool := decide (getE I.ks p < getE I.ks q)
def Ask.or (I : Ask) : List Ent → Nat → Nat → Bool := fun _ => I.lt
structure Ask.At (I : Ask) (K : PySem.W.Frag) (A : Ad) (H : Hp) (log : List Ent) : Prop where
  hs : H I.s = some (.ins A.Asker I.dx (AskM I.r (.ref I.u) I.m log.length I.l))
  hr : H I.r = some (.lst I.row)
  hl : ∃ evs, H I.l = some (.lst evs) ∧ IsL K H evs log
  hu : H I.u = some (.ins A.AskedRule I.du [("teller", .ref I.f)])
  ht : ∃ evs, H I.tl = some (.lst evs) ∧ IsL K H evs (I.pre ++ log)
  hf : Clo1 H I.f [.ref I.tl] I.cl I.cc
  rk : RowP H I.row I.ks
  d1 : I.s ≠ I.u
  d2 : I.l ≠ I.r
  d3 : I.tl ≠ I.r
  d4 : I.l ≠ I.tl
  few : log.length + I.pre.length ≤ 100000
  rows : I.row.length ≤ 100000
  bd : ∀ m, I.m = some m → log.length ≤ m
theorem Ask.At.stp {I : Ask} {K : PySem.W.Frag} {A : Ad} {M : List Addr} {H H' : Hp} {log : List Ent} (h : I.At K A H log) (S : Stp M H H') (hM : ∀ m ∈ M, m ∉ I.own) : I.At K A H' log := by
  have k : ∀ b o, b ∈ I.own → H b = some o → H' b = some o := fun b o hb e => S.keep e fun z => hM b z hb
  obtain ⟨evs, h1, h2⟩ := h.hl
  obtain ⟨tvs, h3, h4⟩ := h.ht
  exact ⟨k _ _ (by simp [Ask.own]) h.hs, k _ _ (by simp [Ask.own]) h.hr, ⟨evs, k _ _ (by simp [Ask.own]) h1, isl_stpM S h2⟩, k _ _ (by simp [Ask.own]) h.hu, ⟨tvs, k _ _ (by simp [Ask.own]) h3, isl_stpM S h4⟩, h.hf.step S, h.rk.stp S, h.d1, h.d2, h.d3, h.d4, h.few, h.rows, h.bd⟩
theorem Ask.At.n_row {I : Ask} {K : PySem.W.Frag} {A : Ad} {H : Hp} {log : List Ent} (h : I.At K A H log) : I.row.length = I.n := h.rk.1

/-- a way is stopped: the asks so far, es, are the first of those that it would have made, es ++ es' -/
def Stop (I : Ask) (K : PySem.W.Frag) (A : Ad) (H : Hp) (log : List Ent) (R : List Ent → Prop) (E : XK) : Prop := ∀ (H' : Hp) (d : Addr) (es es' : List Ent), R (es ++ es') → es' ≠ [] → Told I.or log (es ++ es') → I.m = some (log.length + es.length) → Stp I.M H H' → I.At K A H' (log ++ es) → H d = none → H' d = some (.xd [("asked", .int ((log.length + es.length : Nat) : Int))]) → E (.ref A.Spent) (some d) H'
theorem Stop.free {I : Ask} {K : PySem.W.Frag} {A : Ad} {H : Hp} {log : List Ent} {R : List Ent → Prop} {E : XK} (h : I.m = none) : Stop I K A H log R E := fun _ _ _ _ _ _ _ hm => by rw [h] at hm; cases hm
theorem Stop.sub {I : Ask} {K : PySem.W.Frag} {A : Ad} {H H1 : Hp} {log es1 : List Ent} {R R1 : List Ent → Prop} {E : XK} (h : Stop I K A H log R E) (S : Stp I.M H H1) (hT : Told I.or log es1) (hR : ∀ es2, R1 es2 → Told I.or (log ++ es1) es2 → ∃ es3, Told I.or (log ++ es1 ++ es2) es3 ∧ R (es1 ++ es2 ++ es3)) : Stop I K A H1 (log ++ es1) R1 E := fun H' d es es' h1 hne hT1 hm S' hA hd hx => by
  obtain ⟨es3, hT3, hR3⟩ := hR _ h1 hT1
  have e : es1 ++ (es ++ es') ++ es3 = es1 ++ es ++ (es' ++ es3) := by simp
  have el : (log ++ es1).length + es.length = log.length + (es1 ++ es).length := by simp; omega
  rw [e] at hR3
  rw [el] at hm hx
  refine h H' d (es1 ++ es) (es' ++ es3) hR3 (by simp [hne]) ?_ hm (S.trans S') (by rw [← List.append_assoc]; exact hA) (S.dom _ hd) hx
  rw [← e]
  exact Told.app (Told.app hT hT1) (by rw [← List.append_assoc]; exact hT3)
theorem Stop.ask {I : Ask} {K : PySem.W.Frag} {A : Ad} {H H1 : Hp} {log es : List Ent} {R : List Ent → Prop} {E : XK} {x y : Nat} (h : Stop I K A H log R E) (S : Stp I.M H H1) (hT : Told I.or log es) (hr : ∃ c es3, Told I.or (log ++ es) ((⟨x, y, c⟩ : Ent) :: es3) ∧ R (es ++ (⟨x, y, c⟩ : Ent) :: es3)) : Stop I K A H1 (log ++ es) (fun es2 => ∃ said, es2 = [(⟨x, y, said⟩ : Ent)]) E := by
  refine h.sub S hT fun es2 ⟨said, e⟩ hT2 => ?_
  subst e
  obtain ⟨c, es3, hT3, hR⟩ := hr
  obtain rfl : said = c := hT2.1.trans hT3.1.symm
  exact ⟨es3, hT3.2, by rw [List.append_assoc]; exact hR⟩
def sp_Asker_ahead (K : PySem.W.Frag) (A : Ad) : Sp := fun vs H Q E => ∃ (I : Ask) (log : List Ent) (p q : Nat), vs = [.ref I.s, .int p, .int q] ∧ (I.At K A H log ∧ p < I.n ∧ q < I.n ∧ p ≠ q ∧ log.length + I.pre.length < 100000) ∧
  Stop I K A H log (fun es => ∃ said, es = [⟨max p q, min p q, said⟩]) E ∧
  ∀ H' said, said = I.or log (max p q) (min p q) → Stp I.M H H' → I.At K A H' (log ++ [⟨max p q, min p q, said⟩]) → Q (.bl (decide (said = decide (q < p)))) H'
theorem ok_Asker_ahead {P : Program} {w : World} {K : PySem.W.Frag} {mg : Str → Option Value} {base : Heap} {A : Ad} {f : Addr} {fd : FuncData} (F : Fun K "ahead" "Asker.ahead" s_Asker_ahead f fd) (T : Txt K mg A) (M_AskedRule_before : SH.CalM P w K mg base CX0 2 A.AskedRule "before" [] (sp_AskedRule_before K A)) (X_Spent : SH.CalE P w K mg base 1 "Spent" A.Spent (sp_Spent___init__ K A)) : FnOk P w K mg base (L2N.CX P w) 3 f fd ["self", "p", "q"] (sp_Asker_ahead K A) := by
  refine SH.okN F sc_Asker_ahead (fun vs H Q E h => by obtain ⟨_, _, _, _, rfl, _⟩ := h; rfl) (fun cdv A' outer s H vs Q E hr h => ?_)
  obtain ⟨I, log, p, q, rfl, ⟨hA, hp, hq, hne, hlog⟩, kx, k⟩ := h
  refine ⟨_, (pss_cons (ps_if (PW.pt (pw_and (pt_cmpR SH.oNotN (SH.pe_fldF T.cl_Asker T.na_Asker_most (pv 0)) pe_non (nomark _)) (pw_and1 (pt_cmpR SH.oGe (SH.pe_fldF T.cl_Asker T.na_Asker_asked (pv 0)) (SH.pe_fldF T.cl_Asker T.na_Asker_most (pv 0)) (nomark _))))) (pss_one (L2N.ps_raise rfl (L2N.takes_of rfl rfl rfl rfl) (SH.pmk_oexN X_Spent hr (by rfl) (pa_cons (SH.pe_fldF T.cl_Asker T.na_Asker_asked (pv 0)) pa_nil)))) pss_nil)
        (pss_cons (ps_set (i := 3) sc_Asker_ahead.nd rfl (Or.inl rfl) (pe_callB (SH.cMax2 rfl) (by rfl) T.z_max (by decide +kernel) (pa_cons (pv 1) (pa_cons (pv 2) pa_nil))))
        (pss_cons (ps_set (i := 4) sc_Asker_ahead.nd rfl (Or.inl rfl) (pe_callB (SH.cMin2 rfl) (by rfl) T.z_min (by decide +kernel) (pa_cons (pv 1) (pa_cons (pv 2) pa_nil))))
        (pss_cons (ps_set (i := 5) sc_Asker_ahead.nd rfl (Or.inl rfl) (SH.pe_methF (SH.pe_fldF T.cl_Asker T.na_Asker_rule (pv 0)) M_AskedRule_before hr pass0 (pa_cons (pe_ix SH.ixA (SH.pe_fldF T.cl_Asker T.na_Asker_row (pv 0)) (pv 3) (fun _ _ => rfl)) (pa_cons (pe_ix SH.ixA (SH.pe_fldF T.cl_Asker T.na_Asker_row (pv 0)) (pv 4) (fun _ _ => rfl)) pa_nil))))
        (pss_cons (SH.ps_fldaugF T.cl_Asker T.na_Asker_asked (pv 0) pe_int SH.in_add')
        (pss_cons (ps_expr (pe_bm PySem.F.plainAttrs_list PySem.F.slot_list_append PySem.F.type_list_append mt_append (SH.pe_fldF T.cl_Asker T.na_Asker_log (pv 0)) (pa_cons (pe_tup (pa_cons (pv 3) (pa_cons (pv 4) (pa_cons (pv 5) pa_nil)))) pa_nil)))
        (pss_one (ps_ret (pe_cmpR (SH.oEq hr.units) (pv 5) (pe_cmpR (SH.oEq hr.units) (pv 1) (pv 3) (nomark _)) (nomark _)))))))))), ?_⟩
  walk_at "begin"
  have hA0 := hA
  have hn := hA.n_row
  obtain ⟨hs, hr, ⟨evs, hl, hev⟩, hu, ⟨tvs, ht, htv⟩, hf, rk, d1, d2, d3, d4, few, rows, bd⟩ := hA
  have nsl : I.s ≠ I.l := ne_of hs hl (by intro z; cases z)
  have nst : I.s ≠ I.tl := ne_of hs ht (by intro z; cases z)
  have nsr : I.s ≠ I.r := ne_of hs hr (by intro z; cases z)
  have nlu : I.l ≠ I.u := ne_of hl hu (by intro z; cases z)
  have ntu : I.tl ≠ I.u := ne_of ht hu (by intro z; cases z)
  unfold AskM at hs
  walk_at "ri"
  refine r_J (fun σ' H' => (I.m ≠ some log.length ∧ H' = H) ∧ σ' = [some (.ref I.s), some (.int p), some (.int q), none, none, none]) ?_ fun N hN => ?_
  rotate_left
  · walk_at "rd"
    cases hm : I.m with
    | none =>
      rw [hm] at hs
      rw [show (!decide (mV none = V.non)) = false by simp [mV], if_neg (by simp)]
      walk_at "rd"
      exact hN _ _ ⟨⟨by rw [hm]; simp, rfl⟩, rfl⟩
    | some m =>
      have hbm := bd m hm
      rw [hm] at hs
      rw [show (!decide (mV (some m) = V.non)) = true by simp [mV], if_pos rfl]
      unfold mV at hs
      walk_at "rd"
      refine r_w (fun hc => ?_) fun hc => ?_
      · obtain rfl : m = log.length := by omega
        walk_at "rd"
        refine v_raise1 fun d hd => ?_
        have S := (Stp.refl [] H).new (o := .xd [("asked", .int (log.length : Nat))]) hd
        exact kx _ d [] [⟨max p q, min p q, I.or log (max p q) (min p q)⟩] ⟨_, rfl⟩ (by simp) ⟨rfl, True.intro⟩ hm (S.mono (by simp)) (by rw [List.append_nil]; exact hA0.stp S (by simp)) hd upd_same
      · walk_at "rd"
        exact hN _ _ ⟨⟨by rw [hm]; simp; omega, rfl⟩, rfl⟩
  rintro σ' H0 ⟨⟨hm, rfl⟩, rfl⟩
  dsimp only
  walk_at "rd"
  rw [max_v, min_v]
  have hmx : max p q < I.row.length := by omega
  have hmn : min p q < I.row.length := by omega
  obtain ⟨t1, e1, ht1⟩ := rk.2 (max p q) _ (List.getElem?_eq_getElem hmx)
  obtain ⟨t2, e2, ht2⟩ := rk.2 (min p q) _ (List.getElem?_eq_getElem hmn)
  walk_at "rd"
  refine v_ixLn (n := max p q) (SqL.of hr) rfl ((List.getElem?_eq_getElem hmx).trans (congrArg some e1)) ?_
  walk_at "rd"
  refine v_ixLn (n := min p q) (SqL.of hr) rfl ((List.getElem?_eq_getElem hmn).trans (congrArg some e2)) ?_
  walk_at "rd"
  have htl := isl_len htv
  rw [List.length_append] at htl
  refine ⟨I.u, I.f, t1, t2, I.du, rfl, hu, ⟨_, _, _, hf⟩, _, _, _, hf, I.tl, t1, t2, tvs, _, _, _, _, rfl, ⟨rfl, ht, by omega, ht1, ht2⟩, fun t3 H1 S1 hT1 ht3 => ?_⟩
  have ek : decide (getE I.ks (max p q) < getE I.ks (min p q)) = I.or log (max p q) (min p q) := rfl
  rw [ek] at ht3 ⊢
  generalize hsaid : I.or log (max p q) (min p q) = said at ht3 ⊢
  have hs1 := S1.keep1 hs nst
  have hr1 := S1.keep1 hr d3.symm
  have hl1 := S1.keep1 hl d4
  have hu1 := S1.keep1 hu ntu.symm
  walk_at "rd"
  intro tp htp
  have htp0 : H1 tp = none := (upd_free htp).1
  walk_at "rd"
  have hl2 : upd (upd H1 I.s (.ins A.Asker I.dx [("row", .ref I.r), ("rule", .ref I.u), ("most", mV I.m), ("asked", .int (log.length + 1)), ("log", .ref I.l)])) tp (.tup [.int (max p q : Nat), .int (min p q : Nat), .bl said]) I.l = some (.lst evs) := by
    rw [upd_ne (ne_of_none hl1 htp0), upd_ne nsl.symm]; exact hl1
  have hel := isl_len hev
  refine v_app hl2 (by omega) ?_
  walk_at "rd"
  have epl : decide ((p : Int) = ((max p q : Nat) : Int)) = decide (q < p) := by
    apply decide_eq_decide.mpr; omega
  rw [epl]
  have S2 : Stp I.M H1 (upd (upd (upd H1 I.s (.ins A.Asker I.dx [("row", .ref I.r), ("rule", .ref I.u), ("most", mV I.m), ("asked", .int (log.length + 1)), ("log", .ref I.l)])) tp (.tup [.int (max p q : Nat), .int (min p q : Nat), .bl said])) I.l (.lst (evs ++ [.ref tp]))) :=
    (((Stp.refl I.M H1).putM (by simp [Ask.M]) hs1 (fun z => z)).new htp).putM (by simp [Ask.M]) hl2 (fun z => z)
  have S : Stp I.M H0 _ := (S1.mono (M' := I.M) (by simp [Ask.M])).trans S2
  refine k _ said hsaid.symm S ?_
  have ntl : tp ≠ I.l := (ne_of_none hl1 htp0).symm
  have nts : tp ≠ I.s := (ne_of_none hs1 htp0).symm
  have keep : ∀ {b o}, b ≠ I.l → b ≠ I.s → H1 b = some o → upd (upd (upd H1 I.s (.ins A.Asker I.dx [("row", .ref I.r), ("rule", .ref I.u), ("most", mV I.m), ("asked", .int (log.length + 1)), ("log", .ref I.l)])) tp (.tup [.int (max p q : Nat), .int (min p q : Nat), .bl said])) I.l (.lst (evs ++ [.ref tp])) b = some o := fun {b o} h1 h2 h3 => by
    rw [upd_ne h1, upd_ne (ne_of_none h3 htp0), upd_ne h2]; exact h3
  refine ⟨?_, keep d2.symm nsr.symm hr1, ⟨evs ++ [.ref tp], upd_same, isl_app (isl_stpM S hev) (isl_cons (is_t3 (SqT.of (by rw [upd_ne ntl]; exact upd_same)) is_nat is_nat is_bl) isl_nil)⟩, keep nlu.symm d1.symm hu1,
    ⟨tvs ++ [.ref t3], keep d4.symm nst.symm hT1, ?_⟩, hf.step S, rk.stp S, d1, d2, d3, d4, by simp; omega, rows, fun m e => by
      have := bd m e
      have : m ≠ log.length := fun z => hm (by rw [e, z])
      simp; omega⟩
  · rw [upd_ne nsl, upd_ne nts.symm, upd_same]
    simp [AskM]
  · rw [← List.append_assoc]
    exact isl_app (isl_stpM S htv) (isl_cons (is_t3 (SqT.of (S2.tup ht3)) is_nat is_nat is_bl) isl_nil)

def Ask.wide (I : Ask) (n : Nat) : Ask := { I with m := I.m.map (· + n) }
theorem wide_some {I : Ask} {n m : Nat} (h : I.m = some m) : (I.wide n).m = some (m + n) := by unfold Ask.wide; rw [h]; rfl
theorem wide_none {I : Ask} {n : Nat} (h : I.m = none) : I.wide n = I := by unfold Ask.wide; rw [h]; cases I; dsimp only at h; subst h; rfl
def sp_Asker_widen (K : PySem.W.Frag) (A : Ad) : Sp := fun vs H Q _ => ∃ (I : Ask) (log : List Ent) (n : Nat), vs = [.ref I.s, .int n] ∧ I.At K A H log ∧ ∀ H', Stp [I.s] H H' → (I.wide n).At K A H' log → Q .non H'
theorem ok_Asker_widen {P : Program} {w : World} {K : PySem.W.Frag} {mg : Str → Option Value} {base : Heap} {A : Ad} {f : Addr} {fd : FuncData} (F : Fun K "widen" "Asker.widen" s_Asker_widen f fd) (T : Txt K mg A)  : FnOk P w K mg base CX0 1 f fd ["self", "more"] (sp_Asker_widen K A) := by
  refine F.ok sc_Asker_widen (fun vs H Q E h => by obtain ⟨_, _, _, rfl, _⟩ := h; rfl) (fun cdv A' outer s H vs Q E hr h => ?_)
  obtain ⟨I, log, n, rfl, hA, k⟩ := h
  refine ⟨_, (pss_one (ps_if (pt_cmpR SH.oNotN (SH.pe_fldF T.cl_Asker T.na_Asker_most (pv 0)) pe_non (nomark _)) (pss_one (SH.ps_fldaugF T.cl_Asker T.na_Asker_most (pv 0) (pv 1) SH.in_add')) pss_nil)), ?_⟩
  walk_at "begin"
  have hA0 := hA
  obtain ⟨hs, hr, ⟨evs, hl, hev⟩, hu, ⟨tvs, ht, htv⟩, hf, rk, d1, d2, d3, d4, few, rows, bd⟩ := hA
  unfold AskM at hs
  walk_at "rd"
  cases hm : I.m with
  | none =>
    rw [hm] at hs
    rw [show (!decide (mV none = V.non)) = false by simp [mV], if_neg (by simp)]
    walk_at "rd"
    refine k H (.refl _ _) ?_
    rw [wide_none hm]
    exact hA0
  | some m =>
    rw [hm] at hs
    rw [show (!decide (mV (some m) = V.non)) = true by simp [mV], if_pos rfl]
    unfold mV at hs
    walk_at "rd"
    have S : Stp [I.s] H (upd H I.s (.ins A.Asker I.dx [("row", .ref I.r), ("rule", .ref I.u), ("most", .int ((m : Int) + (n : Int))), ("asked", .int log.length), ("log", .ref I.l)])) := (Stp.refl _ _).putI (by simp) hs
    have nsl : I.s ≠ I.l := ne_of hs hl (by intro z; cases z)
    have nsr : I.s ≠ I.r := ne_of hs hr (by intro z; cases z)
    have nst : I.s ≠ I.tl := ne_of hs ht (by intro z; cases z)
    refine k _ S ⟨?_, S.keep1 hr nsr.symm, ⟨evs, S.keep1 hl nsl.symm, isl_stpM S hev⟩, S.keep1 hu d1.symm, ⟨tvs, S.keep1 ht nst.symm, isl_stpM S htv⟩, hf.step S, rk.stp S, d1, d2, d3, d4, few, rows, fun m' e => ?_⟩
    · show upd H I.s _ I.s = some (.ins A.Asker I.dx (AskM I.r (.ref I.u) (I.wide n).m log.length I.l))
      rw [upd_same, wide_some hm]
      have e : mV (some (m + n)) = .int ((m : Int) + (n : Int)) := by unfold mV; congr 1
      unfold AskM
      rw [e]
    · rw [wide_some hm] at e
      cases e
      have := bd m hm
      omega
def sp_Asker_many (K : PySem.W.Frag) (A : Ad) : Sp := fun vs H Q _ => ∃ (I : Ask) (log : List Ent), vs = [.ref I.s] ∧ I.At K A H log ∧ Q (.int I.n) H
theorem ok_Asker_many {P : Program} {w : World} {K : PySem.W.Frag} {mg : Str → Option Value} {base : Heap} {A : Ad} {f : Addr} {fd : FuncData} (F : Fun K "many" "Asker.many" s_Asker_many f fd) (T : Txt K mg A)  : FnOk P w K mg base CX0 1 f fd ["self"] (sp_Asker_many K A) := by
  refine F.ok sc_Asker_many (fun vs H Q E h => by obtain ⟨_, _, rfl, _⟩ := h; rfl) (fun cdv A' outer s H vs Q E hr h => ?_)
  obtain ⟨I, log, rfl, hA, k⟩ := h
  refine ⟨_, (pss_one (ps_ret (pe_callB SH.cLen (by rfl) T.z_len (by decide +kernel) (pa_cons (SH.pe_fldF T.cl_Asker T.na_Asker_row (pv 0)) pa_nil)))), ?_⟩
  walk_at "begin"
  have hn := hA.n_row
  obtain ⟨hs, hr, _⟩ := hA
  unfold AskM at hs
  walk_at "rd"
  rw [hn]
  exact k

def sp_Asker___init__ (K : PySem.W.Frag) (A : Ad) : Sp := fun vs H Q _ => ∃ (s b : Addr) (u : V) (row : List V) (m : Option Nat), vs = [.ref s, .ref b, u, mV m] ∧ (∃ dx, H s = some (.ins A.Asker dx [])) ∧ (SqL K H b row ∧ row.length ≤ 100000) ∧
  ∀ dx r l H', H r = none → H l = none → l ≠ r → s ≠ r → s ≠ l → Stp [s] H H' → H' s = some (.ins A.Asker dx (AskM r u m 0 l)) → H' r = some (.lst row) → H' l = some (.lst []) → Q .non H'
theorem ok_Asker___init__ {P : Program} {w : World} {K : PySem.W.Frag} {mg : Str → Option Value} {base : Heap} {A : Ad} {f : Addr} {fd : FuncData} (F : FunD K "__init__" "Asker.__init__" (defArgs s_Asker___init__) (defBody s_Asker___init__) (defScope s_Asker___init__) [.non] [] f fd) (T : Txt K mg A)  : FnOk P w K mg base CX0 1 f fd ["self", "row", "rule", "most"] (sp_Asker___init__ K A) := by
  refine SH.funD_ok F sc_Asker___init__ (fun vs H Q E h => by obtain ⟨_, _, _, _, _, rfl, _⟩ := h; rfl) (fun cdv A' outer s H vs Q E hr h => ?_)
  obtain ⟨s', b, u, row, m, rfl, ⟨dx, hs⟩, ⟨hb, hl⟩, k⟩ := h
  refine ⟨_, (pss_cons (SH.ps_fldF T.cl_Asker T.na_Asker_row (pv 0) (pe_callTy SH.cListOf (by rfl) T.z_list (by decide +kernel) (pa_cons (pv 1) pa_nil)) rfl)
        (pss_cons (SH.ps_fldF T.cl_Asker T.na_Asker_rule (pv 0) (pv 2) rfl)
        (pss_cons (SH.ps_fldF T.cl_Asker T.na_Asker_most (pv 0) (pv 3) rfl)
        (pss_cons (SH.ps_fldF T.cl_Asker T.na_Asker_asked (pv 0) pe_int rfl)
        (pss_one (SH.ps_fldF T.cl_Asker T.na_Asker_log (pv 0) (pe_lst pa_nil) rfl)))))), ?_⟩
  walk_at "begin"
  walk_at "rd"
  intro r hr
  have nsr : s' ≠ r := ne_of_none hs hr
  walk_at "rd"
  intro l hl2
  have hl0 : H l = none := (upd_free (upd_free (upd_free (upd_free (upd_free hl2).1).1).1).1).1
  have nsl : s' ≠ l := ne_of_none hs hl0
  have nlr : l ≠ r := fun e => by subst e; simp [upd_ne nsr.symm, upd_same] at hl2
  walk_at "rd"
  refine k dx r l _ hr hl0 nlr nsr nsl ?_ upd_same ?_ ?_
  · exact ((((((Stp.refl [s'] H).new hr).putI (by simp) (upd_old hs hr)).putI (by simp) upd_same).putI (by simp) upd_same).putI (by simp) upd_same).new hl2 |>.putI (by simp) (upd_old upd_same hl2)
  · rw [upd_ne nsr.symm, upd_ne nlr.symm, upd_ne nsr.symm, upd_ne nsr.symm, upd_ne nsr.symm, upd_ne nsr.symm]; exact upd_same
  · rw [upd_ne nsl.symm]; exact upd_same
theorem Ask.At.fresh {I : Ask} {K : PySem.W.Frag} {A : Ad} {H : Hp} {log : List Ent} (h : I.At K A H log) {b : Addr} (hb : H b = none) : b ∉ I.M := by
  obtain ⟨evs, h2, _⟩ := h.hl
  obtain ⟨tvs, h3, _⟩ := h.ht
  simp only [Ask.M, List.mem_cons, List.not_mem_nil, or_false, not_or]
  exact ⟨(ne_of_none h.hs hb).symm, (ne_of_none h2 hb).symm, (ne_of_none h3 hb).symm⟩
theorem Ask.At.freshO {I : Ask} {K : PySem.W.Frag} {A : Ad} {H : Hp} {log : List Ent} (h : I.At K A H log) {b : Addr} (hb : H b = none) : b ∉ I.own := by
  obtain ⟨evs, h2, _⟩ := h.hl
  obtain ⟨tvs, h3, _⟩ := h.ht
  simp only [Ask.own, List.mem_cons, List.not_mem_nil, or_false, not_or]
  exact ⟨(ne_of_none h.hs hb).symm, (ne_of_none h2 hb).symm, (ne_of_none h3 hb).symm, (ne_of_none h.hr hb).symm, (ne_of_none h.hu hb).symm⟩
/-! ### meetings in a tree of pieces -/
abbrev Fr := Option (Nat × Nat)
def frI (z : Fr) : V := match z with | none => .non | some x => .int (x.1 : Nat)
/-- v is what came: None, or a pair (place, number of its piece) -/
def frV (H : Hp) (v : V) (x : Fr) : Prop := match x with
  | none => v = .non
  | some (p, i) => ∃ t : Addr, v = .ref t ∧ H t = some (.tup [.int (p : Nat), .int (i : Nat)])
theorem frV.stp {M : List Addr} {H H' : Hp} {v : V} {x : Fr} (h : frV H v x) (S : Stp M H H') : frV H' v x := by
  cases x with
  | none => exact h
  | some x => obtain ⟨t, h1, h2⟩ := h; exact ⟨t, h1, S.tup h2⟩
/-- whether the one goes on, b: from behind -/
def goes (b said : Bool) (p q : Nat) : Bool := match b with
  | false => decide (said = decide (q < p))
  | true => !decide (said = decide (q < p))
inductive Meet (b : Bool) : Fr → Fr → List Ent → Fr → Prop
  | l {y : Fr} : Meet b none y [] y
  | r {x : Nat × Nat} : Meet b (some x) none [] (some x)
  | m {x y : Nat × Nat} (said : Bool) : Meet b (some x) (some y) [⟨max x.1 y.1, min x.1 y.1, said⟩] (if goes b said x.1 y.1 = true then some x else some y)
theorem Meet.or {b : Bool} {x y z : Fr} {es : List Ent} (h : Meet b x y es z) : z = x ∨ z = y := by
  cases h with
  | l => exact .inr rfl
  | r => exact .inl rfl
  | m said => split <;> simp
theorem Meet.none {b : Bool} {x y z : Fr} {es : List Ent} (h : Meet b x y es z) : z = none ↔ (x = none ∧ y = none) := by
  cases h with
  | l => simp
  | r => simp
  | m said => split <;> simp
theorem Meet.few {b : Bool} {x y z : Fr} {es : List Ent} (h : Meet b x y es z) : es.length ≤ 1 ∧ es.length + (if z = Option.none then 0 else 1) = (if x = Option.none then 0 else 1) + (if y = Option.none then 0 else 1) := by
  cases h with
  | l => simp
  | r => simp
  | m said => split <;> simp
/-- where a span is cut -/
def cutB (lo hi : Nat) : Nat := (lo + hi + 1) / 2
theorem cutB_lt {lo hi : Nat} (h : lo + 1 < hi) : lo < cutB lo hi ∧ cutB lo hi < hi := by unfold cutB; omega
abbrev Wt := Nat → Nat → Option Fr
def putW (W : Wt) (a c : Nat) (x : Fr) : Wt := fun a' c' => if a' = a ∧ c' = c then some x else W a' c'
theorem putW_same {W : Wt} {a c : Nat} {x : Fr} : putW W a c x a c = some x := by unfold putW; rw [if_pos ⟨rfl, rfl⟩]
theorem putW_ne {W : Wt} {a c a' c' : Nat} {x : Fr} (h : ¬ (a' = a ∧ c' = c)) : putW W a c x a' c' = W a' c' := by unfold putW; rw [if_neg h]
/-- all meetings of a span held anew -/
inductive Hold (b : Bool) (F : Nat → Fr) : Nat → Nat → Wt → List Ent → Wt → Fr → Prop
  | nil {lo : Nat} {W : Wt} : Hold b F lo lo W [] (putW W lo lo none) none
  | one {lo : Nat} {W : Wt} : Hold b F lo (lo + 1) W [] (putW W lo (lo + 1) (F lo)) (F lo)
  | node {lo hi : Nat} {W W1 W2 : Wt} {e1 e2 e3 : List Ent} {x y z : Fr} (h : lo + 1 < hi) (h1 : Hold b F lo (cutB lo hi) W e1 W1 x) (h2 : Hold b F (cutB lo hi) hi W1 e2 W2 y) (h3 : Meet b x y e3 z) : Hold b F lo hi W (e1 ++ (e2 ++ e3)) (putW W2 lo hi z) z
/-- what is held over a span, by answers of a log -/
inductive Tre (b : Bool) (F : Nat → Fr) (W : Wt) (log : List Ent) : Nat → Nat → Fr → Prop
  | nil {lo : Nat} (h : W lo lo = some none) : Tre b F W log lo lo none
  | one {lo : Nat} (h : W lo (lo + 1) = some (F lo)) : Tre b F W log lo (lo + 1) (F lo)
  | node {lo hi : Nat} {es : List Ent} {x y z : Fr} (h : lo + 1 < hi) (hw : W lo hi = some z) (h1 : Tre b F W log lo (cutB lo hi) x) (h2 : Tre b F W log (cutB lo hi) hi y) (h3 : Meet b x y es z) (he : ∀ e ∈ es, e ∈ log) : Tre b F W log lo hi z
theorem Tre.at {b : Bool} {F : Nat → Fr} {W : Wt} {log : List Ent} {lo hi : Nat} {z : Fr} (h : Tre b F W log lo hi z) : W lo hi = some z := by
  cases h with
  | nil h => exact h
  | one h => exact h
  | node _ hw => exact hw
theorem Tre.le {b : Bool} {F : Nat → Fr} {W : Wt} {log : List Ent} {lo hi : Nat} {z : Fr} (h : Tre b F W log lo hi z) : lo ≤ hi := by
  cases h with
  | nil h => exact Nat.le_refl _
  | one h => omega
  | node h => omega
/-- what comes is a front of the span -/
theorem Tre.from {b : Bool} {F : Nat → Fr} {W : Wt} {log : List Ent} {lo hi : Nat} {z : Fr} (h : Tre b F W log lo hi z) : z = none ∨ ∃ i, lo ≤ i ∧ i < hi ∧ z = F i := by
  induction h with
  | nil h => exact .inl rfl
  | @one lo h => exact .inr ⟨lo, Nat.le_refl _, by omega, rfl⟩
  | @node lo hi es x y z h hw h1 h2 h3 he i1 i2 =>
    have hc := cutB_lt h
    rcases h3.or with e | e
    · subst e
      exact i1.imp id fun ⟨i, a, b, c⟩ => ⟨i, a, by omega, c⟩
    · subst e
      exact i2.imp id fun ⟨i, a, b, c⟩ => ⟨i, by omega, b, c⟩
theorem Tre.none {b : Bool} {F : Nat → Fr} {W : Wt} {log : List Ent} {lo hi : Nat} {z : Fr} (h : Tre b F W log lo hi z) : z = none ↔ ∀ i, lo ≤ i → i < hi → F i = none := by
  induction h with
  | nil h => exact ⟨fun _ i h1 h2 => by omega, fun _ => rfl⟩
  | @one lo h => exact ⟨fun e i h1 h2 => by rw [show i = lo by omega]; exact e, fun e => e lo (Nat.le_refl _) (by omega)⟩
  | @node lo hi es x y z h hw h1 h2 h3 he i1 i2 =>
    have hc := cutB_lt h
    rw [h3.none, i1, i2]
    exact ⟨fun ⟨a, c⟩ i p q => by
      by_cases hi : i < cutB lo hi
      · exact a i p hi
      · exact c i (by omega) q, fun a => ⟨fun i p q => a i p (by omega), fun i p q => a i (by omega) q⟩⟩
theorem Tre.mono {b : Bool} {F F' : Nat → Fr} {W W' : Wt} {log log' : List Ent} {lo hi : Nat} {z : Fr} (h : Tre b F W log lo hi z) (hF : ∀ i, lo ≤ i → i < hi → F' i = F i) (hW : ∀ a c, lo ≤ a → c ≤ hi → (a < c ∨ (lo = hi ∧ a = c)) → W' a c = W a c) (hl : ∀ e ∈ log, e ∈ log') : Tre b F' W' log' lo hi z := by
  induction h with
  | @nil lo h => exact .nil (by rw [hW lo lo (Nat.le_refl _) (Nat.le_refl _) (.inr ⟨rfl, rfl⟩)]; exact h)
  | @one lo h =>
    have := hF lo (Nat.le_refl _) (by omega)
    rw [← this]
    exact .one (by rw [hW lo (lo + 1) (Nat.le_refl _) (Nat.le_refl _) (.inl (by omega)), this]; exact h)
  | @node lo hi es x y z h hw h1 h2 h3 he i1 i2 =>
    have hc := cutB_lt h
    exact .node h (by rw [hW lo hi (Nat.le_refl _) (Nat.le_refl _) (.inl (by omega))]; exact hw) (i1 (fun i p q => hF i p (by omega)) (fun a c p q r => hW a c p (by omega) (.inl (by omega)))) (i2 (fun i p q => hF i (by omega) q) fun a c p q r => hW a c (by omega) q (.inl (by omega))) h3 fun e h => hl e (he e h)
theorem Hold.le {b : Bool} {F : Nat → Fr} {lo hi : Nat} {W W' : Wt} {es : List Ent} {z : Fr} (h : Hold b F lo hi W es W' z) : lo ≤ hi := by
  cases h with
  | nil => exact Nat.le_refl _
  | one => omega
  | node h => omega
theorem Hold.far {b : Bool} {F : Nat → Fr} {lo hi : Nat} {W W' : Wt} {es : List Ent} {z : Fr} (h : Hold b F lo hi W es W' z) : ∀ a c, ¬ (lo ≤ a ∧ c ≤ hi ∧ a ≤ c) → W' a c = W a c := by
  induction h with
  | @nil lo W => intro a c n; exact putW_ne fun z => n (by omega)
  | @one lo W => intro a c n; exact putW_ne fun z => n (by omega)
  | @node lo hi W W1 W2 e1 e2 e3 x y z h h1 h2 h3 i1 i2 =>
    intro a c n
    have hc := cutB_lt h
    rw [putW_ne fun z => n (by omega), i2 a c (fun z => n (by omega)), i1 a c fun z => n (by omega)]
theorem Hold.tre {b : Bool} {F : Nat → Fr} {lo hi : Nat} {W W' : Wt} {es : List Ent} {z : Fr} (h : Hold b F lo hi W es W' z) {log : List Ent} (hl : ∀ e ∈ es, e ∈ log) : Tre b F W' log lo hi z := by
  induction h with
  | @nil lo W => exact .nil putW_same
  | @one lo W => exact .one putW_same
  | @node lo hi W W1 W2 e1 e2 e3 x y z h h1 h2 h3 i1 i2 =>
    have hc := cutB_lt h
    have t1 := i1 fun e he => hl e (by simp [he])
    have t2 := i2 fun e he => hl e (by simp [he])
    refine .node h putW_same (t1.mono (fun _ _ _ => rfl) (fun a c p q r => ?_) fun _ h => h) (t2.mono (fun _ _ _ => rfl) (fun a c p q r => ?_) fun _ h => h) h3 fun e he => hl e (by simp [he])
    · rw [putW_ne (by omega), h2.far a c (by omega)]
    · exact putW_ne (by omega)
theorem Hold.few {b : Bool} {F : Nat → Fr} {lo hi : Nat} {W W' : Wt} {es : List Ent} {z : Fr} (h : Hold b F lo hi W es W' z) : es.length ≤ hi - lo := by
  have key : es.length + (if z = none then 0 else 1) ≤ hi - lo := by
    induction h with
    | nil => simp
    | one => simp only [List.length_nil]; split <;> omega
    | @node lo hi W W1 W2 e1 e2 e3 x y z h h1 h2 h3 i1 i2 =>
      have hc := cutB_lt h
      have := h3.few
      simp only [List.length_append]
      omega
  omega
/-! the way of a piece, from the topmost span down -/
inductive Way (n lo hi : Nat) : List (Nat × Nat) → Nat → Nat → Prop
  | nil : Way n lo hi [] lo hi
  | left {l : List (Nat × Nat)} {a c : Nat} (k : Way n lo hi l a c) (h : a + 1 < c) (hn : n < cutB a c) : Way n lo hi (l ++ [(a, c)]) a (cutB a c)
  | right {l : List (Nat × Nat)} {a c : Nat} (k : Way n lo hi l a c) (h : a + 1 < c) (hn : ¬ n < cutB a c) : Way n lo hi (l ++ [(a, c)]) (cutB a c) c
theorem Way.in {n lo hi : Nat} {l : List (Nat × Nat)} {a c : Nat} (h : Way n lo hi l a c) (h1 : lo ≤ n) (h2 : n < hi) : lo ≤ a ∧ a ≤ n ∧ n < c ∧ c ≤ hi ∧ l.length + (c - a) ≤ hi - lo := by
  induction h with
  | nil => simp; omega
  | @left l a c k h hn ih => have := cutB_lt h; rw [List.length_append, List.length_singleton]; omega
  | @right l a c k h hn ih => have := cutB_lt h; rw [List.length_append, List.length_singleton]; omega
/-- the meetings on the way of a piece held anew, x its new front -/
inductive TakeR (b : Bool) (W : Wt) (n : Nat) (x : Fr) : Nat → Nat → List Ent → Wt → Fr → Prop
  | one : TakeR b W n x n (n + 1) [] (putW W n (n + 1) x) x
  | left {lo hi : Nat} {e1 e2 : List Ent} {W1 : Wt} {h y z : Fr} (hl : lo + 1 < hi) (hn : n < cutB lo hi) (k : TakeR b W n x lo (cutB lo hi) e1 W1 h) (hy : W (cutB lo hi) hi = some y) (hm : Meet b h y e2 z) : TakeR b W n x lo hi (e1 ++ e2) (putW W1 lo hi z) z
  | right {lo hi : Nat} {e1 e2 : List Ent} {W1 : Wt} {h y z : Fr} (hl : lo + 1 < hi) (hn : ¬ n < cutB lo hi) (k : TakeR b W n x (cutB lo hi) hi e1 W1 h) (hy : W lo (cutB lo hi) = some y) (hm : Meet b y h e2 z) : TakeR b W n x lo hi (e1 ++ e2) (putW W1 lo hi z) z
theorem TakeR.in {b : Bool} {W W' : Wt} {n : Nat} {x z : Fr} {lo hi : Nat} {es : List Ent} (h : TakeR b W n x lo hi es W' z) : lo ≤ n ∧ n < hi := by
  induction h with
  | one => omega
  | left hl hn k hy hm ih => have := cutB_lt hl; omega
  | right hl hn k hy hm ih => have := cutB_lt hl; omega
theorem TakeR.few {b : Bool} {W W' : Wt} {n : Nat} {x z : Fr} {lo hi : Nat} {es : List Ent} (h : TakeR b W n x lo hi es W' z) : es.length + 1 ≤ hi - lo := by
  induction h with
  | one => simp
  | left hl hn k hy hm ih => have := cutB_lt hl; have := hm.few; rw [List.length_append]; omega
  | right hl hn k hy hm ih => have := cutB_lt hl; have := hm.few; rw [List.length_append]; omega
theorem TakeR.far {b : Bool} {W W' : Wt} {n : Nat} {x z : Fr} {lo hi : Nat} {es : List Ent} (h : TakeR b W n x lo hi es W' z) : ∀ a c, ¬ (lo ≤ a ∧ c ≤ hi ∧ a ≤ n ∧ n < c) → W' a c = W a c := by
  induction h with
  | one => intro a c q; exact putW_ne fun z => q (by omega)
  | left hl hn k hy hm ih =>
    intro a c q
    have := cutB_lt hl
    have := k.in
    rw [putW_ne fun z => q (by omega), ih a c fun z => q (by omega)]
  | right hl hn k hy hm ih =>
    intro a c q
    have := cutB_lt hl
    have := k.in
    rw [putW_ne fun z => q (by omega), ih a c fun z => q (by omega)]
theorem TakeR.tre {b : Bool} {F F' : Nat → Fr} {W W' : Wt} {n : Nat} {x z w : Fr} {lo hi : Nat} {es log log' : List Ent} (h : TakeR b W n x lo hi es W' z) (t : Tre b F W log lo hi w) (hF : ∀ i, i ≠ n → F' i = F i) (hx : F' n = x) (hl : ∀ e ∈ log, e ∈ log') (he : ∀ e ∈ es, e ∈ log') : Tre b F' W' log' lo hi z := by
  induction h generalizing w with
  | one => rw [← hx]; exact .one putW_same
  | @left lo hi e1 e2 W1 h y z hl' hn k hy hm ih =>
    have hc := cutB_lt hl'
    have hk := k.in
    cases t with
    | nil => omega
    | one => omega
    | @node _ _ es' x' y' z' _ hw h1 h2 h3 he' =>
      have ey : y' = y := by have := h2.at; rw [hy] at this; exact (Option.some.inj this).symm
      subst ey
      refine .node hl' putW_same ((ih h1 fun e h => he e (by simp [h])).mono (fun _ _ _ => rfl) (fun a c p q r => putW_ne (by omega)) fun _ h => h) (h2.mono (fun i p q => hF i (by omega)) (fun a c p q r => ?_) hl) hm fun e h => he e (by simp [h])
      rw [putW_ne (by omega), k.far a c (by omega)]
  | @right lo hi e1 e2 W1 h y z hl' hn k hy hm ih =>
    have hc := cutB_lt hl'
    have hk := k.in
    cases t with
    | nil => omega
    | one => omega
    | @node _ _ es' x' y' z' _ hw h1 h2 h3 he' =>
      have ey : x' = y := by have := h1.at; rw [hy] at this; exact (Option.some.inj this).symm
      subst ey
      refine .node hl' putW_same (h1.mono (fun i p q => hF i (by omega)) (fun a c p q r => ?_) hl) ((ih h2 fun e h => he e (by simp [h])).mono (fun _ _ _ => rfl) (fun a c p q r => putW_ne (by omega)) fun _ h => h) hm fun e h => he e (by simp [h])
      rw [putW_ne (by omega), k.far a c (by omega)]
/-! what stands in the dict -/
def DW (H : Hp) (kvs : List (List Key × V)) (W : Wt) : Prop := ∀ a c x, W a c = some x → ∃ v, valV kvs (pk a c) = some v ∧ frV H v x
theorem DW.stp {M : List Addr} {H H' : Hp} {kvs : List (List Key × V)} {W : Wt} (h : DW H kvs W) (S : Stp M H H') : DW H' kvs W := fun a c x e => by
  obtain ⟨v, h1, h2⟩ := h a c x e
  exact ⟨v, h1, h2.stp S⟩
theorem DW.put {H : Hp} {kvs : List (List Key × V)} {W : Wt} {a c : Nat} {v : V} {x : Fr} (h : DW H kvs W) (hv : frV H v x) : DW H (putK kvs (pk a c) v) (putW W a c x) := fun a' c' x' e => by
  rw [valV_put]
  unfold putW at e
  by_cases z : a' = a ∧ c' = c
  · rw [if_pos z] at e
    cases e
    exact ⟨v, by rw [if_pos (pk_inj.mpr z)], hv⟩
  · rw [if_neg z] at e
    rw [if_neg fun q => z (pk_inj.mp q)]
    exact h a' c' x' e
/-- what is to be put into it -/
structure Anew (H : Hp) (W W' : Wt) (kvs : List (List Key × V)) : Prop where
  all : ∀ p ∈ kvs, ∃ a c x, p.1 = pk a c ∧ W' a c = some x ∧ frV H p.2 x
  has : ∀ a c, W' a c = W a c ∨ ∃ p ∈ kvs, p.1 = pk a c
theorem Anew.stp {M : List Addr} {H H' : Hp} {kvs : List (List Key × V)} {W W' : Wt} (h : Anew H W W' kvs) (S : Stp M H H') : Anew H' W W' kvs := ⟨fun p hp => by
  obtain ⟨a, c, x, h1, h2, h3⟩ := h.all p hp
  exact ⟨a, c, x, h1, h2, h3.stp S⟩, h.has⟩
theorem Anew.nil {H : Hp} {W : Wt} : Anew H W W [] := ⟨by simp, fun _ _ => .inl rfl⟩
theorem Anew.put {H : Hp} {W W' : Wt} {kvs : List (List Key × V)} {a c : Nat} {v : V} {x : Fr} (h : Anew H W W' kvs) (hv : frV H v x) (hn : W' a c = W a c ∨ True) (hk : ∀ p ∈ kvs, p.1 ≠ pk a c) : Anew H W (putW W' a c x) (putK kvs (pk a c) v) := by
  refine ⟨fun p hp => ?_, fun a' c' => ?_⟩
  · rcases mem_putK hp with rfl | hp'
    · exact ⟨a, c, x, rfl, putW_same, hv⟩
    · obtain ⟨a', c', x', h1, h2, h3⟩ := h.all p hp'
      have hne := hk p hp'
      exact ⟨a', c', x', h1, by rw [putW_ne fun z => hne (by rw [h1, z.1, z.2])]; exact h2, h3⟩
  · by_cases z : a' = a ∧ c' = c
    · obtain ⟨rfl, rfl⟩ := z
      exact .inr ⟨_, putK_same, rfl⟩
    · rw [putW_ne z]
      refine (h.has a' c').imp id fun ⟨p, hp, e⟩ => ⟨p, putK_other hp (hk p hp), e⟩
theorem DW.merge {H : Hp} {kvs more : List (List Key × V)} {W W' : Wt} (h : DW H kvs W) (k : Anew H W W' more) : DW H (mergK kvs more) W' := fun a c x e => by
  rcases mergK_val more kvs (pk a c) with ⟨p, hp, e1, e2⟩ | ⟨h1, h2⟩
  · obtain ⟨a', c', x', q1, q2, q3⟩ := k.all p hp
    rw [e1] at q1
    obtain ⟨rfl, rfl⟩ := pk_inj.mp q1
    rw [e] at q2
    cases q2
    exact ⟨p.2, e2, q3⟩
  · rcases k.has a c with q | ⟨p, hp, q⟩
    · rw [q] at e
      obtain ⟨v, h3, h4⟩ := h a c x e
      exact ⟨v, by rw [h2]; exact h3, h4⟩
    · exact (h1 p hp q).elim
/-! a pour -/
/-- the front of a piece behind so many that are gone -/
def frt (b : Bool) (ps : List Nat) (k i : Nat) : Fr := ((if b = true then ps.reverse else ps)[k]?).map fun p => (p, i)
def frts (b : Bool) (P : List (List Nat)) (g : List Nat) (i : Nat) : Fr := frt b (P.getD i []) (g.getD i 0) i
structure PR where
  o : Addr
  dx : Addr
  pp : Addr
  gg : Addr
  dd : Addr
  pa : List Addr
  P : List (List Nat)
def PF (s pp gg dd : Addr) : List (Str × V) := [("asker", .ref s), ("pieces", .ref pp), ("gone", .ref gg), ("went_on", .ref dd)]
/-- the pieces are of an asker's row, no place twice -/
structure Pcs (I : Ask) (P : List (List Nat)) : Prop where
  lt : ∀ ps ∈ P, ∀ p ∈ ps, p < I.n
  nd : P.flatten.Nodup
  few : P.length ≤ 300
theorem flat_uniq {P : List (List Nat)} (h : P.flatten.Nodup) {i j p : Nat} {a c : List Nat} (ha : P[i]? = some a) (hc : P[j]? = some c) (hp : p ∈ a) (hq : p ∈ c) : i = j := by
  induction P generalizing i j with
  | nil => cases ha
  | cons x P ih =>
    rw [List.flatten_cons, List.nodup_append] at h
    obtain ⟨h1, h2, h3⟩ := h
    cases i with
    | zero =>
      cases j with
      | zero => rfl
      | succ j =>
        cases ha
        rw [List.getElem?_cons_succ] at hc
        exact (h3 p hp p (List.mem_flatten.mpr ⟨c, List.mem_of_getElem? hc, hq⟩) rfl).elim
    | succ i =>
      rw [List.getElem?_cons_succ] at ha
      cases j with
      | zero =>
        cases hc
        exact (h3 p hq p (List.mem_flatten.mpr ⟨a, List.mem_of_getElem? ha, hp⟩) rfl).elim
      | succ j =>
        rw [List.getElem?_cons_succ] at hc
        rw [ih h2 ha hc]
theorem frt_mem {b : Bool} {ps : List Nat} {k i p j : Nat} (h : frt b ps k i = some (p, j)) : p ∈ ps ∧ j = i ∧ k < ps.length := by
  unfold frt at h
  obtain ⟨q, hq, e⟩ := Option.map_eq_some_iff.mp h
  cases e
  have hm := List.mem_of_getElem? hq
  have hl := (List.getElem?_eq_some_iff.mp hq).1
  cases b
  · exact ⟨hm, rfl, hl⟩
  · exact ⟨List.mem_reverse.mp hm, rfl, by simpa using hl⟩
theorem frts_mem {b : Bool} {P : List (List Nat)} {g : List Nat} {i p j : Nat} (h : frts b P g i = some (p, j)) : j = i ∧ ∃ ps, P[i]? = some ps ∧ p ∈ ps ∧ g.getD i 0 < ps.length := by
  obtain ⟨h1, h2, h3⟩ := frt_mem h
  refine ⟨h2, P.getD i [], ?_, h1, h3⟩
  rw [List.getD_eq_getElem?_getD] at h1 ⊢
  cases e : P[i]? with
  | none => rw [e] at h1; cases h1
  | some ps => rfl
/-- what comes from unlike spans is unlike -/
theorem Tre.two {I : Ask} {b : Bool} {P : List (List Nat)} {g g' : List Nat} {W W' : Wt} {log log' : List Ent} {lo c c' hi : Nat} {x y : Nat × Nat} (hP : Pcs I P) (h1 : Tre b (frts b P g) W log lo c (some x)) (h2 : Tre b (frts b P g') W' log' c' hi (some y)) (hc : c ≤ c') : x.1 < I.n ∧ y.1 < I.n ∧ x.1 ≠ y.1 := by
  obtain ⟨i, a1, a2, a3⟩ := h1.from.resolve_left (by simp)
  obtain ⟨j, b1, b2, b3⟩ := h2.from.resolve_left (by simp)
  obtain ⟨x1, x2⟩ := x
  obtain ⟨y1, y2⟩ := y
  obtain ⟨e1, ps, hps, hp, _⟩ := frts_mem a3.symm
  obtain ⟨e2, qs, hqs, hq, _⟩ := frts_mem b3.symm
  refine ⟨hP.lt _ (List.mem_of_getElem? hps) _ hp, hP.lt _ (List.mem_of_getElem? hqs) _ hq, fun z => ?_⟩
  dsimp only at z
  subst z
  have := flat_uniq hP.nd hps hqs hp hq
  omega
/-- what of a pour stands in the heap -/
structure PR.St (R : PR) (C : Addr) (I : Ask) (H : Hp) (g : List Nat) : Prop where
  ho : H R.o = some (.ins C R.dx (PF I.s R.pp R.gg R.dd))
  hp : H R.pp = some (.lst (R.pa.map V.ref))
  ha : ∀ (i : Nat) (a : Addr), R.pa[i]? = some a → ∃ ps, R.P[i]? = some ps ∧ H a = some (.lst (nv ps))
  hl : R.pa.length = R.P.length
  hg : H R.gg = some (.lst (nv g))
  gl : g.length = R.P.length
  own : ∀ a ∈ R.o :: R.pp :: R.gg :: R.dd :: R.pa, a ∉ I.own
  n1 : R.gg ≠ R.pp
  n2 : ∀ a ∈ R.pa, a ≠ R.gg
theorem Ask.Mown {I : Ask} {m : Addr} (h : m ∈ I.M) : m ∈ I.own := by
  simp only [Ask.M, Ask.own, List.mem_cons, List.not_mem_nil, or_false] at h ⊢
  rcases h with h | h | h <;> simp [h]
theorem PR.St.stp {R : PR} {C : Addr} {I : Ask} {M : List Addr} {H H' : Hp} {g : List Nat} (h : R.St C I H g) (S : Stp M H H') (hM : ∀ m ∈ M, m ∉ R.o :: R.pp :: R.gg :: R.pa) : R.St C I H' g := by
  have k : ∀ b o, b ∈ R.o :: R.pp :: R.gg :: R.pa → H b = some o → H' b = some o := fun b o hb e => S.keep e fun z => hM b z hb
  refine ⟨k _ _ (by simp) h.ho, k _ _ (by simp) h.hp, fun i a e => ?_, h.hl, k _ _ (by simp) h.hg, h.gl, h.own, h.n1, h.n2⟩
  obtain ⟨ps, h1, h2⟩ := h.ha i a e
  exact ⟨ps, h1, k _ _ (by simp [List.mem_of_getElem? e]) h2⟩
theorem PR.St.dd_ne {R : PR} {C : Addr} {I : Ask} {H : Hp} {g : List Nat} {kvs : List (List Key × V)} (h : R.St C I H g) (hd : H R.dd = some (.dT kvs)) : R.dd ∉ R.o :: R.pp :: R.gg :: R.pa := by
  simp only [List.mem_cons, not_or]
  refine ⟨ne_of hd h.ho (by intro z; cases z), ne_of hd h.hp (by intro z; cases z), ne_of hd h.hg (by intro z; cases z), fun z => ?_⟩
  obtain ⟨i, hi⟩ := List.mem_iff_getElem?.mp z
  obtain ⟨ps, _, h2⟩ := h.ha i _ hi
  rw [hd] at h2
  cases h2
theorem PR.St.ask {R : PR} {C : Addr} {I : Ask} {H H' : Hp} {g : List Nat} (h : R.St C I H g) (S : Stp I.M H H') : R.St C I H' g :=
  h.stp S fun m hm z => h.own m (by simp only [List.mem_cons] at z ⊢; rcases z with z | z | z | z <;> simp [z]) (Ask.Mown hm)
theorem PR.St.askd {R : PR} {C : Addr} {I : Ask} {H H' : Hp} {g : List Nat} {kvs : List (List Key × V)} (h : R.St C I H g) (hd : H R.dd = some (.dT kvs)) (S : Stp (R.dd :: I.M) H H') : R.St C I H' g :=
  h.stp S fun m hm z => by
    rcases List.mem_cons.mp hm with rfl | hm
    · exact h.dd_ne hd z
    · exact h.own m (by simp only [List.mem_cons] at z ⊢; rcases z with z | z | z | z <;> simp [z]) (Ask.Mown hm)
theorem PR.St.dM {R : PR} {C : Addr} {I : Ask} {H : Hp} {g : List Nat} (h : R.St C I H g) : R.dd ∉ I.M := fun z => h.own R.dd (by simp) (Ask.Mown z)
theorem PR.St.pc {R : PR} {C : Addr} {I : Ask} {H : Hp} {g : List Nat} (h : R.St C I H g) {n : Nat} (hn : n < R.P.length) : ∃ a, (R.pa.map V.ref)[n]? = some (.ref a) ∧ H a = some (.lst (nv (R.P.getD n []))) := by
  have hn' : n < R.pa.length := by rw [h.hl]; exact hn
  obtain ⟨ps, h1, h2⟩ := h.ha n _ (List.getElem?_eq_getElem hn')
  exact ⟨R.pa[n], by rw [List.getElem?_map, List.getElem?_eq_getElem hn']; rfl, by rw [List.getD_eq_getElem?_getD, h1]; exact h2⟩
def PR.left (R : PR) (g : List Nat) : Nat := (R.P.map List.length).sum - g.sum
/-- a pour as it stands behind the asks of a log -/
structure PR.At (R : PR) (b : Bool) (K : PySem.W.Frag) (A : Ad) (C : Addr) (I : Ask) (H : Hp) (log : List Ent) (g : List Nat) (W : Wt) : Prop where
  st : R.St C I H g
  ask : I.At K A H log
  pcs : Pcs I R.P
  gle : ∀ i, g.getD i 0 ≤ (R.P.getD i []).length
  dw : ∃ kvs, H R.dd = some (.dT kvs) ∧ DW H kvs W ∧ kvs ≠ [] ∧ kvs.length + 400 * R.left g ≤ 900000
  tre : ∃ z, Tre b (frts b R.P g) W log 0 R.P.length z
def PR.base (R : PR) : List Addr := R.o :: R.pp :: R.gg :: R.dd :: R.pa
theorem PR.At.stp {R : PR} {b : Bool} {K : PySem.W.Frag} {A : Ad} {C : Addr} {I : Ask} {M : List Addr} {H H' : Hp} {log : List Ent} {g : List Nat} {W : Wt} (h : R.At b K A C I H log g W) (S : Stp M H H') (hM : ∀ m ∈ M, m ∉ R.base ∧ m ∉ I.own) : R.At b K A C I H' log g W := by
  obtain ⟨kvs, h1, h2, h3, h4⟩ := h.dw
  refine ⟨h.st.stp S fun m hm z => (hM m hm).1 (by unfold PR.base; simp only [List.mem_cons] at z ⊢; rcases z with z | z | z | z <;> simp [z]), h.ask.stp S fun m hm => (hM m hm).2, h.pcs, h.gle, ⟨kvs, S.keep h1 fun z => (hM _ z).1 (by simp [PR.base]), h2.stp S, h3, h4⟩, h.tre⟩
/-- what a take changes -/
def PR.M (R : PR) (I : Ask) : List Addr := R.gg :: R.dd :: I.M
theorem sum_set {g : List Nat} {n : Nat} (h : n < g.length) : (g.set n (g.getD n 0 + 1)).sum = g.sum + 1 := by
  induction g generalizing n with
  | nil => simp at h
  | cons x g ih =>
    cases n with
    | zero => simp; omega
    | succ n =>
      have := ih (n := n) (by simpa using h)
      simp only [List.set_cons_succ, List.sum_cons, List.getD_cons_succ]
      omega
theorem sum_le {P : List (List Nat)} {g : List Nat} (hl : g.length = P.length) (h : ∀ i, g.getD i 0 ≤ (P.getD i []).length) : g.sum ≤ (P.map List.length).sum := by
  induction P generalizing g with
  | nil => cases g with
    | nil => simp
    | cons x g => simp at hl
  | cons ps P ih =>
    cases g with
    | nil => simp
    | cons x g =>
      have h0 := h 0
      have := ih (g := g) (by simpa using hl) fun i => by have := h (i + 1); simpa using this
      simp only [List.sum_cons, List.map_cons, List.getD_cons_zero] at h0 ⊢
      omega
theorem getD_set {g : List Nat} {n i x : Nat} (h : n < g.length) : (g.set n x).getD i 0 = if i = n then x else g.getD i 0 := by
  rw [List.getD_eq_getElem?_getD, List.getD_eq_getElem?_getD]
  by_cases e : i = n
  · subst e; rw [if_pos rfl, List.getElem?_set_self h]; rfl
  · rw [if_neg e, List.getElem?_set_ne (fun z => e z.symm)]
/-- a list of pairs -/
def Prs (H : Hp) (ts : List V) (l : List (Nat × Nat)) : Prop := ts.length = l.length ∧ ∀ (i : Nat) (x : Nat × Nat), l[i]? = some x → ∃ t : Addr, ts[i]? = some (.ref t) ∧ H t = some (.tup [.int (x.1 : Nat), .int (x.2 : Nat)])
theorem Prs.stp {M : List Addr} {H H' : Hp} {ts : List V} {l : List (Nat × Nat)} (h : Prs H ts l) (S : Stp M H H') : Prs H' ts l := ⟨h.1, fun i x e => by obtain ⟨t, h1, h2⟩ := h.2 i x e; exact ⟨t, h1, S.tup h2⟩⟩
theorem Prs.app {H : Hp} {ts : List V} {l : List (Nat × Nat)} {t : Addr} {x : Nat × Nat} (h : Prs H ts l) (ht : H t = some (.tup [.int (x.1 : Nat), .int (x.2 : Nat)])) : Prs H (ts ++ [.ref t]) (l ++ [x]) := by
  refine ⟨by simp [h.1], fun i y e => ?_⟩
  by_cases hi : i < l.length
  · rw [List.getElem?_append_left hi] at e
    obtain ⟨t', a, b⟩ := h.2 i y e
    exact ⟨t', by rw [List.getElem?_append_left (by rw [h.1]; exact hi)]; exact a, b⟩
  · rw [List.getElem?_append_right (by omega)] at e
    have hz : i = l.length := by
      have := (List.getElem?_eq_some_iff.mp e).1
      simp at this; omega
    subst hz
    simp at e
    subst e
    exact ⟨t, by rw [List.getElem?_append_right (by rw [h.1]; exact Nat.le_refl _), h.1]; simp, ht⟩
def sp_cut_between (K : PySem.W.Frag) (A : Ad) : Sp := fun vs H Q _ => ∃ (lo hi : Nat), vs = [.int lo, .int hi] ∧ Q (.int (cutB lo hi : Nat)) H
theorem ok_cut_between {P : Program} {w : World} {K : PySem.W.Frag} {mg : Str → Option Value} {base : Heap} {A : Ad} {f : Addr} {fd : FuncData} (F : Fun K "cut_between" "cut_between" s_cut_between f fd) (T : Txt K mg A)  : FnOk P w K mg base CX0 1 f fd ["low", "high"] (sp_cut_between K A) := by
  refine F.ok sc_cut_between (fun vs H Q E h => by obtain ⟨_, _, rfl, _⟩ := h; rfl) (fun cdv A' outer s H vs Q E hr h => ?_)
  obtain ⟨lo, hi, rfl, k⟩ := h
  refine ⟨_, (pss_one (ps_ret (pe_op SH.oDiv (pe_op SH.oAdd (pe_op SH.oAdd (pv 0) (pv 1)) pe_int) pe_int))), ?_⟩
  walk_at "begin"
  walk_at "rd"
  have e : ((lo : Int) + (hi : Nat) + 1) / 2 = ((cutB lo hi : Nat) : Int) := by unfold cutB; omega
  rw [e]
  exact k
/-- lists of places, one by one -/
def Pls (H : Hp) (pa : List Addr) (P : List (List Nat)) : Prop := pa.length = P.length ∧ ∀ (i : Nat) (a : Addr), pa[i]? = some a → ∃ ps, P[i]? = some ps ∧ H a = some (.lst (nv ps))
theorem Pls.stp {M : List Addr} {H H' : Hp} {pa : List Addr} {P : List (List Nat)} (h : Pls H pa P) (S : Stp M H H') (hM : ∀ m ∈ M, m ∉ pa) : Pls H' pa P := ⟨h.1, fun i a e => by
  obtain ⟨ps, h1, h2⟩ := h.2 i a e
  exact ⟨ps, h1, S.keep h2 fun z => hM a z (List.mem_of_getElem? e)⟩⟩
theorem Pls.there {H : Hp} {pa : List Addr} {P : List (List Nat)} (h : Pls H pa P) {a : Addr} (ha : a ∈ pa) : H a ≠ none := fun z => by
  obtain ⟨i, hi⟩ := List.mem_iff_getElem?.mp ha
  obtain ⟨ps, _, h2⟩ := h.2 i a hi
  rw [z] at h2; cases h2
theorem rep_zero (n : Nat) : (List.replicate n [V.int 0]).flatten = nv (List.replicate n 0) := by
  induction n with
  | zero => rfl
  | succ n ih => rw [List.replicate_succ, List.flatten_cons, ih, List.replicate_succ]; rfl
theorem rep_get (n i : Nat) : (List.replicate n 0).getD i 0 = 0 := by
  rw [List.getD_eq_getElem?_getD, List.getElem?_replicate]; split <;> rfl
theorem rep_sum (n : Nat) : (List.replicate n 0).sum = 0 := by induction n with | zero => rfl | succ n ih => simp [List.replicate_succ, ih]
theorem PR.At.dT {R : PR} {b : Bool} {K : PySem.W.Frag} {A : Ad} {C : Addr} {I : Ask} {H : Hp} {log : List Ent} {g : List Nat} {W : Wt} (h : R.At b K A C I H log g W) {H' : Hp} (S : Stp [] H H') : R.At b K A C I H' log g W := h.stp S (by simp)
theorem sum_int : ∀ g : List Nat, (g.map fun n : Nat => (n : Int)).sum = ((g.sum : Nat) : Int)
  | [] => rfl
  | n :: g => by simp only [List.map_cons, List.sum_cons, sum_int g]; omega
theorem PR.At.more {R : PR} {b : Bool} {K : PySem.W.Frag} {A : Ad} {C : Addr} {I : Ask} {H H' : Hp} {log log' : List Ent} {g : List Nat} {W : Wt} (h : R.At b K A C I H log g W) (S : Stp I.M H H') (hA : I.At K A H' log') (hl : ∀ e ∈ log, e ∈ log') : R.At b K A C I H' log' g W := by
  obtain ⟨kvs, h1, h2, h3, h4⟩ := h.dw
  obtain ⟨z, hz⟩ := h.tre
  exact ⟨h.st.ask S, hA, h.pcs, h.gle, ⟨kvs, S.keep h1 h.st.dM, h2.stp S, h3, h4⟩, ⟨z, hz.mono (fun _ _ _ => rfl) (fun _ _ _ _ _ => rfl) hl⟩⟩
theorem Pls.ext {H H' : Hp} {pa : List Addr} {P : List (List Nat)} (h : Pls H pa P) (e : ExtN H H') : Pls H' pa P := ⟨h.1, fun i a z => by
  obtain ⟨ps, h1, h2⟩ := h.2 i a z
  exact ⟨ps, h1, e _ _ h2 (by intro ps z; cases z)⟩⟩
theorem wipe_set {σ : L2.St} {j : Nat} {v : Option V} : wipe ((wipe σ [j]).set j v) [j] = wipe σ [j] := by
  show ((σ.set j none).set j v).set j none = σ.set j none
  rw [List.set_set, List.set_set]
/-- [list(piece) for piece in pieces] -/
theorem lc_copy {K : PySem.W.Frag} {σ : L2.St} {j : Nat} {H1 : Hp} {D pq : Addr} {pa : List Addr} {P : List (List Nat)} {Qd : Hp → Prop} (hj : j < σ.length) (hD : H1 D = none) (hpq : H1 pq = some (.lst (pa.map V.ref))) (hpl : Pls H1 pa P) (hP : P.length ≤ 1000)
    (k : ∀ H' pb, Stp [] H1 H' → H' D = some (.lst (pb.map V.ref)) → Pls H' pb P → (∀ a ∈ pb, H1 a = none ∧ a ≠ D) → pb.Nodup → Qd H') :
    ∃ W : Nat → Nat → Hp → Prop, (∃ m, W 0 m (upd H1 D (.lst []))) ∧ ∀ i m H, W i m H →
      ((Itl K pq).stop i H ∧ Qd H) ∨ ((Itl K pq).go i H ∧ ∃ Nx : Hp → Prop, (∀ H', Nx H' → ∃ m', m' < m ∧ W (i + 1) m' H') ∧ ∀ x H', (Itl K pq).yld i H x H' → gName j x (wipe σ [j]) H' fun σ2 H2 => wipe σ2 [j] = wipe σ [j] ∧ tYes σ2 H2 fun b H3 =>
        if b = true then tCB (rListOf K) (tCons (tVar j) tNil) σ2 H3 fun y H4 => ∃ acc, H4 D = some (.lst acc) ∧ acc.length < sizeLine ∧ Nx (upd H4 D (.lst (acc ++ [y]))) else Nx H3) := by
  refine lc_it (walk_list (xs := pa.map V.ref)) (fun j H' => Stp [] H1 H' ∧ ∃ pb : List Addr, pb.length = j ∧ pb.Nodup ∧ (∀ (i : Nat) (a : Addr), pb[i]? = some a → H1 a = none ∧ a ≠ D ∧ ∃ ps, P[i]? = some ps ∧ H' a = some (.lst (nv ps))) ∧ H' D = some (.lst (pb.map V.ref))) ⟨(Stp.refl _ _).new hD, [], rfl, .nil, (by intro i a e; simp at e), upd_same⟩ (fun j H' _ z => z.1.sql0 (SqL.of hpq)) ?_ ?_
  · rintro i x H3 H4 hi ⟨S, pb, hpbl, hpn, hpb, hL⟩ ⟨rfl, hx⟩
    obtain ⟨a, ha1, rfl⟩ := map_at hx
    obtain ⟨ps, h1, h2⟩ := hpl.2 i a ha1
    have h3 := S.keep0 h2
    have hpll := hpl.1
    rw [List.length_map] at hi
    refine ⟨wipe_set, ?_⟩
    refine SH.r_yes (SH.r_T ?_)
    refine SH.r_cb (SH.r_cons (SH.r_var (List.getElem?_set_self (by rw [wipe_length]; exact hj)) (SH.r_nil ?_)))
    refine w_listL (SqL.of h3) fun l hl => ?_
    have hlD : l ≠ D := (ne_of_none hL hl).symm
    refine ⟨_, upd_old hL hl, Nat.lt_of_le_of_lt (m := 1000) (by rw [List.length_map]; omega) (by decide), (S.new hl).putN hD, pb ++ [l], by simp [hpbl], ?_, fun i b e => ?_, by rw [upd_same, List.map_append]; rfl⟩
    · refine List.nodup_append.mpr ⟨hpn, by simp, fun a ha b hb z => ?_⟩
      rw [List.mem_singleton] at hb
      subst z
      subst hb
      obtain ⟨i, hi⟩ := List.mem_iff_getElem?.mp ha
      obtain ⟨_, _, _, _, q⟩ := hpb i _ hi
      rw [q] at hl
      cases hl
    by_cases hi2 : i < pb.length
    · rw [List.getElem?_append_left hi2] at e
      obtain ⟨q1, q2, ps', q3, q4⟩ := hpb i b e
      exact ⟨q1, q2, ps', q3, upd_far q2 (upd_old q4 hl)⟩
    · rw [List.getElem?_append_right (by omega)] at e
      have hz : i = pb.length := by
        have := (List.getElem?_eq_some_iff.mp e).1
        simp at this; omega
      subst hz
      simp at e
      subst e
      exact ⟨S.dom _ hl, hlD, ps, by rw [hpbl]; exact h1, upd_far hlD upd_same⟩
  · rintro H2 ⟨S2, pb, hpbl, hpn, hpb, hD2⟩
    rw [List.length_map] at hpbl
    refine k H2 pb S2 hD2 ⟨by rw [hpbl]; exact hpl.1, fun i a e => (hpb i a e).2.2⟩ (fun a ha => ?_) hpn
    obtain ⟨i, hi⟩ := List.mem_iff_getElem?.mp ha
    exact ⟨(hpb i a hi).1, (hpb i a hi).2.1⟩
/-- == tells of lists of lists -/
theorem Pls.isl {K : PySem.W.Frag} {H : Hp} {pa : List Addr} {P : List (List Nat)} (h : Pls H pa P) : IsL K H (pa.map V.ref) P := by
  obtain ⟨hl, h⟩ := h
  induction pa generalizing P with
  | nil => cases P with
    | nil => exact isl_nil
    | cons => simp at hl
  | cons a pa ih => cases P with
    | nil => simp at hl
    | cons ps P =>
      obtain ⟨qs, h1, h2⟩ := h 0 a rfl
      cases h1
      exact isl_cons (is_lst (SqL.of h2) isl_nats) (ih (by simpa using hl) fun i a e => h (i + 1) a e)
/-- [len(piece) for piece in pieces] -/
theorem lc_lens {K : PySem.W.Frag} {σ : L2.St} {j : Nat} {H1 : Hp} {D pq : Addr} {pa : List Addr} {P : List (List Nat)} {Qd : Hp → Prop} (hj : j < σ.length) (hD : H1 D = none) (hpq : H1 pq = some (.lst (pa.map V.ref))) (hpl : Pls H1 pa P) (hP : P.length ≤ 1000)
    (k : ∀ H' (ms : List Int), Stp [] H1 H' → H' D = some (.lst (ms.map V.int)) → ms.sum = (((P.map List.length).sum : Nat) : Int) → Qd H') :
    ∃ W : Nat → Nat → Hp → Prop, (∃ m, W 0 m (upd H1 D (.lst []))) ∧ ∀ i m H, W i m H →
      ((Itl K pq).stop i H ∧ Qd H) ∨ ((Itl K pq).go i H ∧ ∃ Nx : Hp → Prop, (∀ H', Nx H' → ∃ m', m' < m ∧ W (i + 1) m' H') ∧ ∀ x H', (Itl K pq).yld i H x H' → gName j x (wipe σ [j]) H' fun σ2 H2 => wipe σ2 [j] = wipe σ [j] ∧ tYes σ2 H2 fun b H3 =>
        if b = true then tCB (aLen K) (tCons (tVar j) tNil) σ2 H3 fun y H4 => ∃ acc, H4 D = some (.lst acc) ∧ acc.length < sizeLine ∧ Nx (upd H4 D (.lst (acc ++ [y]))) else Nx H3) := by
  refine lc_it (walk_list (xs := pa.map V.ref)) (fun j H' => Stp [] H1 H' ∧ ∃ ms : List Int, ms = (P.take j).map (fun ps => ((ps.length : Nat) : Int)) ∧ H' D = some (.lst (ms.map V.int))) ⟨(Stp.refl _ _).new hD, [], rfl, upd_same⟩ (fun j H' _ z => z.1.sql0 (SqL.of hpq)) ?_ ?_
  · rintro i x H3 H4 hi ⟨S, ms, hms, hL⟩ ⟨rfl, hx⟩
    obtain ⟨a, ha1, rfl⟩ := map_at hx
    obtain ⟨ps, h1, h2⟩ := hpl.2 i a ha1
    have h3 := S.keep0 h2
    have hpll := hpl.1
    rw [List.length_map] at hi
    refine ⟨wipe_set, ?_⟩
    refine SH.r_yes (SH.r_T ?_)
    refine SH.r_cb (SH.r_cons (SH.r_var (List.getElem?_set_self (by rw [wipe_length]; exact hj)) (SH.r_nil ?_)))
    refine v_lenLm (SqL.of h3) ?_
    refine ⟨_, hL, Nat.lt_of_le_of_lt (m := 1000) (by rw [List.length_map, hms, List.length_map, List.length_take]; omega) (by decide), S.putN hD, ms ++ [((ps.length : Nat) : Int)], ?_, by rw [upd_same, List.map_append]; rfl⟩
    rw [List.take_succ, h1, hms]
    simp
  · rintro H2 ⟨S2, ms, hms, hD2⟩
    rw [List.length_map, hpl.1, List.take_length] at hms
    refine k H2 ms S2 hD2 ?_
    rw [hms]
    clear hms hD2 S2 k hpl hpq hP
    induction P with
    | nil => rfl
    | cons ps P ih => simp only [List.map_cons, List.sum_cons, ih]; omega
theorem PR.At.base {R : PR} {b : Bool} {K : PySem.W.Frag} {A : Ad} {C : Addr} {I : Ask} {H : Hp} {log : List Ent} {g : List Nat} {W : Wt} (h : R.At b K A C I H log g W) {x : Addr} (hx : x ∈ R.base) : H x ≠ none := by
  have h1 := h.st
  obtain ⟨kvs, hd, _⟩ := h.dw
  simp only [PR.base, List.mem_cons] at hx
  rcases hx with rfl | rfl | rfl | rfl | hx
  · rw [h1.ho]; simp
  · rw [h1.hp]; simp
  · rw [h1.hg]; simp
  · rw [hd]; simp
  · obtain ⟨i, hi⟩ := List.mem_iff_getElem?.mp hx
    obtain ⟨ps, _, h2⟩ := h1.ha i _ hi
    rw [h2]; simp
theorem putK_ne {kvs : List (List Key × V)} {k : List Key} {v : V} : putK kvs k v ≠ [] := fun e => by
  have := putK_same (kvs := kvs) (k := k) (v := v)
  rw [e] at this
  cases this
theorem Way.last {n lo hi a c : Nat} {l : List (Nat × Nat)} {x : Nat × Nat} (h : Way n lo hi (l ++ [x]) a c) : Way n lo hi l x.1 x.2 ∧ x.1 + 1 < x.2 ∧ ((n < cutB x.1 x.2 ∧ a = x.1 ∧ c = cutB x.1 x.2) ∨ (¬ n < cutB x.1 x.2 ∧ a = cutB x.1 x.2 ∧ c = x.2)) := by
  generalize hz : l ++ [x] = m at h
  cases h with
  | nil => simp at hz
  | left k h hn =>
    obtain ⟨rfl, e⟩ := List.append_inj' hz rfl
    cases e
    exact ⟨k, h, .inl ⟨hn, rfl, rfl⟩⟩
  | right k h hn =>
    obtain ⟨rfl, e⟩ := List.append_inj' hz rfl
    cases e
    exact ⟨k, h, .inr ⟨hn, rfl, rfl⟩⟩
theorem Tre.sub {b : Bool} {F : Nat → Fr} {W : Wt} {log : List Ent} {n lo hi a c : Nat} {l : List (Nat × Nat)} {z : Fr} (h : Tre b F W log lo hi z) (w : Way n lo hi l a c) : ∃ z', Tre b F W log a c z' := by
  induction w with
  | nil => exact ⟨z, h⟩
  | @left l a c k hlt hn ih =>
    obtain ⟨z', t⟩ := ih
    cases t with
    | nil => omega
    | one => omega
    | node _ _ h1 _ _ _ => exact ⟨_, h1⟩
  | @right l a c k hlt hn ih =>
    obtain ⟨z', t⟩ := ih
    cases t with
    | nil => omega
    | one => omega
    | node _ _ _ h2 _ _ => exact ⟨_, h2⟩
theorem Tre.kids {b : Bool} {F : Nat → Fr} {W : Wt} {log : List Ent} {lo hi : Nat} {z : Fr} (h : Tre b F W log lo hi z) (hl : lo + 1 < hi) : ∃ x y, Tre b F W log lo (cutB lo hi) x ∧ Tre b F W log (cutB lo hi) hi y := by
  cases h with
  | nil => omega
  | one => omega
  | node _ _ h1 h2 _ _ => exact ⟨_, _, h1, h2⟩
/-- what comes when a place of the piece is taken: the fronts then -/
theorem TakeR.tre0 {b : Bool} {F : Nat → Fr} {W W' : Wt} {n : Nat} {x z w : Fr} {lo hi : Nat} {es log : List Ent} (h : TakeR b W n x lo hi es W' z) (t : Tre b F W log lo hi w) : Tre b (fun i => if i = n then x else F i) W' (log ++ es) lo hi z :=
  h.tre t (fun i hi => if_neg hi) (if_pos rfl) (fun e he => List.mem_append_left _ he) fun e he => List.mem_append_right _ he
theorem frts_set {b : Bool} {P : List (List Nat)} {g : List Nat} {n : Nat} (hn : n < g.length) : frts b P (g.set n (g.getD n 0 + 1)) = fun i => if i = n then frt b (P.getD n []) (g.getD n 0 + 1) n else frts b P g i := by
  funext i
  unfold frts
  rw [getD_set hn]
  by_cases e : i = n
  · subst e; rw [if_pos rfl, if_pos rfl]
  · rw [if_neg e, if_neg e]
/-! ### stopped, where more may have been changed -/
def StopM (M : List Addr) (I : Ask) (K : PySem.W.Frag) (A : Ad) (H : Hp) (log : List Ent) (R : List Ent → Prop) (E : XK) : Prop := ∀ (H' : Hp) (d : Addr) (es es' : List Ent), R (es ++ es') → es' ≠ [] → Told I.or log (es ++ es') → I.m = some (log.length + es.length) → Stp M H H' → I.At K A H' (log ++ es) → H d = none → H' d = some (.xd [("asked", .int ((log.length + es.length : Nat) : Int))]) → E (.ref A.Spent) (some d) H'
theorem Stop.toM {I : Ask} {K : PySem.W.Frag} {A : Ad} {H : Hp} {log : List Ent} {R : List Ent → Prop} {E : XK} (h : Stop I K A H log R E) : StopM I.M I K A H log R E := h
theorem StopM.toS {I : Ask} {K : PySem.W.Frag} {A : Ad} {H : Hp} {log : List Ent} {R : List Ent → Prop} {E : XK} (h : StopM I.M I K A H log R E) : Stop I K A H log R E := h
theorem StopM.free {M : List Addr} {I : Ask} {K : PySem.W.Frag} {A : Ad} {H : Hp} {log : List Ent} {R : List Ent → Prop} {E : XK} (h : I.m = none) : StopM M I K A H log R E := fun _ _ _ _ _ _ _ hm => by rw [h] at hm; cases hm
theorem StopM.sub {M M1 : List Addr} {I : Ask} {K : PySem.W.Frag} {A : Ad} {H H1 : Hp} {log es1 : List Ent} {R R1 : List Ent → Prop} {E : XK} (h : StopM M I K A H log R E) (S : Stp M H H1) (hM : ∀ m ∈ M1, m ∈ M ∨ H m = none) (hT : Told I.or log es1)
    (hR : ∀ es2, R1 es2 → Told I.or (log ++ es1) es2 → ∃ es3, Told I.or (log ++ es1 ++ es2) es3 ∧ R (es1 ++ es2 ++ es3)) : StopM M1 I K A H1 (log ++ es1) R1 E := fun H' d es es' h1 hne hT1 hm S' hA hd hx => by
  obtain ⟨es3, hT3, hR3⟩ := hR _ h1 hT1
  have e : es1 ++ (es ++ es') ++ es3 = es1 ++ es ++ (es' ++ es3) := by simp
  have el : (log ++ es1).length + es.length = log.length + (es1 ++ es).length := by simp; omega
  rw [e] at hR3
  rw [el] at hm hx
  refine h H' d (es1 ++ es) (es' ++ es3) hR3 (by simp [hne]) ?_ hm (S.then S' hM) (by rw [← List.append_assoc]; exact hA) (S.dom _ hd) hx
  rw [← e]
  exact Told.app (Told.app hT hT1) (by rw [← List.append_assoc]; exact hT3)
theorem StopM.sub0 {M M1 : List Addr} {I : Ask} {K : PySem.W.Frag} {A : Ad} {H H1 : Hp} {log : List Ent} {R R1 : List Ent → Prop} {E : XK} (h : StopM M I K A H log R E) (S : Stp M H H1) (hM : ∀ m ∈ M1, m ∈ M ∨ H m = none)
    (hR : ∀ es2, R1 es2 → Told I.or log es2 → ∃ es3, Told I.or (log ++ es2) es3 ∧ R (es2 ++ es3)) : StopM M1 I K A H1 log R1 E := by
  have := h.sub (es1 := []) (R1 := R1) (M1 := M1) S hM True.intro (fun es2 h1 h2 => by
    rw [List.append_nil] at h2 ⊢
    rw [List.nil_append]
    exact hR es2 h1 h2)
  rw [List.append_nil] at this
  exact this
theorem StopM.imp {M M1 : List Addr} {I : Ask} {K : PySem.W.Frag} {A : Ad} {H H1 : Hp} {log : List Ent} {R R1 : List Ent → Prop} {E : XK} (h : StopM M I K A H log R E) (S : Stp M H H1) (hM : ∀ m ∈ M1, m ∈ M ∨ H m = none) (hR : ∀ es, R1 es → R es) : StopM M1 I K A H1 log R1 E :=
  h.sub0 S hM fun es2 h1 _ => ⟨[], True.intro, by rw [List.append_nil]; exact hR es2 h1⟩
/-! ### every meeting comes to an end, whatever is told -/
theorem Meet.total (or : List Ent → Nat → Nat → Bool) (b : Bool) (x y : Fr) (log : List Ent) : ∃ es z, Meet b x y es z ∧ Told or log es := by
  cases x with
  | none => exact ⟨[], y, .l, True.intro⟩
  | some x => cases y with
    | none => exact ⟨[], some x, .r, True.intro⟩
    | some y => exact ⟨_, _, .m (or log (max x.1 y.1) (min x.1 y.1)), rfl, True.intro⟩
theorem Hold.total (or : List Ent → Nat → Nat → Bool) (b : Bool) (F : Nat → Fr) : ∀ (m lo hi : Nat) (W : Wt) (log : List Ent), hi - lo = m → lo ≤ hi → ∃ es W' z, Hold b F lo hi W es W' z ∧ Told or log es := by
  intro m
  induction m using Nat.strongRecOn with
  | ind m ih =>
    intro lo hi W log hm hle
    by_cases h : lo + 1 < hi
    · have hc := cutB_lt h
      obtain ⟨e1, W1, x, k1, t1⟩ := ih (cutB lo hi - lo) (by omega) lo (cutB lo hi) W log rfl (by omega)
      obtain ⟨e2, W2, y, k2, t2⟩ := ih (hi - cutB lo hi) (by omega) (cutB lo hi) hi W1 (log ++ e1) rfl (by omega)
      obtain ⟨e3, z, k3, t3⟩ := Meet.total or b x y (log ++ e1 ++ e2)
      exact ⟨_, _, _, .node h k1 k2 k3, Told.app t1 (Told.app t2 t3)⟩
    · by_cases h1 : lo = hi
      · subst h1
        exact ⟨[], _, _, .nil, True.intro⟩
      · obtain rfl : hi = lo + 1 := by omega
        exact ⟨[], _, _, .one, True.intro⟩
theorem TakeR.up (or : List Ent → Nat → Nat → Bool) {b : Bool} {F : Nat → Fr} {W : Wt} {log0 : List Ent} {n N a c : Nat} {x zz : Fr} {l : List (Nat × Nat)} (T : Tre b F W log0 0 N zz) (hW : Way n 0 N l a c) : ∀ {es lg : List Ent} {Wz : Wt} {z : Fr}, TakeR b W n x a c es Wz z → ∃ es' W' z', TakeR b W n x 0 N (es ++ es') W' z' ∧ Told or lg es' := by
  induction hW with
  | nil => intro es lg Wz z hk; exact ⟨[], _, _, by rw [List.append_nil]; exact hk, True.intro⟩
  | @left l a c k h hn ih =>
    intro es lg Wz z hk
    obtain ⟨zz2, t2⟩ := T.sub k
    obtain ⟨x', y', t3, t4⟩ := t2.kids h
    obtain ⟨e2, z2, hm, hT⟩ := Meet.total or b z y' lg
    obtain ⟨es', W', z', hk', hT'⟩ := ih (lg := lg ++ e2) (.left h hn hk t4.at hm)
    exact ⟨e2 ++ es', W', z', by rw [← List.append_assoc]; exact hk', Told.app hT hT'⟩
  | @right l a c k h hn ih =>
    intro es lg Wz z hk
    obtain ⟨zz2, t2⟩ := T.sub k
    obtain ⟨x', y', t3, t4⟩ := t2.kids h
    obtain ⟨e2, z2, hm, hT⟩ := Meet.total or b x' z lg
    obtain ⟨es', W', z', hk', hT'⟩ := ih (lg := lg ++ e2) (.right h hn hk t3.at hm)
    exact ⟨e2 ++ es', W', z', by rw [← List.append_assoc]; exact hk', Told.app hT hT'⟩
def sp_Pour_front (K : PySem.W.Frag) (A : Ad) : Sp := fun vs H Q _ => ∃ (R : PR) (I : Ask) (g : List Nat) (n i : Nat), vs = [.ref R.o, .int n, .int i] ∧ (R.St A.Pour I H g ∧ n < R.P.length) ∧ ∀ v H', Stp [] H H' → frV H' v (frt false (R.P.getD n []) i n) → Q v H'
theorem ok_Pour_front {P : Program} {w : World} {K : PySem.W.Frag} {mg : Str → Option Value} {base : Heap} {A : Ad} {f : Addr} {fd : FuncData} (F : Fun K "front" "Pour.front" s_Pour_front f fd) (T : Txt K mg A)  : FnOk P w K mg base CX0 1 f fd ["self", "number", "gone"] (sp_Pour_front K A) := by
  refine F.ok sc_Pour_front (fun vs H Q E h => by obtain ⟨_, _, _, _, _, rfl, _⟩ := h; rfl) (fun cdv A' outer s H vs Q E hr h => ?_)
  obtain ⟨R, I, g, n, i, rfl, ⟨hSt, hn⟩, k⟩ := h
  refine ⟨_, (pss_cons (ps_set (i := 3) sc_Pour_front.nd rfl (Or.inl rfl) (pe_ix SH.ixA (SH.pe_fldF T.cl_Pour T.na_Pour_pieces (pv 0)) (pv 1) (fun _ _ => rfl)))
        (pss_cons (ps_if (pt_cmpR SH.oGe (pv 2) (pe_callB SH.cLen (by rfl) T.z_len (by decide +kernel) (pa_cons (pv 3) pa_nil)) (nomark _)) (pss_one (ps_ret pe_non)) pss_nil)
        (pss_one (ps_ret (pe_tup (pa_cons (pe_ix SH.ixA (pv 3) (pv 2) (fun _ _ => rfl)) (pa_cons (pv 1) pa_nil))))))), ?_⟩
  walk_at "begin"
  have ho := hSt.ho
  unfold PF at ho
  have hp := hSt.hp
  obtain ⟨a, ha1, ha2⟩ := hSt.pc hn
  walk_at "rd"
  refine v_ixLn (n := n) (SqL.of hp) rfl ha1 ?_
  walk_at "rd"
  refine r_w (fun hc => ?_) fun hc => ?_
  · walk_at "rd"
    refine k _ _ (.refl _ _) ?_
    have e : frt false (R.P.getD n []) i n = none := by
      unfold frt
      rw [if_neg (by decide), List.getElem?_eq_none (by omega)]
      rfl
    rw [e]; rfl
  · walk_at "rd"
    have hi : i < (R.P.getD n []).length := by omega
    refine v_ixLn (n := i) (SqL.of ha2) rfl (v := .int ((R.P.getD n [])[i] : Nat)) (by unfold nv; rw [List.getElem?_map, List.getElem?_eq_getElem hi]; rfl) ?_
    walk_at "rd"
    intro t ht
    refine k _ _ ((Stp.refl _ _).new ht) ?_
    have e : frt false (R.P.getD n []) i n = some ((R.P.getD n [])[i], n) := by
      unfold frt
      rw [if_neg (by decide), List.getElem?_eq_getElem hi]
      rfl
    rw [e]
    exact ⟨t, rfl, upd_same⟩
def sp_Pour_goes_on (K : PySem.W.Frag) (A : Ad) : Sp := fun vs H Q E => ∃ (R : PR) (I : Ask) (g : List Nat) (log : List Ent) (p q : Nat), vs = [.ref R.o, .int p, .int q] ∧ (R.St A.Pour I H g ∧ I.At K A H log ∧ p < I.n ∧ q < I.n ∧ p ≠ q ∧ log.length + I.pre.length < 100000) ∧
  Stop I K A H log (fun es => ∃ said, es = [⟨max p q, min p q, said⟩]) E ∧
  ∀ H' said, said = I.or log (max p q) (min p q) → Stp I.M H H' → I.At K A H' (log ++ [⟨max p q, min p q, said⟩]) → Q (.bl (goes false said p q)) H'
theorem ok_Pour_goes_on {P : Program} {w : World} {K : PySem.W.Frag} {mg : Str → Option Value} {base : Heap} {A : Ad} {f : Addr} {fd : FuncData} (F : Fun K "goes_on" "Pour.goes_on" s_Pour_goes_on f fd) (T : Txt K mg A) (M_Asker_ahead : SH.CalM P w K mg base (L2N.CX P w) 3 A.Asker "ahead" [] (sp_Asker_ahead K A)) : FnOk P w K mg base (L2N.CX P w) 4 f fd ["self", "one", "other"] (sp_Pour_goes_on K A) := by
  refine SH.okN F sc_Pour_goes_on (fun vs H Q E h => by obtain ⟨_, _, _, _, _, _, rfl, _⟩ := h; rfl) (fun cdv A' outer s H vs Q E hr h => ?_)
  obtain ⟨R, I, g, log, p, q, rfl, ⟨hSt, hA, h1, h2, h3, h4⟩, kx, k⟩ := h
  refine ⟨_, (pss_one (ps_ret (SH.pe_methF (SH.pe_fldF T.cl_Pour T.na_Pour_asker (pv 0)) M_Asker_ahead hr (L2N.passes_call (L2N.takes_of rfl rfl rfl rfl) fun _ _ _ _ h => h) (pa_cons (pv 1) (pa_cons (pv 2) pa_nil))))), ?_⟩
  walk_at "begin"
  have ho := hSt.ho
  unfold PF at ho
  have hs := hA.hs
  walk_at "rd"
  exact ⟨I, log, p, q, rfl, ⟨hA, h1, h2, h3, h4⟩, kx, fun H' said e S hA' => k H' said e S hA'⟩
def sp_Pour_meeting (K : PySem.W.Frag) (A : Ad) : Sp := fun vs H Q E => ∃ (R : PR) (I : Ask) (g : List Nat) (log : List Ent) (v w : V) (x y : Fr), vs = [.ref R.o, v, w] ∧ (R.St A.Pour I H g ∧ I.At K A H log ∧ frV H v x ∧ frV H w y ∧ (∀ a c, x = some a → y = some c → a.1 < I.n ∧ c.1 < I.n ∧ a.1 ≠ c.1) ∧ log.length + I.pre.length < 100000) ∧
  Stop I K A H log (fun es => ∃ z, Meet false x y es z) E ∧
  ∀ H' es z u, Meet false x y es z → Told I.or log es → Stp I.M H H' → I.At K A H' (log ++ es) → frV H' u z → Q u H'
theorem ok_Pour_meeting {P : Program} {w : World} {K : PySem.W.Frag} {mg : Str → Option Value} {base : Heap} {A : Ad} {f : Addr} {fd : FuncData} (F : Fun K "meeting" "Pour.meeting" s_Pour_meeting f fd) (T : Txt K mg A) (M_Pour_goes_on : SH.CalM P w K mg base (L2N.CX P w) 4 A.Pour "goes_on" [] (sp_Pour_goes_on K A)) : FnOk P w K mg base (L2N.CX P w) 5 f fd ["self", "one", "other"] (sp_Pour_meeting K A) := by
  refine SH.okN F sc_Pour_meeting (fun vs H Q E h => by obtain ⟨_, _, _, _, _, _, _, _, rfl, _⟩ := h; rfl) (fun cdv A' outer s H vs Q E hr h => ?_)
  obtain ⟨R, I, g, log, v, w, x, y, rfl, ⟨hSt, hA, hx, hy, hxy, hlog⟩, kx, k⟩ := h
  refine ⟨_, (pss_cons (ps_if (pt_cmpR SH.oIsN (pv 1) pe_non (nomark _)) (pss_one (ps_ret (pv 2))) pss_nil)
        (pss_cons (ps_if (PW.pt (pw_or (pt_cmpR SH.oIsN (pv 2) pe_non (nomark _)) (pw_or1 (pt_val (SH.pe_methF (pv 0) M_Pour_goes_on hr (L2N.passes_call (L2N.takes_of rfl rfl rfl rfl) fun _ _ _ _ h => h) (pa_cons (pe_ix SH.ixA (pv 1) pe_int (fun _ _ => rfl)) (pa_cons (pe_ix SH.ixA (pv 2) pe_int (fun _ _ => rfl)) pa_nil))))))) (pss_one (ps_ret (pv 1))) pss_nil)
        (pss_one (ps_ret (pv 2))))), ?_⟩
  walk_at "begin"
  have ho := hSt.ho
  unfold PF at ho
  walk_at "rd"
  cases x with
  | none =>
    cases hx
    refine r_wT rfl ?_
    walk_at "rd"
    exact k H [] y w .l True.intro (.refl _ _) (by rw [List.append_nil]; exact hA) hy
  | some x =>
    obtain ⟨t, rfl, ht⟩ := hx
    refine r_wF (by intro z; cases z) ?_
    walk_at "rd"
    cases y with
    | none =>
      cases hy
      refine r_wT rfl ?_
      walk_at "rd"
      exact k H [] (some x) (.ref t) .r True.intro (.refl _ _) (by rw [List.append_nil]; exact hA) ⟨t, rfl, ht⟩
    | some y =>
      obtain ⟨t2, rfl, ht2⟩ := hy
      refine r_wF (by intro z; cases z) ?_
      walk_at "rd"
      refine v_ixTn (n := 0) (SqT.of ht) rfl rfl ?_
      walk_at "rd"
      refine v_ixTn (n := 0) (SqT.of ht2) rfl rfl ?_
      obtain ⟨a1, a2, a3⟩ := hxy x y rfl rfl
      walk_at "rd"
      refine ⟨R, I, g, log, x.1, y.1, rfl, ⟨hSt, hA, a1, a2, a3, hlog⟩, StopM.toS (kx.toM.imp (.refl _ _) (fun m hm => .inl hm) (fun es ⟨said, e⟩ => by subst e; exact ⟨_, .m said⟩)), fun H' said e S hA' => ?_⟩
      have hm := Meet.m (b := false) (x := x) (y := y) said
      have hT : Told I.or log [⟨max x.1 y.1, min x.1 y.1, said⟩] := Told.one e
      refine ⟨_, rfl, ?_⟩
      refine r_b (fun hb => ?_) fun hb => ?_
      · walk_at "rd"
        rw [if_pos hb] at hm
        exact k H' _ _ _ hm hT S hA' ⟨t, rfl, S.tup ht⟩
      · walk_at "rd"
        rw [if_neg (by rw [hb]; exact Bool.false_ne_true)] at hm
        exact k H' _ _ _ hm hT S hA' ⟨t2, rfl, S.tup ht2⟩
def sp_Pour_hold_alln (n : Nat) (K : PySem.W.Frag) (A : Ad) : Sp := fun vs H Q E => ∃ (R : PR) (I : Ask) (g : List Nat) (log : List Ent) (lo hi : Nat) (W : Wt) (kvs : List (List Key × V)), vs = [.ref R.o, .int lo, .int hi] ∧
  ((0 < n ∧ hi - lo ≤ 2 ^ (n - 1) ∧ lo ≤ hi ∧ hi ≤ R.P.length) ∧ R.St A.Pour I H g ∧ I.At K A H log ∧ Pcs I R.P ∧ (∀ i, g.getD i 0 = 0) ∧ H R.dd = some (.dT kvs) ∧ DW H kvs W ∧ kvs.length + 2 * (hi - lo) + 1 ≤ 5000 ∧ log.length + I.pre.length + (hi - lo) < 100000) ∧
  StopM (R.dd :: I.M) I K A H log (fun es => ∃ W' z, Hold false (frts false R.P g) lo hi W es W' z) E ∧
  ∀ H' es W' z u kvs', Hold false (frts false R.P g) lo hi W es W' z → Told I.or log es → Stp (R.dd :: I.M) H H' → I.At K A H' (log ++ es) → H' R.dd = some (.dT kvs') → DW H' kvs' W' → kvs'.length ≤ kvs.length + 2 * (hi - lo) + 1 - (if lo < hi then 2 else 0) → kvs' ≠ [] → frV H' u z → Q u H'
theorem sp_Pour_hold_alln0 {K : PySem.W.Frag} {A : Ad} {vs : List V} {H : Hp} {Q : VK} {E : XK} (h : sp_Pour_hold_alln 0 K A vs H Q E) : False := by
  obtain ⟨_, _, _, _, _, _, _, _, _, ⟨⟨h, _⟩, _⟩, _⟩ := h
  exact Nat.lt_irrefl 0 h
abbrev sp_Pour_hold_all (K : PySem.W.Frag) (A : Ad) : Sp := sp_Pour_hold_alln 10 K A
theorem okn_Pour_hold_all {P : Program} {w : World} {K : PySem.W.Frag} {mg : Str → Option Value} {base : Heap} {A : Ad} {f : Addr} {fd : FuncData} (n : Nat) (F : Fun K "hold_all" "Pour.hold_all" s_Pour_hold_all f fd) (T : Txt K mg A) (M_Pour_front : SH.CalM P w K mg base CX0 1 A.Pour "front" [] (sp_Pour_front K A)) (M_Pour_meeting : SH.CalM P w K mg base (L2N.CX P w) 5 A.Pour "meeting" [] (sp_Pour_meeting K A)) (C_cut_between : SH.Cal P w K mg base CX0 1 "cut_between" [] (sp_cut_between K A)) (M_Pour_hold_all : SH.CalM P w K mg base (L2N.CX P w) (5 + n) A.Pour "hold_all" [] (sp_Pour_hold_alln n K A)) : FnOk P w K mg base (L2N.CX P w) (5 + n + 1) f fd ["self", "low", "high"] (sp_Pour_hold_alln (n + 1) K A) := by
  refine SH.okN F sc_Pour_hold_all (fun vs H Q E h => by obtain ⟨_, _, _, _, _, _, _, _, rfl, _⟩ := h; rfl) (fun cdv A' outer s H vs Q E hr h => ?_)
  obtain ⟨R, I, g, log, lo, hi, W, kvs, rfl, ⟨⟨h0, hpw, hlo, hhi⟩, hSt, hA, hP, hg0, hd, hdw, hkl, hlog⟩, kx, k⟩ := h
  rw [Nat.add_sub_cancel] at hpw
  refine ⟨_, (pss_cons (ps_set (i := 3) sc_Pour_hold_all.nd rfl (Or.inl rfl) pe_non)
        (pss_cons (ps_if (pt_cmpR (SH.oEq hr.units) (pe_op SH.oSub (pv 2) (pv 1)) pe_int (nomark _)) (pss_one (ps_set (i := 3) sc_Pour_hold_all.nd rfl (Or.inl rfl) (SH.pe_methF (pv 0) M_Pour_front hr pass0 (pa_cons (pv 1) (pa_cons pe_int pa_nil)) (hk := by omega)))) (pss_one (ps_if (pt_cmpR SH.oGt (pv 2) (pv 1) (nomark _)) (pss_cons (ps_set (i := 4) sc_Pour_hold_all.nd rfl (Or.inl rfl) (SH.pe_callF C_cut_between hr (by rfl) pass0 (pa_cons (pv 1) (pa_cons (pv 2) pa_nil)) (hk := by omega)))
        (pss_cons (ps_set (i := 5) sc_Pour_hold_all.nd rfl (Or.inl rfl) (SH.pe_methF (pv 0) M_Pour_hold_all hr (L2N.passes_call (L2N.takes_of rfl rfl rfl rfl) fun _ _ _ _ h => h) (pa_cons (pv 1) (pa_cons (pv 4) pa_nil)) (hk := by omega)))
        (pss_one (ps_set (i := 3) sc_Pour_hold_all.nd rfl (Or.inl rfl) (SH.pe_methF (pv 0) M_Pour_meeting hr (L2N.passes_call (L2N.takes_of rfl rfl rfl rfl) fun _ _ _ _ h => h) (pa_cons (pv 5) (pa_cons (SH.pe_methF (pv 0) M_Pour_hold_all hr (L2N.passes_call (L2N.takes_of rfl rfl rfl rfl) fun _ _ _ _ h => h) (pa_cons (pv 4) (pa_cons (pv 2) pa_nil)) (hk := by omega)) pa_nil)) (hk := by omega)))))) pss_nil)))
        (pss_cons (ps_dput (hu_of hr) (SH.pe_fldF T.cl_Pour T.na_Pour_went_on (pv 0)) (pe_tup (pa_cons (pv 1) (pa_cons (pv 2) pa_nil))) (pv 3) rfl)
        (pss_one (ps_ret (pv 3)))))), ?_⟩
  walk_at "begin"
  have ho := hSt.ho
  unfold PF at ho
  walk_at "rd"
  refine r_wJ (W := fun σ' H' => ∃ (u : V) (z : Fr) (es : List Ent) (W1 : Wt) (kvs1 : List (List Key × V)) (v4 v5 : Option V), Hold false (frts false R.P g) lo hi W es (putW W1 lo hi z) z ∧ Told I.or log es ∧ Stp (R.dd :: I.M) H H' ∧ I.At K A H' (log ++ es) ∧ H' R.dd = some (.dT kvs1) ∧ DW H' kvs1 W1 ∧ kvs1.length ≤ kvs.length + 2 * (hi - lo) - (if lo < hi then 2 else 0) ∧ frV H' u z ∧
      σ' = [some (.ref R.o), some (.int lo), some (.int hi), some u, v4, v5]) ?_ (fun hc N hN => ?_) (fun hc N hN => ?_)
  · rintro σ' H1 ⟨u, z, es, W1, kvs1, v4, v5, hH, hT, S1, hA1, hd1, hdw1, hkl1, hz, rfl⟩
    dsimp only
    have hSt1 := hSt.askd hd S1
    have ho1 := hSt1.ho
    unfold PF at ho1
    walk_at "rd"
    intro q hq
    refine v_dputT (ks := pk lo hi) (upd_old hd1 hq) upd_same (by omega) ?_
    walk_at "rd"
    have S2 : Stp [R.dd] H1 (upd (upd H1 q (.tup [.int lo, .int hi])) R.dd (.dT (putK kvs1 (pk lo hi) u))) := ((Stp.refl _ _).new hq).putM (by simp) (upd_old hd1 hq) (fun z => z)
    have hl := length_putK kvs1 (pk lo hi) u
    refine k _ es _ z u (putK kvs1 (pk lo hi) u) hH hT (S1.trans (S2.mono (by simp))) (hA1.stp S2 (by intro m hm; rw [List.mem_singleton] at hm; subst hm; exact hSt.own _ (by simp))) upd_same ((hdw1.stp S2).put (hz.stp S2)) ?_ putK_ne (hz.stp S2)
    split at hkl1 <;> split <;> omega
  · walk_at "rd"
    refine ⟨R, I, g, lo, 0, rfl, ⟨hSt, by omega⟩, fun v H1 S1 hv => ?_⟩
    walk_at "rd"
    have e : hi = lo + 1 := by omega
    subst e
    have ef : frt false (R.P.getD lo []) 0 lo = frts false R.P g lo := by unfold frts; rw [hg0]
    rw [ef] at hv
    refine hN _ _ ⟨v, _, [], W, kvs, _, _, .one, True.intro, S1.mono (by simp), by rw [List.append_nil]; exact hA.stp S1 (by simp), S1.keep0 hd, hdw.stp S1, ?_, hv, rfl⟩
    rw [if_pos (by omega)]; omega
  · walk_at "rd"
    refine r_w (fun hc2 => ?_) fun hc2 => ?_
    · walk_at "rd"
      refine ⟨lo, hi, rfl, ?_⟩
      have hlt : lo + 1 < hi := by omega
      have hcut := cutB_lt hlt
      walk_at "rd"
      have hn0 : 0 < n := by
        rcases Nat.eq_zero_or_pos n with z | z
        · subst z; simp at hpw; omega
        · exact z
      have hpw2 : 2 ^ n = 2 * 2 ^ (n - 1) := by
        rw [← Nat.pow_succ']; congr 1; omega
      have hc1 : cutB lo hi - lo ≤ 2 ^ (n - 1) := by unfold cutB; omega
      have hc2' : hi - cutB lo hi ≤ 2 ^ (n - 1) := by unfold cutB; omega
      refine ⟨R, I, g, log, lo, cutB lo hi, W, kvs, rfl, ⟨⟨hn0, hc1, by omega, by omega⟩, hSt, hA, hP, hg0, hd, hdw, by omega, by omega⟩, kx.sub0 (.refl _ _) (fun m hm => .inl hm) (fun es2 ⟨W1, x, k1⟩ hT1 => by
        obtain ⟨e2, W2, y, k2, t2⟩ := Hold.total I.or false (frts false R.P g) _ (cutB lo hi) hi W1 (log ++ es2) rfl (by omega)
        obtain ⟨e3, z, k3, t3⟩ := Meet.total I.or false x y (log ++ es2 ++ e2)
        exact ⟨e2 ++ e3, Told.app t2 t3, _, _, .node hlt k1 k2 k3⟩), fun H1 e1 W1 x u kvs1 hH1 hT1 S1 hA1 hd1 hdw1 hkl1 _ hx => ?_⟩
      have hf1 := hH1.few
      have hSt1 := hSt.askd hd S1
      have ho1 := hSt1.ho
      unfold PF at ho1
      rw [if_pos (by omega)] at hkl1
      walk_at "rd"
      refine ⟨R, I, g, log ++ e1, cutB lo hi, hi, W1, kvs1, rfl, ⟨⟨hn0, hc2', by omega, by omega⟩, hSt1, hA1, hP, hg0, hd1, hdw1, by omega, by rw [List.length_append]; omega⟩, kx.sub S1 (fun m hm => .inl hm) hT1 (fun es2 ⟨W2, y, k2⟩ hT2 => by
        obtain ⟨e3, z, k3, t3⟩ := Meet.total I.or false x y (log ++ e1 ++ es2)
        exact ⟨e3, t3, _, _, by rw [List.append_assoc]; exact .node hlt hH1 k2 k3⟩), fun H2 e2 W2 y w kvs2 hH2 hT2 S2 hA2 hd2 hdw2 hkl2 _ hy => ?_⟩
      have hf2 := hH2.few
      rw [if_pos (by omega)] at hkl2
      have hSt2 := hSt1.askd hd1 S2
      have ho2 := hSt2.ho
      unfold PF at ho2
      have t1 := hH1.tre (log := e1) fun _ h => h
      have t2 := hH2.tre (log := e2) fun _ h => h
      refine ⟨R, I, g, log ++ e1 ++ e2, u, w, x, y, rfl, ⟨hSt2, hA2, hx.stp S2, hy, fun a c ea ec => ?_, by simp only [List.length_append]; omega⟩, (by
        have := kx.sub (M1 := I.M) (es1 := e1 ++ e2) (R1 := fun es => ∃ z, Meet false x y es z) (S1.trans S2) (fun m hm => .inl (List.mem_cons_of_mem _ hm)) (Told.app hT1 hT2) (fun es3 ⟨z, k3⟩ hT3 => ⟨[], True.intro, _, z, by rw [List.append_nil, List.append_assoc]; exact .node hlt hH1 hH2 k3⟩)
        rw [← List.append_assoc] at this
        exact this), fun H3 e3 z v hm hT3 S3 hA3 hz => ?_⟩
      · subst ea ec
        exact t1.two hP t2 (Nat.le_refl _)
      · have hT := Told.app hT1 (Told.app hT2 hT3)
        have d3 : H3 R.dd = some (.dT kvs2) := S3.keep hd2 hSt.dM
        rw [List.append_assoc, List.append_assoc] at hA3
        walk_at "rd"
        refine hN _ _ ⟨v, z, e1 ++ (e2 ++ e3), W2, kvs2, _, _, .node hlt hH1 hH2 hm, hT, (S1.trans S2).trans (S3.mono fun b hb => List.mem_cons_of_mem _ hb), hA3, d3, hdw2.stp S3, ?_, hz, rfl⟩
        rw [if_pos (by omega)]; omega
    · walk_at "rd"
      have e : hi = lo := by omega
      subst e
      refine hN _ _ ⟨.non, none, [], W, kvs, _, _, .nil, True.intro, .refl _ _, by rw [List.append_nil]; exact hA, hd, hdw, ?_, rfl, rfl⟩
      rw [if_neg (by omega)]; omega
theorem ok_Pour_hold_all {P : Program} {w : World} {K : PySem.W.Frag} {mg : Str → Option Value} {base : Heap} {A : Ad} {f : Addr} {fd : FuncData} (F : Fun K "hold_all" "Pour.hold_all" s_Pour_hold_all f fd) (T : Txt K mg A) (M_Pour_front : SH.CalM P w K mg base CX0 1 A.Pour "front" [] (sp_Pour_front K A)) (M_Pour_meeting : SH.CalM P w K mg base (L2N.CX P w) 5 A.Pour "meeting" [] (sp_Pour_meeting K A)) (C_cut_between : SH.Cal P w K mg base CX0 1 "cut_between" [] (sp_cut_between K A)) (me : Meth K A.Pour "hold_all" f) (bi : Binds K fd ["self", "low", "high"] []) : FnOk P w K mg base (L2N.CX P w) 15 f fd ["self", "low", "high"] (sp_Pour_hold_all K A) := by
  have go : ∀ n, FnOk P w K mg base (L2N.CX P w) (5 + n) f fd ["self", "low", "high"] (sp_Pour_hold_alln n K A) := fun n => by
    induction n with
    | zero => exact ⟨fun _ _ _ _ h => (sp_Pour_hold_alln0 h).elim, fun _ _ _ _ _ _ _ _ _ _ _ _ _ h => (sp_Pour_hold_alln0 h).elim⟩
    | succ n ih => exact okn_Pour_hold_all n F T M_Pour_front M_Pour_meeting C_cut_between ⟨T.cl_Pour, f, fd, _, _, me, bi, .nil, ih⟩
  exact go 10

def sp_Pour___init__ (K : PySem.W.Frag) (A : Ad) : Sp := fun vs H Q E => ∃ (o hd : Addr) (I : Ask) (log : List Ent) (ha : List Addr) (P : List (List Nat)), vs = [.ref o, .ref I.s, .ref hd] ∧
  ((∃ dx, H o = some (.ins A.Pour dx [])) ∧ I.At K A H log ∧ H hd = some (.lst (ha.map V.ref)) ∧ Pls H ha P ∧ Pcs I P ∧ o ∉ I.own ∧ (P.map List.length).sum ≤ 2000 ∧ log.length + I.pre.length + 400 ≤ 100000) ∧
  StopM (o :: I.M) I K A H log (fun es => ∃ W z, Hold false (frts false P (List.replicate P.length 0)) 0 P.length (fun _ _ => none) es W z) E ∧
  ∀ (R : PR) H' es W z, R.o = o → R.P = P → (∀ a ∈ R.base, a ≠ o → H a = none) → Hold false (frts false P (List.replicate P.length 0)) 0 P.length (fun _ _ => none) es W z → Told I.or log es → Stp (o :: I.M) H H' → R.At false K A A.Pour I H' (log ++ es) (List.replicate P.length 0) W → Q .non H'
theorem ok_Pour___init__ {P : Program} {w : World} {K : PySem.W.Frag} {mg : Str → Option Value} {base : Heap} {A : Ad} {f : Addr} {fd : FuncData} (F : Fun K "__init__" "Pour.__init__" s_Pour___init__ f fd) (T : Txt K mg A) (M_Pour_hold_all : SH.CalM P w K mg base (L2N.CX P w) 15 A.Pour "hold_all" [] (sp_Pour_hold_all K A)) : FnOk P w K mg base (L2N.CX P w) 16 f fd ["self", "asker", "pieces"] (sp_Pour___init__ K A) := by
  refine SH.okN F sc_Pour___init__ (fun vs H Q E h => by obtain ⟨_, _, _, _, _, _, rfl, _⟩ := h; rfl) (fun cdv A' outer s H vs Q E hr h => ?_)
  obtain ⟨o, hd, I, log, ha, P, rfl, ⟨⟨dx, ho⟩, hA, hhd, hpl, hP, hoo, htot, hlog⟩, kx, k⟩ := h
  refine ⟨_, (pss_cons (SH.ps_fldF T.cl_Pour T.na_Pour_asker (pv 0) (pv 1) rfl)
        (pss_cons (SH.ps_fldF T.cl_Pour T.na_Pour_pieces (pv 0) (pe_lc (own := [("piece", 3)]) (g := (gName 3)) (tt := tYes) (by rfl) sc_Pour___init__.nd (pi_list (pv 2)) (blkOk_by (own := [("piece", 3)]) (N := ["self", "asker", "pieces", "piece"]) (sc := defScope s_Pour___init__) (by decide +kernel)) (fun _ _ _ _ _ => (pg_name (i := 3) sc_Pour___init__.nd rfl (Or.inl rfl))) (fun _ _ _ _ _ => pts_nil) (fun _ _ _ _ _ => (pe_callTy (SH.crK SH.rListOf K SH.cListOf) (by rfl) T.z_list (by decide +kernel) (pa_cons (pv 3) pa_nil)))) rfl)
        (pss_cons (SH.ps_fldF T.cl_Pour T.na_Pour_gone (pv 0) (pe_op SH.oMul (pe_lst (pa_cons pe_int pa_nil)) (pe_callB SH.cLen (by rfl) T.z_len (by decide +kernel) (pa_cons (SH.pe_fldF T.cl_Pour T.na_Pour_pieces (pv 0)) pa_nil))) rfl)
        (pss_cons (SH.ps_fldF T.cl_Pour T.na_Pour_went_on (pv 0) pe_dnewT rfl)
        (pss_one (ps_expr (SH.pe_methF (pv 0) M_Pour_hold_all hr (L2N.passes_call (L2N.takes_of rfl rfl rfl rfl) fun _ _ _ _ h => h) (pa_cons pe_int (pa_cons (pe_callB SH.cLen (by rfl) T.z_len (by decide +kernel) (pa_cons (SH.pe_fldF T.cl_Pour T.na_Pour_pieces (pv 0)) pa_nil)) pa_nil))))))))), ?_⟩
  walk_at "begin"
  have hMo : o ∉ I.M := fun z => hoo (Ask.Mown z)
  have hPl := hP.few
  walk_at "rd"
  have S1 : Stp [o] H (upd H o (.ins A.Pour dx [("asker", .ref I.s)])) := (Stp.refl _ _).putI (by simp) ho
  have ho1 : upd H o (.ins A.Pour dx [("asker", .ref I.s)]) o = some (.ins A.Pour dx [("asker", .ref I.s)]) := upd_same
  have noha : o ∉ ha := fun z => by
    obtain ⟨i, hi⟩ := List.mem_iff_getElem?.mp z
    obtain ⟨ps, _, h2⟩ := hpl.2 i _ hi
    rw [ho] at h2; cases h2
  have nohd : hd ≠ o := ne_of hhd ho (by intro z; cases z)
  have hhd1 := S1.keep1 hhd nohd
  have hpl1 := hpl.stp S1 (by intro m hm; rw [List.mem_singleton] at hm; subst hm; exact noha)
  have hA1 := hA.stp S1 (by intro m hm; rw [List.mem_singleton] at hm; subst hm; exact hoo)
  have fr1 : ∀ b, upd H o (.ins A.Pour dx [("asker", .ref I.s)]) b = none → H b = none := fun b e => S1.dom b e
  generalize upd H o (.ins A.Pour dx [("asker", .ref I.s)]) = H1 at S1 ho1 hhd1 hpl1 hA1 fr1 ⊢
  walk_at "rd"
  intro D hD
  refine lc_it (walk_list (xs := ha.map V.ref)) (fun j H' => Stp [] H1 H' ∧ ∃ pa : List Addr, pa.length = j ∧ (∀ (i : Nat) (a : Addr), pa[i]? = some a → H1 a = none ∧ a ≠ D ∧ ∃ ps, P[i]? = some ps ∧ H' a = some (.lst (nv ps))) ∧ H' D = some (.lst (pa.map V.ref))) ⟨(Stp.refl _ _).new hD, [], rfl, (by intro i a e; simp at e), upd_same⟩ (fun j H' _ z => z.1.sql0 (SqL.of hhd1)) ?_ ?_
  · rintro j x H3 H4 hj ⟨S, pa, hpal, hpa, hL⟩ ⟨rfl, hx⟩
    obtain ⟨a, ha1, rfl⟩ := map_at hx
    obtain ⟨ps, h1, h2⟩ := hpl1.2 j a ha1
    have h3 := S.keep0 h2
    walk_at "rd"
    intro l hl
    have hlD : l ≠ D := (ne_of_none hL hl).symm
    refine ⟨_, upd_old hL hl, Nat.lt_of_le_of_lt (m := 1000) (by rw [List.length_map] at hj ⊢; have := hpl.1; omega) (by decide), (S.new hl).putN hD, pa ++ [l], by simp [hpal], fun i b e => ?_, by rw [upd_same, List.map_append]; rfl⟩
    by_cases hi : i < pa.length
    · rw [List.getElem?_append_left hi] at e
      obtain ⟨q1, q2, ps', q3, q4⟩ := hpa i b e
      exact ⟨q1, q2, ps', q3, upd_far q2 (upd_old q4 hl)⟩
    · rw [List.getElem?_append_right (by omega)] at e
      have hz : i = pa.length := by
        have := (List.getElem?_eq_some_iff.mp e).1
        simp at this; omega
      subst hz
      simp at e
      subst e
      exact ⟨S.dom _ hl, hlD, ps, by rw [hpal]; exact h1, upd_far hlD upd_same⟩
  rintro H2 ⟨S2, pa, hpal, hpa, hD2⟩
  rw [List.length_map, hpl.1] at hpal
  have ho2 := S2.keep0 ho1
  have nDo : D ≠ o := (ne_of_none ho1 hD).symm
  walk_at "rd"
  intro l0 hl0
  have S3 : Stp [o] H2 (upd (upd H2 o (.ins A.Pour dx [("asker", .ref I.s), ("pieces", .ref D)])) l0 (.lst [.int 0])) := ((Stp.refl _ _).putI (by simp) ho2).new hl0
  have ho3 : upd (upd H2 o (.ins A.Pour dx [("asker", .ref I.s), ("pieces", .ref D)])) l0 (.lst [.int 0]) o = some (.ins A.Pour dx [("asker", .ref I.s), ("pieces", .ref D)]) := upd_old upd_same hl0
  have hl3 : upd (upd H2 o (.ins A.Pour dx [("asker", .ref I.s), ("pieces", .ref D)])) l0 (.lst [.int 0]) l0 = some (.lst [.int 0]) := upd_same
  have hD3 := S3.keep1 hD2 nDo
  generalize upd (upd H2 o (.ins A.Pour dx [("asker", .ref I.s), ("pieces", .ref D)])) l0 (.lst [.int 0]) = H3 at S3 ho3 hl3 hD3 ⊢
  walk_at "rd"
  refine v_mulL hl3 ⟨by omega, by omega⟩ (Nat.le_trans (m := 1000) (by simp; omega) (by decide)) fun gg hgg => ?_
  rw [show ((pa.length : Nat) : Int).toNat = P.length by omega, rep_zero]
  walk_at "rd"
  intro dd hdd
  have ngo : gg ≠ o := (ne_of_none ho3 hgg).symm
  have ngD : gg ≠ D := (ne_of_none hD3 hgg).symm
  have S4 : Stp [o] H3 (upd (upd (upd H3 gg (.lst (nv (List.replicate P.length 0)))) o (.ins A.Pour dx [("asker", .ref I.s), ("pieces", .ref D), ("gone", .ref gg)])) dd (.dT [])) := (((Stp.refl _ _).new hgg).putI (by simp) (upd_old ho3 hgg)).new hdd
  have ho4 : upd (upd (upd H3 gg (.lst (nv (List.replicate P.length 0)))) o (.ins A.Pour dx [("asker", .ref I.s), ("pieces", .ref D), ("gone", .ref gg)])) dd (.dT []) o = some (.ins A.Pour dx [("asker", .ref I.s), ("pieces", .ref D), ("gone", .ref gg)]) := upd_old upd_same hdd
  have hg4 : upd (upd (upd H3 gg (.lst (nv (List.replicate P.length 0)))) o (.ins A.Pour dx [("asker", .ref I.s), ("pieces", .ref D), ("gone", .ref gg)])) dd (.dT []) gg = some (.lst (nv (List.replicate P.length 0))) := upd_old (upd_far ngo upd_same) hdd
  have hd4 : upd (upd (upd H3 gg (.lst (nv (List.replicate P.length 0)))) o (.ins A.Pour dx [("asker", .ref I.s), ("pieces", .ref D), ("gone", .ref gg)])) dd (.dT []) dd = some (.dT []) := upd_same
  have hD4 := S4.keep1 hD3 nDo
  have hdd3 : H3 dd = none := (upd_free (upd_free hdd).1).1
  generalize upd (upd (upd H3 gg (.lst (nv (List.replicate P.length 0)))) o (.ins A.Pour dx [("asker", .ref I.s), ("pieces", .ref D), ("gone", .ref gg)])) dd (.dT []) = H4 at S4 ho4 hg4 hd4 hD4 ⊢
  walk_at "rd"
  have ndo : dd ≠ o := ne_of hd4 ho4 (by intro z; cases z)
  have S5 : Stp [o] H4 (upd H4 o (.ins A.Pour dx (PF I.s D gg dd))) := (Stp.refl _ _).putI (by simp) ho4
  have ho5 : upd H4 o (.ins A.Pour dx (PF I.s D gg dd)) o = some (.ins A.Pour dx (PF I.s D gg dd)) := upd_same
  show sp_Pour_hold_all K A _ (upd H4 o (.ins A.Pour dx (PF I.s D gg dd))) _ _
  generalize upd H4 o (.ins A.Pour dx (PF I.s D gg dd)) = H5 at S5 ho5 ⊢
  have S25 : Stp [o] H2 H5 := (S3.trans S4).trans S5
  have S05 : Stp [o] H H5 := (S1.trans (S2.mono (by simp))).trans S25
  have hD5 := S25.keep1 hD2 nDo
  have hg5 := S5.keep1 hg4 ngo
  have hd5 := S5.keep1 hd4 ndo
  have hpa5 : ∀ (i : Nat) (a : Addr), pa[i]? = some a → ∃ ps, P[i]? = some ps ∧ H5 a = some (.lst (nv ps)) := fun i a e => by
    obtain ⟨q1, q2, ps, q3, q4⟩ := hpa i a e
    exact ⟨ps, q3, S25.keep1 q4 (ne_of_none ho1 q1).symm⟩
  have hA5 : I.At K A H5 log := hA.stp S05 (by intro m hm; rw [List.mem_singleton] at hm; subst hm; exact hoo)
  have frD : H D = none := fr1 _ hD
  have frg : H gg = none := fr1 _ (S2.dom _ (S3.dom _ hgg))
  have frd : H dd = none := fr1 _ (S2.dom _ (S3.dom _ hdd3))
  have frp : ∀ a ∈ pa, H a = none ∧ H2 a ≠ none := fun a ha => by
    obtain ⟨i, hi⟩ := List.mem_iff_getElem?.mp ha
    obtain ⟨q1, q2, ps, q3, q4⟩ := hpa i a hi
    exact ⟨fr1 _ q1, by rw [q4]; simp⟩
  have hbase : ∀ a ∈ o :: D :: gg :: dd :: pa, a ≠ o → H a = none := fun a ha n => by
    rcases List.mem_cons.mp ha with rfl | ha
    · exact (n rfl).elim
    rcases List.mem_cons.mp ha with rfl | ha
    · exact frD
    rcases List.mem_cons.mp ha with rfl | ha
    · exact frg
    rcases List.mem_cons.mp ha with rfl | ha
    · exact frd
    · exact (frp a ha).1
  have hown : ∀ a ∈ o :: D :: gg :: dd :: pa, a ∉ I.own := fun a ha => by
    by_cases e : a = o
    · subst e; exact hoo
    · exact hA.freshO (hbase a ha e)
  have hSt : PR.St ⟨o, dx, D, gg, dd, pa, P⟩ A.Pour I H5 (List.replicate P.length 0) := ⟨ho5, hD5, hpa5, hpal, hg5, List.length_replicate, hown, ngD, fun a ha z => (frp a ha).2 (by rw [z]; exact S3.dom _ hgg)⟩
  refine ⟨⟨o, dx, D, gg, dd, pa, P⟩, I, List.replicate P.length 0, log, 0, P.length, fun _ _ => none, [], by rw [show ((pa.length : Nat) : Int) = ((P.length : Nat) : Int) by omega]; rfl, ⟨⟨by decide, by show P.length - 0 ≤ 512; omega, Nat.zero_le _, Nat.le_refl _⟩, hSt, hA5, hP, fun i => rep_get _ _, hd5, (fun a c x (e : (none : Option Fr) = some x) => by cases e), by show 0 + 2 * (P.length - 0) + 1 ≤ 5000; omega, by omega⟩, kx.imp (S05.mono (by simp)) (fun m hm => by
    rcases List.mem_cons.mp hm with rfl | hm
    · exact .inr frd
    · exact .inl (List.mem_cons_of_mem _ hm)) (fun es h => h), fun H6 es W z u kvs hH hT S6 hA6 hd6 hdw6 hkl6 hkn hz => ?_⟩
  dsimp only
  walk_at "rd"
  refine k ⟨o, dx, D, gg, dd, pa, P⟩ H6 es W z rfl rfl hbase hH hT ?_ ⟨hSt.askd hd5 S6, hA6, hP, fun i => by rw [rep_get]; exact Nat.zero_le _, ⟨kvs, hd6, hdw6, hkn, ?_⟩, ⟨z, hH.tre fun e he => List.mem_append_right _ he⟩⟩
  · refine (S05.mono (M' := o :: I.M) (by simp)).then S6 fun m hm => ?_
    rcases List.mem_cons.mp hm with rfl | hm
    · exact .inr frd
    · exact .inl (List.mem_cons_of_mem _ hm)
  · unfold PR.left
    rw [rep_sum]
    show kvs.length + 400 * ((P.map List.length).sum - 0) ≤ 900000
    have h2 : kvs.length ≤ 0 + 2 * (P.length - 0) + 1 - (if 0 < P.length then 2 else 0) := hkl6
    omega
def sp_Pour_first (K : PySem.W.Frag) (A : Ad) : Sp := fun vs H Q _ => ∃ (R : PR) (I : Ask) (log : List Ent) (g : List Nat) (W : Wt) (z : Fr), vs = [.ref R.o] ∧ (R.At false K A A.Pour I H log g W ∧ W 0 R.P.length = some z) ∧
  ∀ H', Stp [] H H' → Q (frI z) H'
theorem ok_Pour_first {P : Program} {w : World} {K : PySem.W.Frag} {mg : Str → Option Value} {base : Heap} {A : Ad} {f : Addr} {fd : FuncData} (F : Fun K "first" "Pour.first" s_Pour_first f fd) (T : Txt K mg A)  : FnOk P w K mg base CX0 1 f fd ["self"] (sp_Pour_first K A) := by
  refine F.ok sc_Pour_first (fun vs H Q E h => by obtain ⟨_, _, _, _, _, _, rfl, _⟩ := h; rfl) (fun cdv A' outer s H vs Q E hr h => ?_)
  obtain ⟨R, I, log, g, W, z, rfl, ⟨hR, hz⟩, k⟩ := h
  refine ⟨_, (pss_cons (ps_set (i := 1) sc_Pour_first.nd rfl (Or.inl rfl) (pe_dget (hu_of hr) (SH.pe_fldF T.cl_Pour T.na_Pour_went_on (pv 0)) (pe_tup (pa_cons pe_int (pa_cons (pe_callB SH.cLen (by rfl) T.z_len (by decide +kernel) (pa_cons (SH.pe_fldF T.cl_Pour T.na_Pour_pieces (pv 0)) pa_nil)) pa_nil))) (fun _ _ => rfl)))
        (pss_cons (ps_if (pt_cmpR SH.oIsN (pv 1) pe_non (nomark _)) (pss_one (ps_ret pe_non)) pss_nil)
        (pss_one (ps_ret (pe_ix SH.ixA (pv 1) pe_int (fun _ _ => rfl)))))), ?_⟩
  walk_at "begin"
  have ho := hR.st.ho
  unfold PF at ho
  have hp := hR.st.hp
  have hpl : R.pa.length = R.P.length := hR.st.hl
  obtain ⟨kvs, hd, hdw, _⟩ := hR.dw
  obtain ⟨v, hv1, hv2⟩ := hdw _ _ _ hz
  walk_at "rd"
  intro q hq
  rw [hpl]
  refine v_dgetI (ks := pk 0 R.P.length) (upd_old hd hq) upd_same hv1 ?_
  have S := (Stp.refl [] H).new (o := .tup [.int (0 : Int), .int (R.P.length : Nat)]) hq
  walk_at "rd"
  cases z with
  | none =>
    cases hv2
    refine r_wT rfl ?_
    walk_at "rd"
    exact k _ S
  | some x =>
    obtain ⟨t, rfl, ht⟩ := hv2
    refine r_wF (by intro z; cases z) ?_
    walk_at "rd"
    refine v_ixTn (n := 0) (SqT.of (upd_old ht hq)) rfl rfl ?_
    exact k _ S
def sp_Pour_way_down (K : PySem.W.Frag) (A : Ad) : Sp := fun vs H Q _ => ∃ (R : PR) (I : Ask) (g : List Nat) (n : Nat), vs = [.ref R.o, .int n] ∧ (R.St A.Pour I H g ∧ n < R.P.length ∧ R.P.length ≤ 300) ∧
  ∀ H' q ts l a c, H q = none → Way n 0 R.P.length l a c → c ≤ a + 1 → Stp [] H H' → H' q = some (.lst ts) → Prs H' ts l → Q (.ref q) H'
theorem ok_Pour_way_down {P : Program} {w : World} {K : PySem.W.Frag} {mg : Str → Option Value} {base : Heap} {A : Ad} {f : Addr} {fd : FuncData} (F : Fun K "way_down" "Pour.way_down" s_Pour_way_down f fd) (T : Txt K mg A) (C_cut_between : SH.Cal P w K mg base CX0 1 "cut_between" [] (sp_cut_between K A)) : FnOk P w K mg base CX0 2 f fd ["self", "number"] (sp_Pour_way_down K A) := by
  refine F.ok sc_Pour_way_down (fun vs H Q E h => by obtain ⟨_, _, _, _, rfl, _⟩ := h; rfl) (fun cdv A' outer s H vs Q E hr h => ?_)
  obtain ⟨R, I, g, n, rfl, ⟨hSt, hn, hfew⟩, k⟩ := h
  refine ⟨_, (pss_cons (ps_set (i := 2) sc_Pour_way_down.nd rfl (Or.inl rfl) (pe_lst pa_nil))
        (pss_cons (ps_set (i := 3) sc_Pour_way_down.nd rfl (Or.inl rfl) pe_int)
        (pss_cons (ps_set (i := 4) sc_Pour_way_down.nd rfl (Or.inl rfl) (pe_callB SH.cLen (by rfl) T.z_len (by decide +kernel) (pa_cons (SH.pe_fldF T.cl_Pour T.na_Pour_pieces (pv 0)) pa_nil)))
        (pss_cons (ps_while PassesOwn.never (pt_cmpR SH.oGt (pe_op SH.oSub (pv 4) (pv 3)) pe_int (nomark _)) (pss_cons (ps_expr (pe_bm PySem.F.plainAttrs_list PySem.F.slot_list_append PySem.F.type_list_append mt_append (pv 2) (pa_cons (pe_tup (pa_cons (pv 3) (pa_cons (pv 4) pa_nil))) pa_nil)))
        (pss_cons (ps_set (i := 5) sc_Pour_way_down.nd rfl (Or.inl rfl) (SH.pe_callF C_cut_between hr (by rfl) pass0 (pa_cons (pv 3) (pa_cons (pv 4) pa_nil))))
        (pss_one (ps_if (pt_cmpR (SH.oLt hr.units0) (pv 1) (pv 5) (nomark _)) (pss_one (ps_set (i := 4) sc_Pour_way_down.nd rfl (Or.inl rfl) (pv 5))) (pss_one (ps_set (i := 3) sc_Pour_way_down.nd rfl (Or.inl rfl) (pv 5))))))))
        (pss_one (ps_ret (pv 2))))))), ?_⟩
  walk_at "begin"
  have ho := hSt.ho
  unfold PF at ho
  have hp := hSt.hp
  have hpl : R.pa.length = R.P.length := hSt.hl
  walk_at "rd"
  intro q hq
  have hp1 := upd_old (u := .lst []) hp hq
  walk_at "rd"
  rw [hpl]
  refine r_while (fun m σ H' => ∃ (ts : List V) (l : List (Nat × Nat)) (a c : Nat) (v5 : Option V), m = c - a ∧ Way n 0 R.P.length l a c ∧ Stp [] H H' ∧ H' q = some (.lst ts) ∧ Prs H' ts l ∧ σ = [some (.ref R.o), some (.int n), some (.ref q), some (.int a), some (.int c), v5])
    ⟨_, [], [], 0, R.P.length, _, rfl, .nil, (Stp.refl _ _).new hq, upd_same, ⟨rfl, by intro i x e; simp at e⟩, rfl⟩ ?_
  rintro m σ H1 ⟨ts, l, a, c, v5, rfl, hW, S1, hq1, hts, rfl⟩
  have hin := hW.in (Nat.zero_le _) hn
  walk_at "rd"
  refine r_w (fun hc => ?_) fun hc => ?_
  · refine r_next_turn ?_
    have hlt : a + 1 < c := by omega
    have hcut := cutB_lt hlt
    walk_at "rd"
    intro t ht
    have htq : t ≠ q := (ne_of_none hq1 ht).symm
    walk_at "rd"
    refine v_app (upd_old hq1 ht) (by rw [hts.1]; omega) ?_
    walk_at "rd"
    refine ⟨a, c, rfl, ?_⟩
    walk_at "rd"
    have S2 : Stp [q] H1 (upd (upd H1 t (.tup [.int a, .int c])) q (.lst (ts ++ [.ref t]))) := ((Stp.refl _ _).new ht).putL (by simp) (upd_old hq1 ht)
    have S3 : Stp [] H (upd (upd H1 t (.tup [.int a, .int c])) q (.lst (ts ++ [.ref t]))) := (S1.new ht).putN hq
    have hts2 : Prs (upd (upd H1 t (.tup [.int a, .int c])) q (.lst (ts ++ [.ref t]))) (ts ++ [.ref t]) (l ++ [(a, c)]) := (hts.stp S2).app (x := (a, c)) (upd_far htq upd_same)
    refine r_w (fun hc2 => ?_) fun hc2 => ?_
    · walk_at "rd"
      exact ⟨_, by omega, ts ++ [.ref t], l ++ [(a, c)], a, cutB a c, _, rfl, .left hW hlt (by omega), S3, upd_same, hts2, rfl⟩
    · walk_at "rd"
      exact ⟨_, by omega, ts ++ [.ref t], l ++ [(a, c)], cutB a c, c, _, rfl, .right hW hlt (by omega), S3, upd_same, hts2, rfl⟩
  · walk_at "rd"
    exact k H1 q ts l a c hq hW (by omega) S1 hq1 hts
def sp_Pour_take (K : PySem.W.Frag) (A : Ad) : Sp := fun vs H Q E => ∃ (R : PR) (I : Ask) (log : List Ent) (g : List Nat) (W : Wt) (top : Fr), vs = [.ref R.o] ∧ (R.At false K A A.Pour I H log g W ∧ W 0 R.P.length = some top ∧ log.length + I.pre.length + 400 ≤ 100000) ∧
  (∀ x : Nat × Nat, top = some x → Stop I K A H log (fun es => ∃ W' z, TakeR false W x.2 (frt false (R.P.getD x.2 []) (g.getD x.2 0 + 1) x.2) 0 R.P.length es W' z) E) ∧
  (top = none → ∀ H', Stp [] H H' → Q .non H') ∧
  ∀ x : Nat × Nat, top = some x → x.2 < R.P.length → g.getD x.2 0 < (R.P.getD x.2 []).length → ∀ H' es W' z, TakeR false W x.2 (frt false (R.P.getD x.2 []) (g.getD x.2 0 + 1) x.2) 0 R.P.length es W' z → Told I.or log es → Stp (R.M I) H H' → R.At false K A A.Pour I H' (log ++ es) (g.set x.2 (g.getD x.2 0 + 1)) W' → Q (.int (x.1 : Nat)) H'
theorem ok_Pour_take {P : Program} {w : World} {K : PySem.W.Frag} {mg : Str → Option Value} {base : Heap} {A : Ad} {f : Addr} {fd : FuncData} (F : Fun K "take" "Pour.take" s_Pour_take f fd) (T : Txt K mg A) (M_Pour_front : SH.CalM P w K mg base CX0 1 A.Pour "front" [] (sp_Pour_front K A)) (M_Pour_meeting : SH.CalM P w K mg base (L2N.CX P w) 5 A.Pour "meeting" [] (sp_Pour_meeting K A)) (M_Pour_way_down : SH.CalM P w K mg base CX0 2 A.Pour "way_down" [] (sp_Pour_way_down K A)) (C_cut_between : SH.Cal P w K mg base CX0 1 "cut_between" [] (sp_cut_between K A)) : FnOk P w K mg base (L2N.CX P w) 6 f fd ["self"] (sp_Pour_take K A) := by
  refine SH.okN F sc_Pour_take (fun vs H Q E h => by obtain ⟨_, _, _, _, _, _, rfl, _⟩ := h; rfl) (fun cdv A' outer s H vs Q E hr h => ?_)
  obtain ⟨R, I, log, g, W, top, rfl, ⟨hR, hz, hlog⟩, kx, k0, k⟩ := h
  refine ⟨_, (pss_cons (ps_set (i := 1) sc_Pour_take.nd rfl (Or.inl rfl) (pe_dget (hu_of hr) (SH.pe_fldF T.cl_Pour T.na_Pour_went_on (pv 0)) (pe_tup (pa_cons pe_int (pa_cons (pe_callB SH.cLen (by rfl) T.z_len (by decide +kernel) (pa_cons (SH.pe_fldF T.cl_Pour T.na_Pour_pieces (pv 0)) pa_nil)) pa_nil))) (fun _ _ => rfl)))
        (pss_cons (ps_if (pt_cmpR SH.oIsN (pv 1) pe_non (nomark _)) (pss_one (ps_ret pe_non)) pss_nil)
        (pss_cons (ps_set (i := 2) sc_Pour_take.nd rfl (Or.inl rfl) (pe_ix SH.ixA (pv 1) pe_int (fun _ _ => rfl)))
        (pss_cons (ps_set (i := 3) sc_Pour_take.nd rfl (Or.inl rfl) (SH.pe_methF (pv 0) M_Pour_front hr pass0 (pa_cons (pv 2) (pa_cons (pe_op SH.oAdd (pe_ix SH.ixA (SH.pe_fldF T.cl_Pour T.na_Pour_gone (pv 0)) (pv 2) (fun _ _ => rfl)) pe_int) pa_nil))))
        (pss_cons (ps_set (i := 4) sc_Pour_take.nd rfl (Or.inl rfl) pe_dnewT)
        (pss_cons (ps_dput (hu_of hr) (pv 4) (pe_tup (pa_cons (pv 2) (pa_cons (pe_op SH.oAdd (pv 2) pe_int) pa_nil))) (pv 3) rfl)
        (pss_cons (ps_for (L2.passes_of rfl) rfl (pi_reversed (by rfl) T.z_reversed (pa_cons (SH.pe_methF (pv 0) M_Pour_way_down hr pass0 (pa_cons (pv 2) pa_nil)) pa_nil)) (pg_tup (by rfl) (pgs_cons (pg_name (i := 5) sc_Pour_take.nd rfl (Or.inl rfl)) (pgs_cons (pg_name (i := 6) sc_Pour_take.nd rfl (Or.inl rfl)) pgs_nil))) (pss_cons (ps_set (i := 7) sc_Pour_take.nd rfl (Or.inl rfl) (SH.pe_callF C_cut_between hr (by rfl) pass0 (pa_cons (pv 5) (pa_cons (pv 6) pa_nil))))
        (pss_cons (ps_if (pt_cmpR (SH.oLt hr.units0) (pv 2) (pv 7) (nomark _)) (pss_one (ps_set (i := 3) sc_Pour_take.nd rfl (Or.inl rfl) (SH.pe_methF (pv 0) M_Pour_meeting hr (L2N.passes_call (L2N.takes_of rfl rfl rfl rfl) fun _ _ _ _ h => h) (pa_cons (pv 3) (pa_cons (pe_dget (hu_of hr) (SH.pe_fldF T.cl_Pour T.na_Pour_went_on (pv 0)) (pe_tup (pa_cons (pv 7) (pa_cons (pv 6) pa_nil))) (fun _ _ => rfl)) pa_nil))))) (pss_one (ps_set (i := 3) sc_Pour_take.nd rfl (Or.inl rfl) (SH.pe_methF (pv 0) M_Pour_meeting hr (L2N.passes_call (L2N.takes_of rfl rfl rfl rfl) fun _ _ _ _ h => h) (pa_cons (pe_dget (hu_of hr) (SH.pe_fldF T.cl_Pour T.na_Pour_went_on (pv 0)) (pe_tup (pa_cons (pv 5) (pa_cons (pv 7) pa_nil))) (fun _ _ => rfl)) (pa_cons (pv 3) pa_nil))))))
        (pss_one (ps_dput (hu_of hr) (pv 4) (pe_tup (pa_cons (pv 5) (pa_cons (pv 6) pa_nil))) (pv 3) rfl)))))
        (pss_cons (ps_expr (pe_bm PySem.F.plainAttrs_dict PySem.F.slot_dict_update PySem.F.type_dict_update (SH.mt_updT (hu_of hr)) (SH.pe_fldF T.cl_Pour T.na_Pour_went_on (pv 0)) (pa_cons (pv 4) pa_nil)))
        (pss_cons (ps_augS (SH.pe_fldF T.cl_Pour T.na_Pour_gone (pv 0)) (pv 2) SH.getL pe_int SH.ip_add' set_list)
        (pss_one (ps_ret (pe_ix SH.ixA (pv 1) pe_int (fun _ _ => rfl))))))))))))), ?_⟩
  walk_at "begin"
  have ho := hR.st.ho
  unfold PF at ho
  have hp := hR.st.hp
  have hpl : R.pa.length = R.P.length := hR.st.hl
  obtain ⟨kvs, hd, hdw, hkn, hkl⟩ := hR.dw
  obtain ⟨v, hv1, hv2⟩ := hdw _ _ _ hz
  walk_at "rd"
  intro q hq
  rw [hpl]
  refine v_dgetI (ks := pk 0 R.P.length) (upd_old hd hq) upd_same hv1 ?_
  have S := (Stp.refl [] H).new (o := .tup [.int (0 : Int), .int (R.P.length : Nat)]) hq
  have hR1 := hR.dT S
  have hd1 := S.keep0 hd
  have hdw1 := hdw.stp S
  have hv2' := hv2.stp S
  generalize upd H q (.tup [.int (0 : Int), .int (R.P.length : Nat)]) = H1 at S hR1 hd1 hdw1 hv2' ⊢
  have ho1 := hR1.st.ho
  unfold PF at ho1
  walk_at "rd"
  cases top with
  | none =>
    cases hv2'
    refine r_wT rfl ?_
    walk_at "rd"
    exact k0 rfl _ S
  | some x =>
  obtain ⟨t, rfl, ht⟩ := hv2'
  refine r_wF (by intro z; cases z) ?_
  clear hv2 hv1 hp ho hd hdw hq k0
  obtain ⟨z0, htre⟩ := hR.tre
  obtain rfl : z0 = some x := by have := htre.at; rw [hz] at this; exact (Option.some.inj this).symm
  obtain ⟨i, _, hi, hfi⟩ := htre.from.resolve_left (by simp)
  have kx := kx x rfl
  obtain ⟨x1, n⟩ := x
  obtain ⟨rfl, ps, hps, hpm, hgl⟩ := frts_mem hfi.symm
  have hpd : R.P.getD n [] = ps := by rw [List.getD_eq_getElem?_getD, hps]; rfl
  have hgn : n < g.length := by rw [hR.st.gl]; exact hi
  walk_at "rd"
  refine v_ixTn (n := 1) (SqT.of ht) rfl rfl ?_
  walk_at "rd"
  have hg1 := hR1.st.hg
  refine v_ixLn (n := n) (v := .int (g.getD n 0 : Nat)) (SqL.of hg1) rfl (by unfold nv; rw [List.getElem?_map, List.getElem?_eq_getElem hgn, List.getD_eq_getElem?_getD, List.getElem?_eq_getElem hgn]; rfl) ?_
  walk_at "rd"
  rw [show ((g.getD n 0 : Nat) : Int) + 1 = ((g.getD n 0 + 1 : Nat) : Int) by omega]
  refine ⟨R, I, g, n, g.getD n 0 + 1, rfl, ⟨hR1.st, hi⟩, fun fv H2 S2 hfv => ?_⟩
  rw [hpd] at hfv
  dsimp only at kx
  rw [hpd] at kx
  generalize hnx : frt false ps (g.getD n 0 + 1) n = nx at hfv kx
  walk_at "rd"
  intro D hD
  walk_at "rd"
  intro kt hkt
  have hDk : kt ≠ D := by rintro rfl; rw [upd_same] at hkt; cases hkt
  refine v_dputT (ks := pk n (n + 1)) (upd_old upd_same hkt) upd_same (by decide) ?_
  have S3 : Stp [] H2 (upd (upd (upd H2 D (.dT [])) kt (.tup [.int n, .int ((n : Nat) + 1)])) D (.dT (putK [] (pk n (n + 1)) fv))) := (((Stp.refl _ _).new hD).new hkt).putN hD
  have hD3 : upd (upd (upd H2 D (.dT [])) kt (.tup [.int n, .int ((n : Nat) + 1)])) D (.dT (putK [] (pk n (n + 1)) fv)) D = some (.dT (putK [] (pk n (n + 1)) fv)) := upd_same
  have hfv3 := hfv.stp S3
  generalize upd (upd (upd H2 D (.dT [])) kt (.tup [.int n, .int ((n : Nat) + 1)])) D (.dT (putK [] (pk n (n + 1)) fv)) = H3 at S3 hD3 hfv3 ⊢
  have S23 := S2.trans S3
  have hR3 := hR1.dT S23
  have hd3 := S23.keep0 hd1
  have hDw3 := hdw1.stp S23
  have hD1 : H1 D = none := S2.dom _ hD
  have hDdd : D ≠ R.dd := by rintro rfl; rw [hd1] at hD1; cases hD1
  have hDo := hR1.ask.freshO hD1
  have hDM := hR1.ask.fresh hD1
  have hDb : D ∉ R.base := fun z => by
    have h1 := hR1.st
    simp only [PR.base, List.mem_cons] at z
    rcases z with z | z | z | z | z
    · rw [z, h1.ho] at hD1; cases hD1
    · rw [z, h1.hp] at hD1; cases hD1
    · rw [z, h1.hg] at hD1; cases hD1
    · rw [z, hd1] at hD1; cases hD1
    · obtain ⟨i, hi⟩ := List.mem_iff_getElem?.mp z
      obtain ⟨ps, _, h2⟩ := h1.ha i _ hi
      rw [h2] at hD1; cases hD1
  clear hkt hDk hfv hD
  have ho3 := hR3.st.ho
  unfold PF at ho3
  walk_at "rd"
  refine ⟨R, I, g, n, rfl, ⟨hR3.st, hi, hR.pcs.few⟩, fun H4 wq ts l a c hwq hW hac S4 hwq4 hts => ?_⟩
  have hin := hW.in (Nat.zero_le _) hi
  have hll : l.length ≤ 300 := by have := hR.pcs.few; omega
  have hR4 := hR3.dT S4
  have hd4 := S4.keep0 hd3
  have hDw4 := hDw3.stp S4
  have hD4 := S4.keep0 hD3
  have hfv4 := hfv3.stp S4
  have hwD : wq ≠ D := (ne_of_none hD3 hwq).symm
  have nwo : wq ∉ R.base ∧ wq ∉ I.own := by
    refine ⟨fun z => ?_, hR3.ask.freshO hwq⟩
    have h1 := hR3.st
    simp only [PR.base, List.mem_cons] at z
    rcases z with z | z | z | z | z
    · rw [z, h1.ho] at hwq; cases hwq
    · rw [z, h1.hp] at hwq; cases hwq
    · rw [z, h1.hg] at hwq; cases hwq
    · rw [z, hd3] at hwq; cases hwq
    · obtain ⟨i, hi⟩ := List.mem_iff_getElem?.mp z
      obtain ⟨ps, _, h2⟩ := h1.ha i _ hi
      rw [h2] at hwq; cases hwq
  have S14 : Stp [] H1 H4 := (S2.trans S3).trans S4
  clear S4 hwq hR3 hd3 hDw3 hD3 hfv3
  have ec : c = a + 1 := by omega
  have ea : n = a := by omega
  subst ec
  subst ea
  walk_at "rd"
  refine for_it (walk_rev (xs := ts)) (fun j σ H' => ∃ (a c : Nat) (l1 : List (Nat × Nat)) (es : List Ent) (W1 : Wt) (z : Fr) (u : V) (more : List (List Key × V)) (v5 v6 v7 : Option V), l1 = l.take (l.length - j) ∧ Way n 0 R.P.length l1 a c ∧ TakeR false W n nx a c es W1 z ∧ Told I.or log es ∧ es.length ≤ j ∧ more.length ≤ j + 1 ∧ Stp (D :: I.M) H4 H' ∧ R.At false K A A.Pour I H' (log ++ es) g W ∧ H' R.dd = some (.dT kvs) ∧ H' D = some (.dT more) ∧ Anew H' W W1 more ∧ (∀ p ∈ more, ∃ a' c', p.1 = pk a' c' ∧ a ≤ a' ∧ c' ≤ c) ∧ H' wq = some (.lst ts) ∧ frV H' u z ∧
      σ = [some (.ref R.o), some (.ref t), some (.int n), some u, some (.ref D), v5, v6, v7])
    ⟨n, n + 1, l, [], putW W n (n + 1) nx, nx, fv, _, _, _, _, by simp, hW, .one, True.intro, Nat.le_refl _, by simpa using length_putK [] (pk n (n + 1)) fv, .refl _ _, by rw [List.append_nil]; exact hR4, hd4, hD4, Anew.nil.put hfv4 (.inr True.intro) (by simp), fun p hp => ?_, hwq4, hfv4, rfl⟩ (fun _ _ _ _ ⟨_, _, _, _, _, _, _, _, _, _, _, _, _, _, _, _, _, _, _, _, _, _, _, h, _⟩ => SqL.of h) ?_ ?_
  · rcases mem_putK hp with rfl | hp
    · exact ⟨_, _, rfl, Nat.le_refl _, Nat.le_refl _⟩
    · cases hp
  · rintro j y σ H5 H6 hj ⟨a, c, l1, es, W1, z, u, more, v5, v6, v7, rfl, hW1, hTk, hT, hel, hml, S5, hR5, hd5, hD5, hAn, hAk, hw5, hu, rfl⟩ ⟨rfl, hy⟩
    have hjl : j < l.length := by rw [← hts.1]; exact hj
    obtain ⟨y', hy'⟩ : ∃ y', l[l.length - 1 - j]? = some y' := ⟨_, List.getElem?_eq_getElem (by omega)⟩
    obtain ⟨yt, hyt1, hyt2⟩ := hts.2 _ _ hy'
    rw [hts.1, hyt1] at hy
    cases hy
    have hyt5 := S5.tup hyt2
    have etk : l.take (l.length - j) = l.take (l.length - (j + 1)) ++ [y'] := by
      have : l.length - j = (l.length - 1 - j) + 1 := by omega
      rw [this, List.take_succ, hy', show l.length - (j + 1) = l.length - 1 - j by omega]
      rfl
    rw [etk] at hW1
    obtain ⟨hW2, hlt, hcase⟩ := hW1.last
    obtain ⟨a2, c2⟩ := y'
    dsimp only at hW2 hlt hcase hyt5
    have hcut := cutB_lt hlt
    have hin2 := hW2.in (Nat.zero_le _) hi
    obtain ⟨zz, htre2⟩ := htre.sub hW2
    obtain ⟨kx', ky, hk1, hk2⟩ := htre2.kids hlt
    have ho5 := hR5.st.ho
    unfold PF at ho5
    have hDw5 := hDw4.stp S5
    have S05 : Stp I.M H H6 := ((S.trans S14).mono (M' := I.M) (by simp)).then S5 fun m hm => by
      rcases List.mem_cons.mp hm with rfl | hm
      · exact .inr (S.dom _ hD1)
      · exact .inl hm
    have hTk' := hTk
    have hin3 := hW1.in (Nat.zero_le _) hi
    have hts1 : Tre false (frts false R.P (g.set n (g.getD n 0 + 1))) W1 (log ++ es) a c z := by
      obtain ⟨z3, t3⟩ := htre.sub hW1
      rw [frts_set hgn, hpd, hnx]
      exact hTk.tre0 t3
    walk_at "rd"
    refine ⟨a2, c2, rfl, ?_⟩
    walk_at "rd"
    refine r_wJ (W := fun σ' H' => ∃ (e2 : List Ent) (z2 : Fr) (u2 : V), TakeR false W n nx a2 c2 (es ++ e2) (putW W1 a2 c2 z2) z2 ∧ Told I.or (log ++ es) e2 ∧ e2.length ≤ 1 ∧ Stp I.M H6 H' ∧ I.At K A H' (log ++ es ++ e2) ∧ frV H' u2 z2 ∧
      σ' = [some (.ref R.o), some (.ref t), some (.int n), some u2, some (.ref D), some (.int a2), some (.int c2), some (.int (cutB a2 c2 : Nat))]) ?_ (fun hc N hN => ?_) (fun hc N hN => ?_)
    · rintro σ' H7 ⟨e2, z2, u2, hTk2, hT2, he2, S7, hA7, hu2, rfl⟩
      dsimp only
      have hD7 := S7.keep hD5 hDM
      have hd7 := S7.keep hd5 hR5.st.dM
      have hR7 := hR5.more S7 hA7 fun e he => by simp only [List.mem_append] at he ⊢; exact .inl he
      walk_at "rd"
      intro kt hkt
      refine v_dputT (ks := pk a2 c2) (upd_old hD7 hkt) upd_same (by omega) ?_
      walk_at "rd"
      have S8 : Stp [D] H7 (upd (upd H7 kt (.tup [.int a2, .int c2])) D (.dT (putK more (pk a2 c2) u2))) := ((Stp.refl _ _).new hkt).putM (by simp) (upd_old hD7 hkt) (fun z => z)
      have hl := length_putK more (pk a2 c2) u2
      refine ⟨a2, c2, l.take (l.length - (j + 1)), es ++ e2, putW W1 a2 c2 z2, z2, u2, putK more (pk a2 c2) u2, _, _, _, rfl, hW2, hTk2, Told.app hT hT2, by rw [List.length_append]; omega, by omega, (S5.trans (S7.mono fun b hb => List.mem_cons_of_mem _ hb)).trans (S8.mono (by simp)), ?_, ?_, upd_same, ((hAn.stp S7).stp S8).put (hu2.stp S8) (.inr True.intro) ?_, ?_, ?_, hu2.stp S8, rfl⟩
      · rw [List.append_assoc] at hR7
        exact hR7.stp S8 (by intro m hm; rw [List.mem_singleton] at hm; subst hm; exact ⟨hDb, hDo⟩)
      · exact S8.keep1 hd7 hDdd.symm
      · intro p hp z
        obtain ⟨a', c', q1, q2, q3⟩ := hAk p hp
        rw [q1] at z
        obtain ⟨rfl, rfl⟩ := pk_inj.mp z
        omega
      · intro p hp
        rcases mem_putK hp with rfl | hp
        · exact ⟨_, _, rfl, Nat.le_refl _, Nat.le_refl _⟩
        · obtain ⟨a', c', q1, q2, q3⟩ := hAk p hp
          exact ⟨a', c', q1, by omega, by omega⟩
      · exact S8.keep1 (S7.keep hw5 fun z => nwo.2 (Ask.Mown z)) hwD
    · obtain ⟨hn2, ea, ec⟩ := hcase.resolve_right (fun z => by omega)
      subst ea
      subst ec
      obtain ⟨w, hw1, hw2⟩ := hDw5 _ _ _ hk2.at
      walk_at "rd"
      intro kt hkt
      refine v_dgetI (ks := pk (cutB a c2) c2) (upd_old hd5 hkt) upd_same hw1 ?_
      have S6 := (Stp.refl [] H6).new (o := .tup [.int (cutB a c2 : Nat), .int (c2 : Nat)]) hkt
      refine ⟨R, I, g, log ++ es, u, w, z, ky, rfl, ⟨(hR5.dT S6).st, (hR5.dT S6).ask, hu.stp S6, hw2.stp S6, fun x y ex ey => ?_, by simp only [List.length_append]; omega⟩, StopM.toS (kx.toM.sub (S05.trans (S6.mono (by simp))) (fun m hm => .inl hm) hT (fun es2 ⟨z2, hm⟩ hT2 => by
        obtain ⟨es', W', z', hk', hT'⟩ := TakeR.up I.or htre hW2 (lg := log ++ es ++ es2) (.left hlt hn2 hTk hk2.at hm)
        exact ⟨es', hT', W', z', hk'⟩)), fun H7 e2 z2 u2 hm hT2 S7 hA7 hz2 => ?_⟩
      · subst ex ey
        exact hts1.two hR.pcs hk2 (Nat.le_refl _)
      · walk_at "rd"
        exact hN _ _ ⟨e2, z2, u2, .left hlt hn2 hTk hk2.at hm, hT2, hm.few.1, (S6.mono (by simp)).trans S7, hA7, hz2, rfl⟩
    · obtain ⟨hn2, ea, ec⟩ := hcase.resolve_left (fun z => by omega)
      subst ea
      subst ec
      obtain ⟨w, hw1, hw2⟩ := hDw5 _ _ _ hk1.at
      walk_at "rd"
      intro kt hkt
      refine v_dgetI (ks := pk a2 (cutB a2 c)) (upd_old hd5 hkt) upd_same hw1 ?_
      have S6 := (Stp.refl [] H6).new (o := .tup [.int (a2 : Nat), .int (cutB a2 c : Nat)]) hkt
      walk_at "rd"
      refine ⟨R, I, g, log ++ es, w, u, kx', z, rfl, ⟨(hR5.dT S6).st, (hR5.dT S6).ask, hw2.stp S6, hu.stp S6, fun x y ex ey => ?_, by simp only [List.length_append]; omega⟩, StopM.toS (kx.toM.sub (S05.trans (S6.mono (by simp))) (fun m hm => .inl hm) hT (fun es2 ⟨z2, hm⟩ hT2 => by
        obtain ⟨es', W', z', hk', hT'⟩ := TakeR.up I.or htre hW2 (lg := log ++ es ++ es2) (.right hlt hn2 hTk hk1.at hm)
        exact ⟨es', hT', W', z', hk'⟩)), fun H7 e2 z2 u2 hm hT2 S7 hA7 hz2 => ?_⟩
      · subst ex ey
        exact hk1.two hR.pcs hts1 (Nat.le_refl _)
      · walk_at "rd"
        exact hN _ _ ⟨e2, z2, u2, .right hlt hn2 hTk hk1.at hm, hT2, hm.few.1, (S6.mono (by simp)).trans S7, hA7, hz2, rfl⟩
  · rintro σ H5 ⟨a, c, l1, es, W1, z, u, more, v5, v6, v7, rfl, hW1, hTk, hT, hel, hml, S5, hR5, hd5, hD5, hAn, hAk, hw5, hu, rfl⟩
    rw [hts.1, Nat.sub_self, List.take_zero] at hW1
    obtain ⟨rfl, rfl⟩ : a = 0 ∧ c = R.P.length := by
      generalize hz : ([] : List (Nat × Nat)) = m at hW1
      cases hW1 with
      | nil => exact ⟨rfl, rfl⟩
      | left => simp at hz
      | right => simp at hz
    have ho5 := hR5.st.ho
    unfold PF at ho5
    have hDw5 := hDw4.stp S5
    have hleft : 1 ≤ R.left g := by
      have h1 := sum_le (g := g.set n (g.getD n 0 + 1)) (by rw [List.length_set]; exact hR.st.gl) fun i => by
        rw [getD_set hgn]
        split
        · rename_i e; subst e; rw [hpd]; exact hgl
        · exact hR.gle i
      rw [sum_set hgn] at h1
      unfold PR.left
      omega
    rw [hts.1] at hel hml
    have hmk := mergK_len more kvs
    walk_at "rd"
    refine ⟨ty_dT hd5, ?_⟩
    walk_at "rd"
    refine w_upd hd5 hD5 hDdd.symm hkn (by omega) ?_
    walk_at "rd"
    have S6 : Stp [R.dd] H5 (upd H5 R.dd (.dT (mergK kvs more))) := (Stp.refl _ _).putM (by simp) hd5 (fun z => z)
    have hSt6 := hR5.st.stp S6 (by intro m hm; rw [List.mem_singleton] at hm; subst hm; exact hR5.st.dd_ne hd5)
    have hd6 : upd H5 R.dd (.dT (mergK kvs more)) R.dd = some (.dT (mergK kvs more)) := upd_same
    have hDw6 := (hDw5.merge hAn).stp S6
    have hA6 := hR5.ask.stp S6 (by intro m hm; rw [List.mem_singleton] at hm; subst hm; exact hR5.st.own _ (by simp))
    generalize upd H5 R.dd (.dT (mergK kvs more)) = H6 at S6 hSt6 hd6 hDw6 hA6 ⊢
    have ho6 := hSt6.ho
    unfold PF at ho6
    have hg6 := hSt6.hg
    walk_at "rd"
    refine v_getL (n := n) hg6 rfl (by have := hR.pcs.few; omega) (v := .int (g.getD n 0 : Nat)) (by unfold nv; rw [List.getElem?_map, List.getElem?_eq_getElem hgn, List.getD_eq_getElem?_getD, List.getElem?_eq_getElem hgn]; rfl) ?_
    walk_at "rd"
    refine v_setL (n := n) hg6 rfl (by rw [List.length_map]; exact hgn) ?_
    rw [show ((g.getD n 0 : Nat) : Int) + 1 = ((g.getD n 0 + 1 : Nat) : Int) by omega, show (nv g).set n (.int ((g.getD n 0 + 1 : Nat) : Int)) = nv (g.set n (g.getD n 0 + 1)) by unfold nv; rw [List.map_set]]
    walk_at "rd"
    have S7 : Stp [R.gg] H6 (upd H6 R.gg (.lst (nv (g.set n (g.getD n 0 + 1))))) := (Stp.refl _ _).putL (by simp) hg6
    have hg7 : upd H6 R.gg (.lst (nv (g.set n (g.getD n 0 + 1)))) R.gg = some (.lst (nv (g.set n (g.getD n 0 + 1)))) := upd_same
    have ht7 := S7.tup (S6.tup (S5.tup (S14.tup ht)))
    refine v_ixTn (n := 0) (SqT.of ht7) rfl rfl ?_
    have nggd : R.dd ≠ R.gg := ne_of hd6 hg6 (by intro z; cases z)
    have hggo : R.gg ∉ I.own := hSt6.own _ (by simp)
    have hlf : R.left (g.set n (g.getD n 0 + 1)) + 1 = R.left g := by
      unfold PR.left at hleft ⊢
      rw [sum_set hgn]
      omega
    rw [← hpd] at hnx
    refine k (x1, n) rfl hi (by rw [hpd]; exact hgl) _ es W1 z (by rw [hnx]; exact hTk) hT ?_ ⟨⟨?_, ?_, fun i a e => ?_, hSt6.hl, hg7, by rw [List.length_set]; exact hSt6.gl, hSt6.own, hSt6.n1, hSt6.n2⟩, hA6.stp S7 (by intro m hm; rw [List.mem_singleton] at hm; subst hm; exact hggo), hR.pcs, fun i => ?_, ⟨_, S7.keep1 hd6 nggd, hDw6.stp S7, ?_, ?_⟩, ⟨z, ?_⟩⟩
    · refine (S.mono (M' := R.M I) (by simp)).trans ?_
      have T1 : Stp (R.M I) H1 H4 := (S14.mono (by simp))
      have T2 : Stp (R.M I) H1 H5 := T1.then S5 fun m hm => by
        rcases List.mem_cons.mp hm with rfl | hm
        · exact .inr hD1
        · exact .inl (List.mem_cons_of_mem _ (List.mem_cons_of_mem _ hm))
      exact (T2.trans (S6.mono (by simp [PR.M]))).trans (S7.mono (by simp [PR.M]))
    · exact S7.keep1 hSt6.ho (ne_of hSt6.ho hg6 (by intro z; cases z))
    · exact S7.keep1 hSt6.hp hSt6.n1.symm
    · obtain ⟨qs, q1, q2⟩ := hSt6.ha i a e
      exact ⟨qs, q1, S7.keep1 q2 (hSt6.n2 a (List.mem_of_getElem? e))⟩
    · rw [getD_set hgn]
      split
      · rename_i e; subst e; rw [hpd]; exact hgl
      · exact hR.gle i
    · intro e
      have := hDw6 _ _ _ (hTk.tre0 htre).at
      rw [e] at this
      obtain ⟨_, q, _⟩ := this
      cases q
    · show (mergK kvs more).length + 400 * R.left (g.set n (g.getD n 0 + 1)) ≤ 900000
      omega
    · have t3 := hTk.tre0 htre
      rw [← hnx, ← frts_set hgn] at t3
      exact t3
def sp_LastPour_front (K : PySem.W.Frag) (A : Ad) : Sp := fun vs H Q _ => ∃ (R : PR) (I : Ask) (g : List Nat) (n i : Nat), vs = [.ref R.o, .int n, .int i] ∧ (R.St A.LastPour I H g ∧ n < R.P.length) ∧ ∀ v H', Stp [] H H' → frV H' v (frt true (R.P.getD n []) i n) → Q v H'
theorem ok_LastPour_front {P : Program} {w : World} {K : PySem.W.Frag} {mg : Str → Option Value} {base : Heap} {A : Ad} {f : Addr} {fd : FuncData} (F : Fun K "front" "LastPour.front" s_LastPour_front f fd) (T : Txt K mg A)  : FnOk P w K mg base CX0 1 f fd ["self", "number", "gone"] (sp_LastPour_front K A) := by
  refine F.ok sc_LastPour_front (fun vs H Q E h => by obtain ⟨_, _, _, _, _, rfl, _⟩ := h; rfl) (fun cdv A' outer s H vs Q E hr h => ?_)
  obtain ⟨R, I, g, n, i, rfl, ⟨hSt, hn⟩, k⟩ := h
  refine ⟨_, (pss_cons (ps_set (i := 3) sc_LastPour_front.nd rfl (Or.inl rfl) (pe_ix SH.ixA (SH.pe_fldF T.cl_LastPour T.na_LastPour_pieces (pv 0)) (pv 1) (fun _ _ => rfl)))
        (pss_cons (ps_if (pt_cmpR SH.oGe (pv 2) (pe_callB SH.cLen (by rfl) T.z_len (by decide +kernel) (pa_cons (pv 3) pa_nil)) (nomark _)) (pss_one (ps_ret pe_non)) pss_nil)
        (pss_one (ps_ret (pe_tup (pa_cons (pe_ix SH.ixA (pv 3) (pe_op SH.oSub (pe_op SH.oSub (pe_callB SH.cLen (by rfl) T.z_len (by decide +kernel) (pa_cons (pv 3) pa_nil)) pe_int) (pv 2)) (fun _ _ => rfl)) (pa_cons (pv 1) pa_nil))))))), ?_⟩
  walk_at "begin"
  have ho := hSt.ho
  unfold PF at ho
  have hp := hSt.hp
  obtain ⟨a, ha1, ha2⟩ := hSt.pc hn
  walk_at "rd"
  refine v_ixLn (n := n) (SqL.of hp) rfl ha1 ?_
  walk_at "rd"
  refine r_w (fun hc => ?_) fun hc => ?_
  · walk_at "rd"
    refine k _ _ (.refl _ _) ?_
    have e : frt true (R.P.getD n []) i n = none := by
      unfold frt
      rw [if_pos rfl, List.getElem?_eq_none (by rw [List.length_reverse]; omega)]
      rfl
    rw [e]; rfl
  · walk_at "rd"
    have hi : i < (R.P.getD n []).length := by omega
    have hj : (R.P.getD n []).length - 1 - i < (R.P.getD n []).length := by omega
    refine v_ixLn (n := (R.P.getD n []).length - 1 - i) (SqL.of ha2) (by omega) (v := .int ((R.P.getD n [])[(R.P.getD n []).length - 1 - i] : Nat)) (by unfold nv; rw [List.getElem?_map, List.getElem?_eq_getElem hj]; rfl) ?_
    walk_at "rd"
    intro t ht
    refine k _ _ ((Stp.refl _ _).new ht) ?_
    have e : frt true (R.P.getD n []) i n = some ((R.P.getD n [])[(R.P.getD n []).length - 1 - i], n) := by
      unfold frt
      rw [if_pos rfl, List.getElem?_reverse hi, List.getElem?_eq_getElem hj]
      rfl
    rw [e]
    exact ⟨t, rfl, upd_same⟩
def sp_LastPour_goes_on (K : PySem.W.Frag) (A : Ad) : Sp := fun vs H Q E => ∃ (R : PR) (I : Ask) (g : List Nat) (log : List Ent) (p q : Nat), vs = [.ref R.o, .int p, .int q] ∧ (R.St A.LastPour I H g ∧ I.At K A H log ∧ p < I.n ∧ q < I.n ∧ p ≠ q ∧ log.length + I.pre.length < 100000) ∧
  Stop I K A H log (fun es => ∃ said, es = [⟨max p q, min p q, said⟩]) E ∧
  ∀ H' said, said = I.or log (max p q) (min p q) → Stp I.M H H' → I.At K A H' (log ++ [⟨max p q, min p q, said⟩]) → Q (.bl (goes true said p q)) H'
theorem ok_LastPour_goes_on {P : Program} {w : World} {K : PySem.W.Frag} {mg : Str → Option Value} {base : Heap} {A : Ad} {f : Addr} {fd : FuncData} (F : Fun K "goes_on" "LastPour.goes_on" s_LastPour_goes_on f fd) (T : Txt K mg A) (M_Asker_ahead : SH.CalM P w K mg base (L2N.CX P w) 3 A.Asker "ahead" [] (sp_Asker_ahead K A)) : FnOk P w K mg base (L2N.CX P w) 4 f fd ["self", "one", "other"] (sp_LastPour_goes_on K A) := by
  refine SH.okN F sc_LastPour_goes_on (fun vs H Q E h => by obtain ⟨_, _, _, _, _, _, rfl, _⟩ := h; rfl) (fun cdv A' outer s H vs Q E hr h => ?_)
  obtain ⟨R, I, g, log, p, q, rfl, ⟨hSt, hA, h1, h2, h3, h4⟩, kx, k⟩ := h
  refine ⟨_, (pss_one (ps_ret (pe_not (SH.pe_methF (SH.pe_fldF T.cl_LastPour T.na_LastPour_asker (pv 0)) M_Asker_ahead hr (L2N.passes_call (L2N.takes_of rfl rfl rfl rfl) fun _ _ _ _ h => h) (pa_cons (pv 1) (pa_cons (pv 2) pa_nil)))))), ?_⟩
  walk_at "begin"
  have ho := hSt.ho
  unfold PF at ho
  have hs := hA.hs
  walk_at "rd"
  refine ⟨I, log, p, q, rfl, ⟨hA, h1, h2, h3, h4⟩, kx, fun H' said e S hA' => ?_⟩
  exact ⟨_, rfl, k H' said e S hA'⟩
def sp_LastPour_meeting (K : PySem.W.Frag) (A : Ad) : Sp := fun vs H Q E => ∃ (R : PR) (I : Ask) (g : List Nat) (log : List Ent) (v w : V) (x y : Fr), vs = [.ref R.o, v, w] ∧ (R.St A.LastPour I H g ∧ I.At K A H log ∧ frV H v x ∧ frV H w y ∧ (∀ a c, x = some a → y = some c → a.1 < I.n ∧ c.1 < I.n ∧ a.1 ≠ c.1) ∧ log.length + I.pre.length < 100000) ∧
  Stop I K A H log (fun es => ∃ z, Meet true x y es z) E ∧
  ∀ H' es z u, Meet true x y es z → Told I.or log es → Stp I.M H H' → I.At K A H' (log ++ es) → frV H' u z → Q u H'
theorem ok_LastPour_meeting {P : Program} {w : World} {K : PySem.W.Frag} {mg : Str → Option Value} {base : Heap} {A : Ad} {f : Addr} {fd : FuncData} (F : Fun K "meeting" "Pour.meeting" s_LastPour_meeting f fd) (T : Txt K mg A) (M_LastPour_goes_on : SH.CalM P w K mg base (L2N.CX P w) 4 A.LastPour "goes_on" [] (sp_LastPour_goes_on K A)) : FnOk P w K mg base (L2N.CX P w) 5 f fd ["self", "one", "other"] (sp_LastPour_meeting K A) := by
  refine SH.okN F sc_LastPour_meeting (fun vs H Q E h => by obtain ⟨_, _, _, _, _, _, _, _, rfl, _⟩ := h; rfl) (fun cdv A' outer s H vs Q E hr h => ?_)
  obtain ⟨R, I, g, log, v, w, x, y, rfl, ⟨hSt, hA, hx, hy, hxy, hlog⟩, kx, k⟩ := h
  refine ⟨_, (pss_cons (ps_if (pt_cmpR SH.oIsN (pv 1) pe_non (nomark _)) (pss_one (ps_ret (pv 2))) pss_nil)
        (pss_cons (ps_if (PW.pt (pw_or (pt_cmpR SH.oIsN (pv 2) pe_non (nomark _)) (pw_or1 (pt_val (SH.pe_methF (pv 0) M_LastPour_goes_on hr (L2N.passes_call (L2N.takes_of rfl rfl rfl rfl) fun _ _ _ _ h => h) (pa_cons (pe_ix SH.ixA (pv 1) pe_int (fun _ _ => rfl)) (pa_cons (pe_ix SH.ixA (pv 2) pe_int (fun _ _ => rfl)) pa_nil))))))) (pss_one (ps_ret (pv 1))) pss_nil)
        (pss_one (ps_ret (pv 2))))), ?_⟩
  walk_at "begin"
  have ho := hSt.ho
  unfold PF at ho
  walk_at "rd"
  cases x with
  | none =>
    cases hx
    refine r_wT rfl ?_
    walk_at "rd"
    exact k H [] y w .l True.intro (.refl _ _) (by rw [List.append_nil]; exact hA) hy
  | some x =>
    obtain ⟨t, rfl, ht⟩ := hx
    refine r_wF (by intro z; cases z) ?_
    walk_at "rd"
    cases y with
    | none =>
      cases hy
      refine r_wT rfl ?_
      walk_at "rd"
      exact k H [] (some x) (.ref t) .r True.intro (.refl _ _) (by rw [List.append_nil]; exact hA) ⟨t, rfl, ht⟩
    | some y =>
      obtain ⟨t2, rfl, ht2⟩ := hy
      refine r_wF (by intro z; cases z) ?_
      walk_at "rd"
      refine v_ixTn (n := 0) (SqT.of ht) rfl rfl ?_
      walk_at "rd"
      refine v_ixTn (n := 0) (SqT.of ht2) rfl rfl ?_
      obtain ⟨a1, a2, a3⟩ := hxy x y rfl rfl
      walk_at "rd"
      refine ⟨R, I, g, log, x.1, y.1, rfl, ⟨hSt, hA, a1, a2, a3, hlog⟩, StopM.toS (kx.toM.imp (.refl _ _) (fun m hm => .inl hm) (fun es ⟨said, e⟩ => by subst e; exact ⟨_, .m said⟩)), fun H' said e S hA' => ?_⟩
      have hm := Meet.m (b := true) (x := x) (y := y) said
      have hT : Told I.or log [⟨max x.1 y.1, min x.1 y.1, said⟩] := Told.one e
      refine ⟨_, rfl, ?_⟩
      refine r_b (fun hb => ?_) fun hb => ?_
      · walk_at "rd"
        rw [if_pos hb] at hm
        exact k H' _ _ _ hm hT S hA' ⟨t, rfl, S.tup ht⟩
      · walk_at "rd"
        rw [if_neg (by rw [hb]; exact Bool.false_ne_true)] at hm
        exact k H' _ _ _ hm hT S hA' ⟨t2, rfl, S.tup ht2⟩
def sp_LastPour_hold_alln (n : Nat) (K : PySem.W.Frag) (A : Ad) : Sp := fun vs H Q E => ∃ (R : PR) (I : Ask) (g : List Nat) (log : List Ent) (lo hi : Nat) (W : Wt) (kvs : List (List Key × V)), vs = [.ref R.o, .int lo, .int hi] ∧
  ((0 < n ∧ hi - lo ≤ 2 ^ (n - 1) ∧ lo ≤ hi ∧ hi ≤ R.P.length) ∧ R.St A.LastPour I H g ∧ I.At K A H log ∧ Pcs I R.P ∧ (∀ i, g.getD i 0 = 0) ∧ H R.dd = some (.dT kvs) ∧ DW H kvs W ∧ kvs.length + 2 * (hi - lo) + 1 ≤ 5000 ∧ log.length + I.pre.length + (hi - lo) < 100000) ∧
  StopM (R.dd :: I.M) I K A H log (fun es => ∃ W' z, Hold true (frts true R.P g) lo hi W es W' z) E ∧
  ∀ H' es W' z u kvs', Hold true (frts true R.P g) lo hi W es W' z → Told I.or log es → Stp (R.dd :: I.M) H H' → I.At K A H' (log ++ es) → H' R.dd = some (.dT kvs') → DW H' kvs' W' → kvs'.length ≤ kvs.length + 2 * (hi - lo) + 1 - (if lo < hi then 2 else 0) → kvs' ≠ [] → frV H' u z → Q u H'
theorem sp_LastPour_hold_alln0 {K : PySem.W.Frag} {A : Ad} {vs : List V} {H : Hp} {Q : VK} {E : XK} (h : sp_LastPour_hold_alln 0 K A vs H Q E) : False := by
  obtain ⟨_, _, _, _, _, _, _, _, _, ⟨⟨h, _⟩, _⟩, _⟩ := h
  exact Nat.lt_irrefl 0 h
abbrev sp_LastPour_hold_all (K : PySem.W.Frag) (A : Ad) : Sp := sp_LastPour_hold_alln 10 K A
theorem okn_LastPour_hold_all {P : Program} {w : World} {K : PySem.W.Frag} {mg : Str → Option Value} {base : Heap} {A : Ad} {f : Addr} {fd : FuncData} (n : Nat) (F : Fun K "hold_all" "Pour.hold_all" s_LastPour_hold_all f fd) (T : Txt K mg A) (M_LastPour_front : SH.CalM P w K mg base CX0 1 A.LastPour "front" [] (sp_LastPour_front K A)) (M_LastPour_meeting : SH.CalM P w K mg base (L2N.CX P w) 5 A.LastPour "meeting" [] (sp_LastPour_meeting K A)) (C_cut_between : SH.Cal P w K mg base CX0 1 "cut_between" [] (sp_cut_between K A)) (M_LastPour_hold_all : SH.CalM P w K mg base (L2N.CX P w) (5 + n) A.LastPour "hold_all" [] (sp_LastPour_hold_alln n K A)) : FnOk P w K mg base (L2N.CX P w) (5 + n + 1) f fd ["self", "low", "high"] (sp_LastPour_hold_alln (n + 1) K A) := by
  refine SH.okN F sc_LastPour_hold_all (fun vs H Q E h => by obtain ⟨_, _, _, _, _, _, _, _, rfl, _⟩ := h; rfl) (fun cdv A' outer s H vs Q E hr h => ?_)
  obtain ⟨R, I, g, log, lo, hi, W, kvs, rfl, ⟨⟨h0, hpw, hlo, hhi⟩, hSt, hA, hP, hg0, hd, hdw, hkl, hlog⟩, kx, k⟩ := h
  rw [Nat.add_sub_cancel] at hpw
  refine ⟨_, (pss_cons (ps_set (i := 3) sc_LastPour_hold_all.nd rfl (Or.inl rfl) pe_non)
        (pss_cons (ps_if (pt_cmpR (SH.oEq hr.units) (pe_op SH.oSub (pv 2) (pv 1)) pe_int (nomark _)) (pss_one (ps_set (i := 3) sc_LastPour_hold_all.nd rfl (Or.inl rfl) (SH.pe_methF (pv 0) M_LastPour_front hr pass0 (pa_cons (pv 1) (pa_cons pe_int pa_nil)) (hk := by omega)))) (pss_one (ps_if (pt_cmpR SH.oGt (pv 2) (pv 1) (nomark _)) (pss_cons (ps_set (i := 4) sc_LastPour_hold_all.nd rfl (Or.inl rfl) (SH.pe_callF C_cut_between hr (by rfl) pass0 (pa_cons (pv 1) (pa_cons (pv 2) pa_nil)) (hk := by omega)))
        (pss_cons (ps_set (i := 5) sc_LastPour_hold_all.nd rfl (Or.inl rfl) (SH.pe_methF (pv 0) M_LastPour_hold_all hr (L2N.passes_call (L2N.takes_of rfl rfl rfl rfl) fun _ _ _ _ h => h) (pa_cons (pv 1) (pa_cons (pv 4) pa_nil)) (hk := by omega)))
        (pss_one (ps_set (i := 3) sc_LastPour_hold_all.nd rfl (Or.inl rfl) (SH.pe_methF (pv 0) M_LastPour_meeting hr (L2N.passes_call (L2N.takes_of rfl rfl rfl rfl) fun _ _ _ _ h => h) (pa_cons (pv 5) (pa_cons (SH.pe_methF (pv 0) M_LastPour_hold_all hr (L2N.passes_call (L2N.takes_of rfl rfl rfl rfl) fun _ _ _ _ h => h) (pa_cons (pv 4) (pa_cons (pv 2) pa_nil)) (hk := by omega)) pa_nil)) (hk := by omega)))))) pss_nil)))
        (pss_cons (ps_dput (hu_of hr) (SH.pe_fldF T.cl_LastPour T.na_LastPour_went_on (pv 0)) (pe_tup (pa_cons (pv 1) (pa_cons (pv 2) pa_nil))) (pv 3) rfl)
        (pss_one (ps_ret (pv 3)))))), ?_⟩
  walk_at "begin"
  have ho := hSt.ho
  unfold PF at ho
  walk_at "rd"
  refine r_wJ (W := fun σ' H' => ∃ (u : V) (z : Fr) (es : List Ent) (W1 : Wt) (kvs1 : List (List Key × V)) (v4 v5 : Option V), Hold true (frts true R.P g) lo hi W es (putW W1 lo hi z) z ∧ Told I.or log es ∧ Stp (R.dd :: I.M) H H' ∧ I.At K A H' (log ++ es) ∧ H' R.dd = some (.dT kvs1) ∧ DW H' kvs1 W1 ∧ kvs1.length ≤ kvs.length + 2 * (hi - lo) - (if lo < hi then 2 else 0) ∧ frV H' u z ∧
      σ' = [some (.ref R.o), some (.int lo), some (.int hi), some u, v4, v5]) ?_ (fun hc N hN => ?_) (fun hc N hN => ?_)
  · rintro σ' H1 ⟨u, z, es, W1, kvs1, v4, v5, hH, hT, S1, hA1, hd1, hdw1, hkl1, hz, rfl⟩
    dsimp only
    have hSt1 := hSt.askd hd S1
    have ho1 := hSt1.ho
    unfold PF at ho1
    walk_at "rd"
    intro q hq
    refine v_dputT (ks := pk lo hi) (upd_old hd1 hq) upd_same (by omega) ?_
    walk_at "rd"
    have S2 : Stp [R.dd] H1 (upd (upd H1 q (.tup [.int lo, .int hi])) R.dd (.dT (putK kvs1 (pk lo hi) u))) := ((Stp.refl _ _).new hq).putM (by simp) (upd_old hd1 hq) (fun z => z)
    have hl := length_putK kvs1 (pk lo hi) u
    refine k _ es _ z u (putK kvs1 (pk lo hi) u) hH hT (S1.trans (S2.mono (by simp))) (hA1.stp S2 (by intro m hm; rw [List.mem_singleton] at hm; subst hm; exact hSt.own _ (by simp))) upd_same ((hdw1.stp S2).put (hz.stp S2)) ?_ putK_ne (hz.stp S2)
    split at hkl1 <;> split <;> omega
  · walk_at "rd"
    refine ⟨R, I, g, lo, 0, rfl, ⟨hSt, by omega⟩, fun v H1 S1 hv => ?_⟩
    walk_at "rd"
    have e : hi = lo + 1 := by omega
    subst e
    have ef : frt true (R.P.getD lo []) 0 lo = frts true R.P g lo := by unfold frts; rw [hg0]
    rw [ef] at hv
    refine hN _ _ ⟨v, _, [], W, kvs, _, _, .one, True.intro, S1.mono (by simp), by rw [List.append_nil]; exact hA.stp S1 (by simp), S1.keep0 hd, hdw.stp S1, ?_, hv, rfl⟩
    rw [if_pos (by omega)]; omega
  · walk_at "rd"
    refine r_w (fun hc2 => ?_) fun hc2 => ?_
    · walk_at "rd"
      refine ⟨lo, hi, rfl, ?_⟩
      have hlt : lo + 1 < hi := by omega
      have hcut := cutB_lt hlt
      walk_at "rd"
      have hn0 : 0 < n := by
        rcases Nat.eq_zero_or_pos n with z | z
        · subst z; simp at hpw; omega
        · exact z
      have hpw2 : 2 ^ n = 2 * 2 ^ (n - 1) := by
        rw [← Nat.pow_succ']; congr 1; omega
      have hc1 : cutB lo hi - lo ≤ 2 ^ (n - 1) := by unfold cutB; omega
      have hc2' : hi - cutB lo hi ≤ 2 ^ (n - 1) := by unfold cutB; omega
      refine ⟨R, I, g, log, lo, cutB lo hi, W, kvs, rfl, ⟨⟨hn0, hc1, by omega, by omega⟩, hSt, hA, hP, hg0, hd, hdw, by omega, by omega⟩, kx.sub0 (.refl _ _) (fun m hm => .inl hm) (fun es2 ⟨W1, x, k1⟩ hT1 => by
        obtain ⟨e2, W2, y, k2, t2⟩ := Hold.total I.or true (frts true R.P g) _ (cutB lo hi) hi W1 (log ++ es2) rfl (by omega)
        obtain ⟨e3, z, k3, t3⟩ := Meet.total I.or true x y (log ++ es2 ++ e2)
        exact ⟨e2 ++ e3, Told.app t2 t3, _, _, .node hlt k1 k2 k3⟩), fun H1 e1 W1 x u kvs1 hH1 hT1 S1 hA1 hd1 hdw1 hkl1 _ hx => ?_⟩
      have hf1 := hH1.few
      have hSt1 := hSt.askd hd S1
      have ho1 := hSt1.ho
      unfold PF at ho1
      rw [if_pos (by omega)] at hkl1
      walk_at "rd"
      refine ⟨R, I, g, log ++ e1, cutB lo hi, hi, W1, kvs1, rfl, ⟨⟨hn0, hc2', by omega, by omega⟩, hSt1, hA1, hP, hg0, hd1, hdw1, by omega, by rw [List.length_append]; omega⟩, kx.sub S1 (fun m hm => .inl hm) hT1 (fun es2 ⟨W2, y, k2⟩ hT2 => by
        obtain ⟨e3, z, k3, t3⟩ := Meet.total I.or true x y (log ++ e1 ++ es2)
        exact ⟨e3, t3, _, _, by rw [List.append_assoc]; exact .node hlt hH1 k2 k3⟩), fun H2 e2 W2 y w kvs2 hH2 hT2 S2 hA2 hd2 hdw2 hkl2 _ hy => ?_⟩
      have hf2 := hH2.few
      rw [if_pos (by omega)] at hkl2
      have hSt2 := hSt1.askd hd1 S2
      have ho2 := hSt2.ho
      unfold PF at ho2
      have t1 := hH1.tre (log := e1) fun _ h => h
      have t2 := hH2.tre (log := e2) fun _ h => h
      refine ⟨R, I, g, log ++ e1 ++ e2, u, w, x, y, rfl, ⟨hSt2, hA2, hx.stp S2, hy, fun a c ea ec => ?_, by simp only [List.length_append]; omega⟩, (by
        have := kx.sub (M1 := I.M) (es1 := e1 ++ e2) (R1 := fun es => ∃ z, Meet true x y es z) (S1.trans S2) (fun m hm => .inl (List.mem_cons_of_mem _ hm)) (Told.app hT1 hT2) (fun es3 ⟨z, k3⟩ hT3 => ⟨[], True.intro, _, z, by rw [List.append_nil, List.append_assoc]; exact .node hlt hH1 hH2 k3⟩)
        rw [← List.append_assoc] at this
        exact this), fun H3 e3 z v hm hT3 S3 hA3 hz => ?_⟩
      · subst ea ec
        exact t1.two hP t2 (Nat.le_refl _)
      · have hT := Told.app hT1 (Told.app hT2 hT3)
        have d3 : H3 R.dd = some (.dT kvs2) := S3.keep hd2 hSt.dM
        rw [List.append_assoc, List.append_assoc] at hA3
        walk_at "rd"
        refine hN _ _ ⟨v, z, e1 ++ (e2 ++ e3), W2, kvs2, _, _, .node hlt hH1 hH2 hm, hT, (S1.trans S2).trans (S3.mono fun b hb => List.mem_cons_of_mem _ hb), hA3, d3, hdw2.stp S3, ?_, hz, rfl⟩
        rw [if_pos (by omega)]; omega
    · walk_at "rd"
      have e : hi = lo := by omega
      subst e
      refine hN _ _ ⟨.non, none, [], W, kvs, _, _, .nil, True.intro, .refl _ _, by rw [List.append_nil]; exact hA, hd, hdw, ?_, rfl, rfl⟩
      rw [if_neg (by omega)]; omega
theorem ok_LastPour_hold_all {P : Program} {w : World} {K : PySem.W.Frag} {mg : Str → Option Value} {base : Heap} {A : Ad} {f : Addr} {fd : FuncData} (F : Fun K "hold_all" "Pour.hold_all" s_LastPour_hold_all f fd) (T : Txt K mg A) (M_LastPour_front : SH.CalM P w K mg base CX0 1 A.LastPour "front" [] (sp_LastPour_front K A)) (M_LastPour_meeting : SH.CalM P w K mg base (L2N.CX P w) 5 A.LastPour "meeting" [] (sp_LastPour_meeting K A)) (C_cut_between : SH.Cal P w K mg base CX0 1 "cut_between" [] (sp_cut_between K A)) (me : Meth K A.LastPour "hold_all" f) (bi : Binds K fd ["self", "low", "high"] []) : FnOk P w K mg base (L2N.CX P w) 15 f fd ["self", "low", "high"] (sp_LastPour_hold_all K A) := by
  have go : ∀ n, FnOk P w K mg base (L2N.CX P w) (5 + n) f fd ["self", "low", "high"] (sp_LastPour_hold_alln n K A) := fun n => by
    induction n with
    | zero => exact ⟨fun _ _ _ _ h => (sp_LastPour_hold_alln0 h).elim, fun _ _ _ _ _ _ _ _ _ _ _ _ _ h => (sp_LastPour_hold_alln0 h).elim⟩
    | succ n ih => exact okn_LastPour_hold_all n F T M_LastPour_front M_LastPour_meeting C_cut_between ⟨T.cl_LastPour, f, fd, _, _, me, bi, .nil, ih⟩
  exact go 10

def sp_LastPour___init__ (K : PySem.W.Frag) (A : Ad) : Sp := fun vs H Q E => ∃ (o hd : Addr) (I : Ask) (log : List Ent) (ha : List Addr) (P : List (List Nat)), vs = [.ref o, .ref I.s, .ref hd] ∧
  ((∃ dx, H o = some (.ins A.LastPour dx [])) ∧ I.At K A H log ∧ H hd = some (.lst (ha.map V.ref)) ∧ Pls H ha P ∧ Pcs I P ∧ o ∉ I.own ∧ (P.map List.length).sum ≤ 2000 ∧ log.length + I.pre.length + 400 ≤ 100000) ∧
  StopM (o :: I.M) I K A H log (fun es => ∃ W z, Hold true (frts true P (List.replicate P.length 0)) 0 P.length (fun _ _ => none) es W z) E ∧
  ∀ (R : PR) H' es W z, R.o = o → R.P = P → (∀ a ∈ R.base, a ≠ o → H a = none) → Hold true (frts true P (List.replicate P.length 0)) 0 P.length (fun _ _ => none) es W z → Told I.or log es → Stp (o :: I.M) H H' → R.At true K A A.LastPour I H' (log ++ es) (List.replicate P.length 0) W → Q .non H'
theorem ok_LastPour___init__ {P : Program} {w : World} {K : PySem.W.Frag} {mg : Str → Option Value} {base : Heap} {A : Ad} {f : Addr} {fd : FuncData} (F : Fun K "__init__" "Pour.__init__" s_LastPour___init__ f fd) (T : Txt K mg A) (M_LastPour_hold_all : SH.CalM P w K mg base (L2N.CX P w) 15 A.LastPour "hold_all" [] (sp_LastPour_hold_all K A)) : FnOk P w K mg base (L2N.CX P w) 16 f fd ["self", "asker", "pieces"] (sp_LastPour___init__ K A) := by
  refine SH.okN F sc_LastPour___init__ (fun vs H Q E h => by obtain ⟨_, _, _, _, _, _, rfl, _⟩ := h; rfl) (fun cdv A' outer s H vs Q E hr h => ?_)
  obtain ⟨o, hd, I, log, ha, P, rfl, ⟨⟨dx, ho⟩, hA, hhd, hpl, hP, hoo, htot, hlog⟩, kx, k⟩ := h
  refine ⟨_, (pss_cons (SH.ps_fldF T.cl_LastPour T.na_LastPour_asker (pv 0) (pv 1) rfl)
        (pss_cons (SH.ps_fldF T.cl_LastPour T.na_LastPour_pieces (pv 0) (pe_lc (own := [("piece", 3)]) (g := (gName 3)) (tt := tYes) (by rfl) sc_LastPour___init__.nd (pi_list (pv 2)) (blkOk_by (own := [("piece", 3)]) (N := ["self", "asker", "pieces", "piece"]) (sc := defScope s_LastPour___init__) (by decide +kernel)) (fun _ _ _ _ _ => (pg_name (i := 3) sc_LastPour___init__.nd rfl (Or.inl rfl))) (fun _ _ _ _ _ => pts_nil) (fun _ _ _ _ _ => (pe_callTy (SH.crK SH.rListOf K SH.cListOf) (by rfl) T.z_list (by decide +kernel) (pa_cons (pv 3) pa_nil)))) rfl)
        (pss_cons (SH.ps_fldF T.cl_LastPour T.na_LastPour_gone (pv 0) (pe_op SH.oMul (pe_lst (pa_cons pe_int pa_nil)) (pe_callB SH.cLen (by rfl) T.z_len (by decide +kernel) (pa_cons (SH.pe_fldF T.cl_LastPour T.na_LastPour_pieces (pv 0)) pa_nil))) rfl)
        (pss_cons (SH.ps_fldF T.cl_LastPour T.na_LastPour_went_on (pv 0) pe_dnewT rfl)
        (pss_one (ps_expr (SH.pe_methF (pv 0) M_LastPour_hold_all hr (L2N.passes_call (L2N.takes_of rfl rfl rfl rfl) fun _ _ _ _ h => h) (pa_cons pe_int (pa_cons (pe_callB SH.cLen (by rfl) T.z_len (by decide +kernel) (pa_cons (SH.pe_fldF T.cl_LastPour T.na_LastPour_pieces (pv 0)) pa_nil)) pa_nil))))))))), ?_⟩
  walk_at "begin"
  have hMo : o ∉ I.M := fun z => hoo (Ask.Mown z)
  have hPl := hP.few
  walk_at "rd"
  have S1 : Stp [o] H (upd H o (.ins A.LastPour dx [("asker", .ref I.s)])) := (Stp.refl _ _).putI (by simp) ho
  have ho1 : upd H o (.ins A.LastPour dx [("asker", .ref I.s)]) o = some (.ins A.LastPour dx [("asker", .ref I.s)]) := upd_same
  have noha : o ∉ ha := fun z => by
    obtain ⟨i, hi⟩ := List.mem_iff_getElem?.mp z
    obtain ⟨ps, _, h2⟩ := hpl.2 i _ hi
    rw [ho] at h2; cases h2
  have nohd : hd ≠ o := ne_of hhd ho (by intro z; cases z)
  have hhd1 := S1.keep1 hhd nohd
  have hpl1 := hpl.stp S1 (by intro m hm; rw [List.mem_singleton] at hm; subst hm; exact noha)
  have hA1 := hA.stp S1 (by intro m hm; rw [List.mem_singleton] at hm; subst hm; exact hoo)
  have fr1 : ∀ b, upd H o (.ins A.LastPour dx [("asker", .ref I.s)]) b = none → H b = none := fun b e => S1.dom b e
  generalize upd H o (.ins A.LastPour dx [("asker", .ref I.s)]) = H1 at S1 ho1 hhd1 hpl1 hA1 fr1 ⊢
  walk_at "rd"
  intro D hD
  refine lc_it (walk_list (xs := ha.map V.ref)) (fun j H' => Stp [] H1 H' ∧ ∃ pa : List Addr, pa.length = j ∧ (∀ (i : Nat) (a : Addr), pa[i]? = some a → H1 a = none ∧ a ≠ D ∧ ∃ ps, P[i]? = some ps ∧ H' a = some (.lst (nv ps))) ∧ H' D = some (.lst (pa.map V.ref))) ⟨(Stp.refl _ _).new hD, [], rfl, (by intro i a e; simp at e), upd_same⟩ (fun j H' _ z => z.1.sql0 (SqL.of hhd1)) ?_ ?_
  · rintro j x H3 H4 hj ⟨S, pa, hpal, hpa, hL⟩ ⟨rfl, hx⟩
    obtain ⟨a, ha1, rfl⟩ := map_at hx
    obtain ⟨ps, h1, h2⟩ := hpl1.2 j a ha1
    have h3 := S.keep0 h2
    walk_at "rd"
    intro l hl
    have hlD : l ≠ D := (ne_of_none hL hl).symm
    refine ⟨_, upd_old hL hl, Nat.lt_of_le_of_lt (m := 1000) (by rw [List.length_map] at hj ⊢; have := hpl.1; omega) (by decide), (S.new hl).putN hD, pa ++ [l], by simp [hpal], fun i b e => ?_, by rw [upd_same, List.map_append]; rfl⟩
    by_cases hi : i < pa.length
    · rw [List.getElem?_append_left hi] at e
      obtain ⟨q1, q2, ps', q3, q4⟩ := hpa i b e
      exact ⟨q1, q2, ps', q3, upd_far q2 (upd_old q4 hl)⟩
    · rw [List.getElem?_append_right (by omega)] at e
      have hz : i = pa.length := by
        have := (List.getElem?_eq_some_iff.mp e).1
        simp at this; omega
      subst hz
      simp at e
      subst e
      exact ⟨S.dom _ hl, hlD, ps, by rw [hpal]; exact h1, upd_far hlD upd_same⟩
  rintro H2 ⟨S2, pa, hpal, hpa, hD2⟩
  rw [List.length_map, hpl.1] at hpal
  have ho2 := S2.keep0 ho1
  have nDo : D ≠ o := (ne_of_none ho1 hD).symm
  walk_at "rd"
  intro l0 hl0
  have S3 : Stp [o] H2 (upd (upd H2 o (.ins A.LastPour dx [("asker", .ref I.s), ("pieces", .ref D)])) l0 (.lst [.int 0])) := ((Stp.refl _ _).putI (by simp) ho2).new hl0
  have ho3 : upd (upd H2 o (.ins A.LastPour dx [("asker", .ref I.s), ("pieces", .ref D)])) l0 (.lst [.int 0]) o = some (.ins A.LastPour dx [("asker", .ref I.s), ("pieces", .ref D)]) := upd_old upd_same hl0
  have hl3 : upd (upd H2 o (.ins A.LastPour dx [("asker", .ref I.s), ("pieces", .ref D)])) l0 (.lst [.int 0]) l0 = some (.lst [.int 0]) := upd_same
  have hD3 := S3.keep1 hD2 nDo
  generalize upd (upd H2 o (.ins A.LastPour dx [("asker", .ref I.s), ("pieces", .ref D)])) l0 (.lst [.int 0]) = H3 at S3 ho3 hl3 hD3 ⊢
  walk_at "rd"
  refine v_mulL hl3 ⟨by omega, by omega⟩ (Nat.le_trans (m := 1000) (by simp; omega) (by decide)) fun gg hgg => ?_
  rw [show ((pa.length : Nat) : Int).toNat = P.length by omega, rep_zero]
  walk_at "rd"
  intro dd hdd
  have ngo : gg ≠ o := (ne_of_none ho3 hgg).symm
  have ngD : gg ≠ D := (ne_of_none hD3 hgg).symm
  have S4 : Stp [o] H3 (upd (upd (upd H3 gg (.lst (nv (List.replicate P.length 0)))) o (.ins A.LastPour dx [("asker", .ref I.s), ("pieces", .ref D), ("gone", .ref gg)])) dd (.dT [])) := (((Stp.refl _ _).new hgg).putI (by simp) (upd_old ho3 hgg)).new hdd
  have ho4 : upd (upd (upd H3 gg (.lst (nv (List.replicate P.length 0)))) o (.ins A.LastPour dx [("asker", .ref I.s), ("pieces", .ref D), ("gone", .ref gg)])) dd (.dT []) o = some (.ins A.LastPour dx [("asker", .ref I.s), ("pieces", .ref D), ("gone", .ref gg)]) := upd_old upd_same hdd
  have hg4 : upd (upd (upd H3 gg (.lst (nv (List.replicate P.length 0)))) o (.ins A.LastPour dx [("asker", .ref I.s), ("pieces", .ref D), ("gone", .ref gg)])) dd (.dT []) gg = some (.lst (nv (List.replicate P.length 0))) := upd_old (upd_far ngo upd_same) hdd
  have hd4 : upd (upd (upd H3 gg (.lst (nv (List.replicate P.length 0)))) o (.ins A.LastPour dx [("asker", .ref I.s), ("pieces", .ref D), ("gone", .ref gg)])) dd (.dT []) dd = some (.dT []) := upd_same
  have hD4 := S4.keep1 hD3 nDo
  have hdd3 : H3 dd = none := (upd_free (upd_free hdd).1).1
  generalize upd (upd (upd H3 gg (.lst (nv (List.replicate P.length 0)))) o (.ins A.LastPour dx [("asker", .ref I.s), ("pieces", .ref D), ("gone", .ref gg)])) dd (.dT []) = H4 at S4 ho4 hg4 hd4 hD4 ⊢
  walk_at "rd"
  have ndo : dd ≠ o := ne_of hd4 ho4 (by intro z; cases z)
  have S5 : Stp [o] H4 (upd H4 o (.ins A.LastPour dx (PF I.s D gg dd))) := (Stp.refl _ _).putI (by simp) ho4
  have ho5 : upd H4 o (.ins A.LastPour dx (PF I.s D gg dd)) o = some (.ins A.LastPour dx (PF I.s D gg dd)) := upd_same
  show sp_LastPour_hold_all K A _ (upd H4 o (.ins A.LastPour dx (PF I.s D gg dd))) _ _
  generalize upd H4 o (.ins A.LastPour dx (PF I.s D gg dd)) = H5 at S5 ho5 ⊢
  have S25 : Stp [o] H2 H5 := (S3.trans S4).trans S5
  have S05 : Stp [o] H H5 := (S1.trans (S2.mono (by simp))).trans S25
  have hD5 := S25.keep1 hD2 nDo
  have hg5 := S5.keep1 hg4 ngo
  have hd5 := S5.keep1 hd4 ndo
  have hpa5 : ∀ (i : Nat) (a : Addr), pa[i]? = some a → ∃ ps, P[i]? = some ps ∧ H5 a = some (.lst (nv ps)) := fun i a e => by
    obtain ⟨q1, q2, ps, q3, q4⟩ := hpa i a e
    exact ⟨ps, q3, S25.keep1 q4 (ne_of_none ho1 q1).symm⟩
  have hA5 : I.At K A H5 log := hA.stp S05 (by intro m hm; rw [List.mem_singleton] at hm; subst hm; exact hoo)
  have frD : H D = none := fr1 _ hD
  have frg : H gg = none := fr1 _ (S2.dom _ (S3.dom _ hgg))
  have frd : H dd = none := fr1 _ (S2.dom _ (S3.dom _ hdd3))
  have frp : ∀ a ∈ pa, H a = none ∧ H2 a ≠ none := fun a ha => by
    obtain ⟨i, hi⟩ := List.mem_iff_getElem?.mp ha
    obtain ⟨q1, q2, ps, q3, q4⟩ := hpa i a hi
    exact ⟨fr1 _ q1, by rw [q4]; simp⟩
  have hbase : ∀ a ∈ o :: D :: gg :: dd :: pa, a ≠ o → H a = none := fun a ha n => by
    rcases List.mem_cons.mp ha with rfl | ha
    · exact (n rfl).elim
    rcases List.mem_cons.mp ha with rfl | ha
    · exact frD
    rcases List.mem_cons.mp ha with rfl | ha
    · exact frg
    rcases List.mem_cons.mp ha with rfl | ha
    · exact frd
    · exact (frp a ha).1
  have hown : ∀ a ∈ o :: D :: gg :: dd :: pa, a ∉ I.own := fun a ha => by
    by_cases e : a = o
    · subst e; exact hoo
    · exact hA.freshO (hbase a ha e)
  have hSt : PR.St ⟨o, dx, D, gg, dd, pa, P⟩ A.LastPour I H5 (List.replicate P.length 0) := ⟨ho5, hD5, hpa5, hpal, hg5, List.length_replicate, hown, ngD, fun a ha z => (frp a ha).2 (by rw [z]; exact S3.dom _ hgg)⟩
  refine ⟨⟨o, dx, D, gg, dd, pa, P⟩, I, List.replicate P.length 0, log, 0, P.length, fun _ _ => none, [], by rw [show ((pa.length : Nat) : Int) = ((P.length : Nat) : Int) by omega]; rfl, ⟨⟨by decide, by show P.length - 0 ≤ 512; omega, Nat.zero_le _, Nat.le_refl _⟩, hSt, hA5, hP, fun i => rep_get _ _, hd5, (fun a c x (e : (none : Option Fr) = some x) => by cases e), by show 0 + 2 * (P.length - 0) + 1 ≤ 5000; omega, by omega⟩, kx.imp (S05.mono (by simp)) (fun m hm => by
    rcases List.mem_cons.mp hm with rfl | hm
    · exact .inr frd
    · exact .inl (List.mem_cons_of_mem _ hm)) (fun es h => h), fun H6 es W z u kvs hH hT S6 hA6 hd6 hdw6 hkl6 hkn hz => ?_⟩
  dsimp only
  walk_at "rd"
  refine k ⟨o, dx, D, gg, dd, pa, P⟩ H6 es W z rfl rfl hbase hH hT ?_ ⟨hSt.askd hd5 S6, hA6, hP, fun i => by rw [rep_get]; exact Nat.zero_le _, ⟨kvs, hd6, hdw6, hkn, ?_⟩, ⟨z, hH.tre fun e he => List.mem_append_right _ he⟩⟩
  · refine (S05.mono (M' := o :: I.M) (by simp)).then S6 fun m hm => ?_
    rcases List.mem_cons.mp hm with rfl | hm
    · exact .inr frd
    · exact .inl (List.mem_cons_of_mem _ hm)
  · unfold PR.left
    rw [rep_sum]
    show kvs.length + 400 * ((P.map List.length).sum - 0) ≤ 900000
    have h2 : kvs.length ≤ 0 + 2 * (P.length - 0) + 1 - (if 0 < P.length then 2 else 0) := hkl6
    omega
def sp_LastPour_first (K : PySem.W.Frag) (A : Ad) : Sp := fun vs H Q _ => ∃ (R : PR) (I : Ask) (log : List Ent) (g : List Nat) (W : Wt) (z : Fr), vs = [.ref R.o] ∧ (R.At true K A A.LastPour I H log g W ∧ W 0 R.P.length = some z) ∧
  ∀ H', Stp [] H H' → Q (frI z) H'
theorem ok_LastPour_first {P : Program} {w : World} {K : PySem.W.Frag} {mg : Str → Option Value} {base : Heap} {A : Ad} {f : Addr} {fd : FuncData} (F : Fun K "first" "Pour.first" s_LastPour_first f fd) (T : Txt K mg A)  : FnOk P w K mg base CX0 1 f fd ["self"] (sp_LastPour_first K A) := by
  refine F.ok sc_LastPour_first (fun vs H Q E h => by obtain ⟨_, _, _, _, _, _, rfl, _⟩ := h; rfl) (fun cdv A' outer s H vs Q E hr h => ?_)
  obtain ⟨R, I, log, g, W, z, rfl, ⟨hR, hz⟩, k⟩ := h
  refine ⟨_, (pss_cons (ps_set (i := 1) sc_LastPour_first.nd rfl (Or.inl rfl) (pe_dget (hu_of hr) (SH.pe_fldF T.cl_LastPour T.na_LastPour_went_on (pv 0)) (pe_tup (pa_cons pe_int (pa_cons (pe_callB SH.cLen (by rfl) T.z_len (by decide +kernel) (pa_cons (SH.pe_fldF T.cl_LastPour T.na_LastPour_pieces (pv 0)) pa_nil)) pa_nil))) (fun _ _ => rfl)))
        (pss_cons (ps_if (pt_cmpR SH.oIsN (pv 1) pe_non (nomark _)) (pss_one (ps_ret pe_non)) pss_nil)
        (pss_one (ps_ret (pe_ix SH.ixA (pv 1) pe_int (fun _ _ => rfl)))))), ?_⟩
  walk_at "begin"
  have ho := hR.st.ho
  unfold PF at ho
  have hp := hR.st.hp
  have hpl : R.pa.length = R.P.length := hR.st.hl
  obtain ⟨kvs, hd, hdw, _⟩ := hR.dw
  obtain ⟨v, hv1, hv2⟩ := hdw _ _ _ hz
  walk_at "rd"
  intro q hq
  rw [hpl]
  refine v_dgetI (ks := pk 0 R.P.length) (upd_old hd hq) upd_same hv1 ?_
  have S := (Stp.refl [] H).new (o := .tup [.int (0 : Int), .int (R.P.length : Nat)]) hq
  walk_at "rd"
  cases z with
  | none =>
    cases hv2
    refine r_wT rfl ?_
    walk_at "rd"
    exact k _ S
  | some x =>
    obtain ⟨t, rfl, ht⟩ := hv2
    refine r_wF (by intro z; cases z) ?_
    walk_at "rd"
    refine v_ixTn (n := 0) (SqT.of (upd_old ht hq)) rfl rfl ?_
    exact k _ S
def sp_LastPour_way_down (K : PySem.W.Frag) (A : Ad) : Sp := fun vs H Q _ => ∃ (R : PR) (I : Ask) (g : List Nat) (n : Nat), vs = [.ref R.o, .int n] ∧ (R.St A.LastPour I H g ∧ n < R.P.length ∧ R.P.length ≤ 300) ∧
  ∀ H' q ts l a c, H q = none → Way n 0 R.P.length l a c → c ≤ a + 1 → Stp [] H H' → H' q = some (.lst ts) → Prs H' ts l → Q (.ref q) H'
theorem ok_LastPour_way_down {P : Program} {w : World} {K : PySem.W.Frag} {mg : Str → Option Value} {base : Heap} {A : Ad} {f : Addr} {fd : FuncData} (F : Fun K "way_down" "Pour.way_down" s_LastPour_way_down f fd) (T : Txt K mg A) (C_cut_between : SH.Cal P w K mg base CX0 1 "cut_between" [] (sp_cut_between K A)) : FnOk P w K mg base CX0 2 f fd ["self", "number"] (sp_LastPour_way_down K A) := by
  refine F.ok sc_LastPour_way_down (fun vs H Q E h => by obtain ⟨_, _, _, _, rfl, _⟩ := h; rfl) (fun cdv A' outer s H vs Q E hr h => ?_)
  obtain ⟨R, I, g, n, rfl, ⟨hSt, hn, hfew⟩, k⟩ := h
  refine ⟨_, (pss_cons (ps_set (i := 2) sc_LastPour_way_down.nd rfl (Or.inl rfl) (pe_lst pa_nil))
        (pss_cons (ps_set (i := 3) sc_LastPour_way_down.nd rfl (Or.inl rfl) pe_int)
        (pss_cons (ps_set (i := 4) sc_LastPour_way_down.nd rfl (Or.inl rfl) (pe_callB SH.cLen (by rfl) T.z_len (by decide +kernel) (pa_cons (SH.pe_fldF T.cl_LastPour T.na_LastPour_pieces (pv 0)) pa_nil)))
        (pss_cons (ps_while PassesOwn.never (pt_cmpR SH.oGt (pe_op SH.oSub (pv 4) (pv 3)) pe_int (nomark _)) (pss_cons (ps_expr (pe_bm PySem.F.plainAttrs_list PySem.F.slot_list_append PySem.F.type_list_append mt_append (pv 2) (pa_cons (pe_tup (pa_cons (pv 3) (pa_cons (pv 4) pa_nil))) pa_nil)))
        (pss_cons (ps_set (i := 5) sc_LastPour_way_down.nd rfl (Or.inl rfl) (SH.pe_callF C_cut_between hr (by rfl) pass0 (pa_cons (pv 3) (pa_cons (pv 4) pa_nil))))
        (pss_one (ps_if (pt_cmpR (SH.oLt hr.units0) (pv 1) (pv 5) (nomark _)) (pss_one (ps_set (i := 4) sc_LastPour_way_down.nd rfl (Or.inl rfl) (pv 5))) (pss_one (ps_set (i := 3) sc_LastPour_way_down.nd rfl (Or.inl rfl) (pv 5))))))))
        (pss_one (ps_ret (pv 2))))))), ?_⟩
  walk_at "begin"
  have ho := hSt.ho
  unfold PF at ho
  have hp := hSt.hp
  have hpl : R.pa.length = R.P.length := hSt.hl
  walk_at "rd"
  intro q hq
  have hp1 := upd_old (u := .lst []) hp hq
  walk_at "rd"
  rw [hpl]
  refine r_while (fun m σ H' => ∃ (ts : List V) (l : List (Nat × Nat)) (a c : Nat) (v5 : Option V), m = c - a ∧ Way n 0 R.P.length l a c ∧ Stp [] H H' ∧ H' q = some (.lst ts) ∧ Prs H' ts l ∧ σ = [some (.ref R.o), some (.int n), some (.ref q), some (.int a), some (.int c), v5])
    ⟨_, [], [], 0, R.P.length, _, rfl, .nil, (Stp.refl _ _).new hq, upd_same, ⟨rfl, by intro i x e; simp at e⟩, rfl⟩ ?_
  rintro m σ H1 ⟨ts, l, a, c, v5, rfl, hW, S1, hq1, hts, rfl⟩
  have hin := hW.in (Nat.zero_le _) hn
  walk_at "rd"
  refine r_w (fun hc => ?_) fun hc => ?_
  · refine r_next_turn ?_
    have hlt : a + 1 < c := by omega
    have hcut := cutB_lt hlt
    walk_at "rd"
    intro t ht
    have htq : t ≠ q := (ne_of_none hq1 ht).symm
    walk_at "rd"
    refine v_app (upd_old hq1 ht) (by rw [hts.1]; omega) ?_
    walk_at "rd"
    refine ⟨a, c, rfl, ?_⟩
    walk_at "rd"
    have S2 : Stp [q] H1 (upd (upd H1 t (.tup [.int a, .int c])) q (.lst (ts ++ [.ref t]))) := ((Stp.refl _ _).new ht).putL (by simp) (upd_old hq1 ht)
    have S3 : Stp [] H (upd (upd H1 t (.tup [.int a, .int c])) q (.lst (ts ++ [.ref t]))) := (S1.new ht).putN hq
    have hts2 : Prs (upd (upd H1 t (.tup [.int a, .int c])) q (.lst (ts ++ [.ref t]))) (ts ++ [.ref t]) (l ++ [(a, c)]) := (hts.stp S2).app (x := (a, c)) (upd_far htq upd_same)
    refine r_w (fun hc2 => ?_) fun hc2 => ?_
    · walk_at "rd"
      exact ⟨_, by omega, ts ++ [.ref t], l ++ [(a, c)], a, cutB a c, _, rfl, .left hW hlt (by omega), S3, upd_same, hts2, rfl⟩
    · walk_at "rd"
      exact ⟨_, by omega, ts ++ [.ref t], l ++ [(a, c)], cutB a c, c, _, rfl, .right hW hlt (by omega), S3, upd_same, hts2, rfl⟩
  · walk_at "rd"
    exact k H1 q ts l a c hq hW (by omega) S1 hq1 hts
def sp_LastPour_take (K : PySem.W.Frag) (A : Ad) : Sp := fun vs H Q E => ∃ (R : PR) (I : Ask) (log : List Ent) (g : List Nat) (W : Wt) (top : Fr), vs = [.ref R.o] ∧ (R.At true K A A.LastPour I H log g W ∧ W 0 R.P.length = some top ∧ log.length + I.pre.length + 400 ≤ 100000) ∧
  (∀ x : Nat × Nat, top = some x → Stop I K A H log (fun es => ∃ W' z, TakeR true W x.2 (frt true (R.P.getD x.2 []) (g.getD x.2 0 + 1) x.2) 0 R.P.length es W' z) E) ∧
  (top = none → ∀ H', Stp [] H H' → Q .non H') ∧
  ∀ x : Nat × Nat, top = some x → x.2 < R.P.length → g.getD x.2 0 < (R.P.getD x.2 []).length → ∀ H' es W' z, TakeR true W x.2 (frt true (R.P.getD x.2 []) (g.getD x.2 0 + 1) x.2) 0 R.P.length es W' z → Told I.or log es → Stp (R.M I) H H' → R.At true K A A.LastPour I H' (log ++ es) (g.set x.2 (g.getD x.2 0 + 1)) W' → Q (.int (x.1 : Nat)) H'
theorem ok_LastPour_take {P : Program} {w : World} {K : PySem.W.Frag} {mg : Str → Option Value} {base : Heap} {A : Ad} {f : Addr} {fd : FuncData} (F : Fun K "take" "Pour.take" s_LastPour_take f fd) (T : Txt K mg A) (M_LastPour_front : SH.CalM P w K mg base CX0 1 A.LastPour "front" [] (sp_LastPour_front K A)) (M_LastPour_meeting : SH.CalM P w K mg base (L2N.CX P w) 5 A.LastPour "meeting" [] (sp_LastPour_meeting K A)) (M_LastPour_way_down : SH.CalM P w K mg base CX0 2 A.LastPour "way_down" [] (sp_LastPour_way_down K A)) (C_cut_between : SH.Cal P w K mg base CX0 1 "cut_between" [] (sp_cut_between K A)) : FnOk P w K mg base (L2N.CX P w) 6 f fd ["self"] (sp_LastPour_take K A) := by
  refine SH.okN F sc_LastPour_take (fun vs H Q E h => by obtain ⟨_, _, _, _, _, _, rfl, _⟩ := h; rfl) (fun cdv A' outer s H vs Q E hr h => ?_)
  obtain ⟨R, I, log, g, W, top, rfl, ⟨hR, hz, hlog⟩, kx, k0, k⟩ := h
  refine ⟨_, (pss_cons (ps_set (i := 1) sc_LastPour_take.nd rfl (Or.inl rfl) (pe_dget (hu_of hr) (SH.pe_fldF T.cl_LastPour T.na_LastPour_went_on (pv 0)) (pe_tup (pa_cons pe_int (pa_cons (pe_callB SH.cLen (by rfl) T.z_len (by decide +kernel) (pa_cons (SH.pe_fldF T.cl_LastPour T.na_LastPour_pieces (pv 0)) pa_nil)) pa_nil))) (fun _ _ => rfl)))
        (pss_cons (ps_if (pt_cmpR SH.oIsN (pv 1) pe_non (nomark _)) (pss_one (ps_ret pe_non)) pss_nil)
        (pss_cons (ps_set (i := 2) sc_LastPour_take.nd rfl (Or.inl rfl) (pe_ix SH.ixA (pv 1) pe_int (fun _ _ => rfl)))
        (pss_cons (ps_set (i := 3) sc_LastPour_take.nd rfl (Or.inl rfl) (SH.pe_methF (pv 0) M_LastPour_front hr pass0 (pa_cons (pv 2) (pa_cons (pe_op SH.oAdd (pe_ix SH.ixA (SH.pe_fldF T.cl_LastPour T.na_LastPour_gone (pv 0)) (pv 2) (fun _ _ => rfl)) pe_int) pa_nil))))
        (pss_cons (ps_set (i := 4) sc_LastPour_take.nd rfl (Or.inl rfl) pe_dnewT)
        (pss_cons (ps_dput (hu_of hr) (pv 4) (pe_tup (pa_cons (pv 2) (pa_cons (pe_op SH.oAdd (pv 2) pe_int) pa_nil))) (pv 3) rfl)
        (pss_cons (ps_for (L2.passes_of rfl) rfl (pi_reversed (by rfl) T.z_reversed (pa_cons (SH.pe_methF (pv 0) M_LastPour_way_down hr pass0 (pa_cons (pv 2) pa_nil)) pa_nil)) (pg_tup (by rfl) (pgs_cons (pg_name (i := 5) sc_LastPour_take.nd rfl (Or.inl rfl)) (pgs_cons (pg_name (i := 6) sc_LastPour_take.nd rfl (Or.inl rfl)) pgs_nil))) (pss_cons (ps_set (i := 7) sc_LastPour_take.nd rfl (Or.inl rfl) (SH.pe_callF C_cut_between hr (by rfl) pass0 (pa_cons (pv 5) (pa_cons (pv 6) pa_nil))))
        (pss_cons (ps_if (pt_cmpR (SH.oLt hr.units0) (pv 2) (pv 7) (nomark _)) (pss_one (ps_set (i := 3) sc_LastPour_take.nd rfl (Or.inl rfl) (SH.pe_methF (pv 0) M_LastPour_meeting hr (L2N.passes_call (L2N.takes_of rfl rfl rfl rfl) fun _ _ _ _ h => h) (pa_cons (pv 3) (pa_cons (pe_dget (hu_of hr) (SH.pe_fldF T.cl_LastPour T.na_LastPour_went_on (pv 0)) (pe_tup (pa_cons (pv 7) (pa_cons (pv 6) pa_nil))) (fun _ _ => rfl)) pa_nil))))) (pss_one (ps_set (i := 3) sc_LastPour_take.nd rfl (Or.inl rfl) (SH.pe_methF (pv 0) M_LastPour_meeting hr (L2N.passes_call (L2N.takes_of rfl rfl rfl rfl) fun _ _ _ _ h => h) (pa_cons (pe_dget (hu_of hr) (SH.pe_fldF T.cl_LastPour T.na_LastPour_went_on (pv 0)) (pe_tup (pa_cons (pv 5) (pa_cons (pv 7) pa_nil))) (fun _ _ => rfl)) (pa_cons (pv 3) pa_nil))))))
        (pss_one (ps_dput (hu_of hr) (pv 4) (pe_tup (pa_cons (pv 5) (pa_cons (pv 6) pa_nil))) (pv 3) rfl)))))
        (pss_cons (ps_expr (pe_bm PySem.F.plainAttrs_dict PySem.F.slot_dict_update PySem.F.type_dict_update (SH.mt_updT (hu_of hr)) (SH.pe_fldF T.cl_LastPour T.na_LastPour_went_on (pv 0)) (pa_cons (pv 4) pa_nil)))
        (pss_cons (ps_augS (SH.pe_fldF T.cl_LastPour T.na_LastPour_gone (pv 0)) (pv 2) SH.getL pe_int SH.ip_add' set_list)
        (pss_one (ps_ret (pe_ix SH.ixA (pv 1) pe_int (fun _ _ => rfl))))))))))))), ?_⟩
  walk_at "begin"
  have ho := hR.st.ho
  unfold PF at ho
  have hp := hR.st.hp
  have hpl : R.pa.length = R.P.length := hR.st.hl
  obtain ⟨kvs, hd, hdw, hkn, hkl⟩ := hR.dw
  obtain ⟨v, hv1, hv2⟩ := hdw _ _ _ hz
  walk_at "rd"
  intro q hq
  rw [hpl]
  refine v_dgetI (ks := pk 0 R.P.length) (upd_old hd hq) upd_same hv1 ?_
  have S := (Stp.refl [] H).new (o := .tup [.int (0 : Int), .int (R.P.length : Nat)]) hq
  have hR1 := hR.dT S
  have hd1 := S.keep0 hd
  have hdw1 := hdw.stp S
  have hv2' := hv2.stp S
  generalize upd H q (.tup [.int (0 : Int), .int (R.P.length : Nat)]) = H1 at S hR1 hd1 hdw1 hv2' ⊢
  have ho1 := hR1.st.ho
  unfold PF at ho1
  walk_at "rd"
  cases top with
  | none =>
    cases hv2'
    refine r_wT rfl ?_
    walk_at "rd"
    exact k0 rfl _ S
  | some x =>
  obtain ⟨t, rfl, ht⟩ := hv2'
  refine r_wF (by intro z; cases z) ?_
  clear hv2 hv1 hp ho hd hdw hq k0
  obtain ⟨z0, htre⟩ := hR.tre
  obtain rfl : z0 = some x := by have := htre.at; rw [hz] at this; exact (Option.some.inj this).symm
  obtain ⟨i, _, hi, hfi⟩ := htre.from.resolve_left (by simp)
  have kx := kx x rfl
  obtain ⟨x1, n⟩ := x
  obtain ⟨rfl, ps, hps, hpm, hgl⟩ := frts_mem hfi.symm
  have hpd : R.P.getD n [] = ps := by rw [List.getD_eq_getElem?_getD, hps]; rfl
  have hgn : n < g.length := by rw [hR.st.gl]; exact hi
  walk_at "rd"
  refine v_ixTn (n := 1) (SqT.of ht) rfl rfl ?_
  walk_at "rd"
  have hg1 := hR1.st.hg
  refine v_ixLn (n := n) (v := .int (g.getD n 0 : Nat)) (SqL.of hg1) rfl (by unfold nv; rw [List.getElem?_map, List.getElem?_eq_getElem hgn, List.getD_eq_getElem?_getD, List.getElem?_eq_getElem hgn]; rfl) ?_
  walk_at "rd"
  rw [show ((g.getD n 0 : Nat) : Int) + 1 = ((g.getD n 0 + 1 : Nat) : Int) by omega]
  refine ⟨R, I, g, n, g.getD n 0 + 1, rfl, ⟨hR1.st, hi⟩, fun fv H2 S2 hfv => ?_⟩
  rw [hpd] at hfv
  dsimp only at kx
  rw [hpd] at kx
  generalize hnx : frt true ps (g.getD n 0 + 1) n = nx at hfv kx
  walk_at "rd"
  intro D hD
  walk_at "rd"
  intro kt hkt
  have hDk : kt ≠ D := by rintro rfl; rw [upd_same] at hkt; cases hkt
  refine v_dputT (ks := pk n (n + 1)) (upd_old upd_same hkt) upd_same (by decide) ?_
  have S3 : Stp [] H2 (upd (upd (upd H2 D (.dT [])) kt (.tup [.int n, .int ((n : Nat) + 1)])) D (.dT (putK [] (pk n (n + 1)) fv))) := (((Stp.refl _ _).new hD).new hkt).putN hD
  have hD3 : upd (upd (upd H2 D (.dT [])) kt (.tup [.int n, .int ((n : Nat) + 1)])) D (.dT (putK [] (pk n (n + 1)) fv)) D = some (.dT (putK [] (pk n (n + 1)) fv)) := upd_same
  have hfv3 := hfv.stp S3
  generalize upd (upd (upd H2 D (.dT [])) kt (.tup [.int n, .int ((n : Nat) + 1)])) D (.dT (putK [] (pk n (n + 1)) fv)) = H3 at S3 hD3 hfv3 ⊢
  have S23 := S2.trans S3
  have hR3 := hR1.dT S23
  have hd3 := S23.keep0 hd1
  have hDw3 := hdw1.stp S23
  have hD1 : H1 D = none := S2.dom _ hD
  have hDdd : D ≠ R.dd := by rintro rfl; rw [hd1] at hD1; cases hD1
  have hDo := hR1.ask.freshO hD1
  have hDM := hR1.ask.fresh hD1
  have hDb : D ∉ R.base := fun z => by
    have h1 := hR1.st
    simp only [PR.base, List.mem_cons] at z
    rcases z with z | z | z | z | z
    · rw [z, h1.ho] at hD1; cases hD1
    · rw [z, h1.hp] at hD1; cases hD1
    · rw [z, h1.hg] at hD1; cases hD1
    · rw [z, hd1] at hD1; cases hD1
    · obtain ⟨i, hi⟩ := List.mem_iff_getElem?.mp z
      obtain ⟨ps, _, h2⟩ := h1.ha i _ hi
      rw [h2] at hD1; cases hD1
  clear hkt hDk hfv hD
  have ho3 := hR3.st.ho
  unfold PF at ho3
  walk_at "rd"
  refine ⟨R, I, g, n, rfl, ⟨hR3.st, hi, hR.pcs.few⟩, fun H4 wq ts l a c hwq hW hac S4 hwq4 hts => ?_⟩
  have hin := hW.in (Nat.zero_le _) hi
  have hll : l.length ≤ 300 := by have := hR.pcs.few; omega
  have hR4 := hR3.dT S4
  have hd4 := S4.keep0 hd3
  have hDw4 := hDw3.stp S4
  have hD4 := S4.keep0 hD3
  have hfv4 := hfv3.stp S4
  have hwD : wq ≠ D := (ne_of_none hD3 hwq).symm
  have nwo : wq ∉ R.base ∧ wq ∉ I.own := by
    refine ⟨fun z => ?_, hR3.ask.freshO hwq⟩
    have h1 := hR3.st
    simp only [PR.base, List.mem_cons] at z
    rcases z with z | z | z | z | z
    · rw [z, h1.ho] at hwq; cases hwq
    · rw [z, h1.hp] at hwq; cases hwq
    · rw [z, h1.hg] at hwq; cases hwq
    · rw [z, hd3] at hwq; cases hwq
    · obtain ⟨i, hi⟩ := List.mem_iff_getElem?.mp z
      obtain ⟨ps, _, h2⟩ := h1.ha i _ hi
      rw [h2] at hwq; cases hwq
  have S14 : Stp [] H1 H4 := (S2.trans S3).trans S4
  clear S4 hwq hR3 hd3 hDw3 hD3 hfv3
  have ec : c = a + 1 := by omega
  have ea : n = a := by omega
  subst ec
  subst ea
  walk_at "rd"
  refine for_it (walk_rev (xs := ts)) (fun j σ H' => ∃ (a c : Nat) (l1 : List (Nat × Nat)) (es : List Ent) (W1 : Wt) (z : Fr) (u : V) (more : List (List Key × V)) (v5 v6 v7 : Option V), l1 = l.take (l.length - j) ∧ Way n 0 R.P.length l1 a c ∧ TakeR true W n nx a c es W1 z ∧ Told I.or log es ∧ es.length ≤ j ∧ more.length ≤ j + 1 ∧ Stp (D :: I.M) H4 H' ∧ R.At true K A A.LastPour I H' (log ++ es) g W ∧ H' R.dd = some (.dT kvs) ∧ H' D = some (.dT more) ∧ Anew H' W W1 more ∧ (∀ p ∈ more, ∃ a' c', p.1 = pk a' c' ∧ a ≤ a' ∧ c' ≤ c) ∧ H' wq = some (.lst ts) ∧ frV H' u z ∧
      σ = [some (.ref R.o), some (.ref t), some (.int n), some u, some (.ref D), v5, v6, v7])
    ⟨n, n + 1, l, [], putW W n (n + 1) nx, nx, fv, _, _, _, _, by simp, hW, .one, True.intro, Nat.le_refl _, by simpa using length_putK [] (pk n (n + 1)) fv, .refl _ _, by rw [List.append_nil]; exact hR4, hd4, hD4, Anew.nil.put hfv4 (.inr True.intro) (by simp), fun p hp => ?_, hwq4, hfv4, rfl⟩ (fun _ _ _ _ ⟨_, _, _, _, _, _, _, _, _, _, _, _, _, _, _, _, _, _, _, _, _, _, _, h, _⟩ => SqL.of h) ?_ ?_
  · rcases mem_putK hp with rfl | hp
    · exact ⟨_, _, rfl, Nat.le_refl _, Nat.le_refl _⟩
    · cases hp
  · rintro j y σ H5 H6 hj ⟨a, c, l1, es, W1, z, u, more, v5, v6, v7, rfl, hW1, hTk, hT, hel, hml, S5, hR5, hd5, hD5, hAn, hAk, hw5, hu, rfl⟩ ⟨rfl, hy⟩
    have hjl : j < l.length := by rw [← hts.1]; exact hj
    obtain ⟨y', hy'⟩ : ∃ y', l[l.length - 1 - j]? = some y' := ⟨_, List.getElem?_eq_getElem (by omega)⟩
    obtain ⟨yt, hyt1, hyt2⟩ := hts.2 _ _ hy'
    rw [hts.1, hyt1] at hy
    cases hy
    have hyt5 := S5.tup hyt2
    have etk : l.take (l.length - j) = l.take (l.length - (j + 1)) ++ [y'] := by
      have : l.length - j = (l.length - 1 - j) + 1 := by omega
      rw [this, List.take_succ, hy', show l.length - (j + 1) = l.length - 1 - j by omega]
      rfl
    rw [etk] at hW1
    obtain ⟨hW2, hlt, hcase⟩ := hW1.last
    obtain ⟨a2, c2⟩ := y'
    dsimp only at hW2 hlt hcase hyt5
    have hcut := cutB_lt hlt
    have hin2 := hW2.in (Nat.zero_le _) hi
    obtain ⟨zz, htre2⟩ := htre.sub hW2
    obtain ⟨kx', ky, hk1, hk2⟩ := htre2.kids hlt
    have ho5 := hR5.st.ho
    unfold PF at ho5
    have hDw5 := hDw4.stp S5
    have S05 : Stp I.M H H6 := ((S.trans S14).mono (M' := I.M) (by simp)).then S5 fun m hm => by
      rcases List.mem_cons.mp hm with rfl | hm
      · exact .inr (S.dom _ hD1)
      · exact .inl hm
    have hTk' := hTk
    have hin3 := hW1.in (Nat.zero_le _) hi
    have hts1 : Tre true (frts true R.P (g.set n (g.getD n 0 + 1))) W1 (log ++ es) a c z := by
      obtain ⟨z3, t3⟩ := htre.sub hW1
      rw [frts_set hgn, hpd, hnx]
      exact hTk.tre0 t3
    walk_at "rd"
    refine ⟨a2, c2, rfl, ?_⟩
    walk_at "rd"
    refine r_wJ (W := fun σ' H' => ∃ (e2 : List Ent) (z2 : Fr) (u2 : V), TakeR true W n nx a2 c2 (es ++ e2) (putW W1 a2 c2 z2) z2 ∧ Told I.or (log ++ es) e2 ∧ e2.length ≤ 1 ∧ Stp I.M H6 H' ∧ I.At K A H' (log ++ es ++ e2) ∧ frV H' u2 z2 ∧
      σ' = [some (.ref R.o), some (.ref t), some (.int n), some u2, some (.ref D), some (.int a2), some (.int c2), some (.int (cutB a2 c2 : Nat))]) ?_ (fun hc N hN => ?_) (fun hc N hN => ?_)
    · rintro σ' H7 ⟨e2, z2, u2, hTk2, hT2, he2, S7, hA7, hu2, rfl⟩
      dsimp only
      have hD7 := S7.keep hD5 hDM
      have hd7 := S7.keep hd5 hR5.st.dM
      have hR7 := hR5.more S7 hA7 fun e he => by simp only [List.mem_append] at he ⊢; exact .inl he
      walk_at "rd"
      intro kt hkt
      refine v_dputT (ks := pk a2 c2) (upd_old hD7 hkt) upd_same (by omega) ?_
      walk_at "rd"
      have S8 : Stp [D] H7 (upd (upd H7 kt (.tup [.int a2, .int c2])) D (.dT (putK more (pk a2 c2) u2))) := ((Stp.refl _ _).new hkt).putM (by simp) (upd_old hD7 hkt) (fun z => z)
      have hl := length_putK more (pk a2 c2) u2
      refine ⟨a2, c2, l.take (l.length - (j + 1)), es ++ e2, putW W1 a2 c2 z2, z2, u2, putK more (pk a2 c2) u2, _, _, _, rfl, hW2, hTk2, Told.app hT hT2, by rw [List.length_append]; omega, by omega, (S5.trans (S7.mono fun b hb => List.mem_cons_of_mem _ hb)).trans (S8.mono (by simp)), ?_, ?_, upd_same, ((hAn.stp S7).stp S8).put (hu2.stp S8) (.inr True.intro) ?_, ?_, ?_, hu2.stp S8, rfl⟩
      · rw [List.append_assoc] at hR7
        exact hR7.stp S8 (by intro m hm; rw [List.mem_singleton] at hm; subst hm; exact ⟨hDb, hDo⟩)
      · exact S8.keep1 hd7 hDdd.symm
      · intro p hp z
        obtain ⟨a', c', q1, q2, q3⟩ := hAk p hp
        rw [q1] at z
        obtain ⟨rfl, rfl⟩ := pk_inj.mp z
        omega
      · intro p hp
        rcases mem_putK hp with rfl | hp
        · exact ⟨_, _, rfl, Nat.le_refl _, Nat.le_refl _⟩
        · obtain ⟨a', c', q1, q2, q3⟩ := hAk p hp
          exact ⟨a', c', q1, by omega, by omega⟩
      · exact S8.keep1 (S7.keep hw5 fun z => nwo.2 (Ask.Mown z)) hwD
    · obtain ⟨hn2, ea, ec⟩ := hcase.resolve_right (fun z => by omega)
      subst ea
      subst ec
      obtain ⟨w, hw1, hw2⟩ := hDw5 _ _ _ hk2.at
      walk_at "rd"
      intro kt hkt
      refine v_dgetI (ks := pk (cutB a c2) c2) (upd_old hd5 hkt) upd_same hw1 ?_
      have S6 := (Stp.refl [] H6).new (o := .tup [.int (cutB a c2 : Nat), .int (c2 : Nat)]) hkt
      refine ⟨R, I, g, log ++ es, u, w, z, ky, rfl, ⟨(hR5.dT S6).st, (hR5.dT S6).ask, hu.stp S6, hw2.stp S6, fun x y ex ey => ?_, by simp only [List.length_append]; omega⟩, StopM.toS (kx.toM.sub (S05.trans (S6.mono (by simp))) (fun m hm => .inl hm) hT (fun es2 ⟨z2, hm⟩ hT2 => by
        obtain ⟨es', W', z', hk', hT'⟩ := TakeR.up I.or htre hW2 (lg := log ++ es ++ es2) (.left hlt hn2 hTk hk2.at hm)
        exact ⟨es', hT', W', z', hk'⟩)), fun H7 e2 z2 u2 hm hT2 S7 hA7 hz2 => ?_⟩
      · subst ex ey
        exact hts1.two hR.pcs hk2 (Nat.le_refl _)
      · walk_at "rd"
        exact hN _ _ ⟨e2, z2, u2, .left hlt hn2 hTk hk2.at hm, hT2, hm.few.1, (S6.mono (by simp)).trans S7, hA7, hz2, rfl⟩
    · obtain ⟨hn2, ea, ec⟩ := hcase.resolve_left (fun z => by omega)
      subst ea
      subst ec
      obtain ⟨w, hw1, hw2⟩ := hDw5 _ _ _ hk1.at
      walk_at "rd"
      intro kt hkt
      refine v_dgetI (ks := pk a2 (cutB a2 c)) (upd_old hd5 hkt) upd_same hw1 ?_
      have S6 := (Stp.refl [] H6).new (o := .tup [.int (a2 : Nat), .int (cutB a2 c : Nat)]) hkt
      walk_at "rd"
      refine ⟨R, I, g, log ++ es, w, u, kx', z, rfl, ⟨(hR5.dT S6).st, (hR5.dT S6).ask, hw2.stp S6, hu.stp S6, fun x y ex ey => ?_, by simp only [List.length_append]; omega⟩, StopM.toS (kx.toM.sub (S05.trans (S6.mono (by simp))) (fun m hm => .inl hm) hT (fun es2 ⟨z2, hm⟩ hT2 => by
        obtain ⟨es', W', z', hk', hT'⟩ := TakeR.up I.or htre hW2 (lg := log ++ es ++ es2) (.right hlt hn2 hTk hk1.at hm)
        exact ⟨es', hT', W', z', hk'⟩)), fun H7 e2 z2 u2 hm hT2 S7 hA7 hz2 => ?_⟩
      · subst ex ey
        exact hk1.two hR.pcs hts1 (Nat.le_refl _)
      · walk_at "rd"
        exact hN _ _ ⟨e2, z2, u2, .right hlt hn2 hTk hk1.at hm, hT2, hm.few.1, (S6.mono (by simp)).trans S7, hA7, hz2, rfl⟩
  · rintro σ H5 ⟨a, c, l1, es, W1, z, u, more, v5, v6, v7, rfl, hW1, hTk, hT, hel, hml, S5, hR5, hd5, hD5, hAn, hAk, hw5, hu, rfl⟩
    rw [hts.1, Nat.sub_self, List.take_zero] at hW1
    obtain ⟨rfl, rfl⟩ : a = 0 ∧ c = R.P.length := by
      generalize hz : ([] : List (Nat × Nat)) = m at hW1
      cases hW1 with
      | nil => exact ⟨rfl, rfl⟩
      | left => simp at hz
      | right => simp at hz
    have ho5 := hR5.st.ho
    unfold PF at ho5
    have hDw5 := hDw4.stp S5
    have hleft : 1 ≤ R.left g := by
      have h1 := sum_le (g := g.set n (g.getD n 0 + 1)) (by rw [List.length_set]; exact hR.st.gl) fun i => by
        rw [getD_set hgn]
        split
        · rename_i e; subst e; rw [hpd]; exact hgl
        · exact hR.gle i
      rw [sum_set hgn] at h1
      unfold PR.left
      omega
    rw [hts.1] at hel hml
    have hmk := mergK_len more kvs
    walk_at "rd"
    refine ⟨ty_dT hd5, ?_⟩
    walk_at "rd"
    refine w_upd hd5 hD5 hDdd.symm hkn (by omega) ?_
    walk_at "rd"
    have S6 : Stp [R.dd] H5 (upd H5 R.dd (.dT (mergK kvs more))) := (Stp.refl _ _).putM (by simp) hd5 (fun z => z)
    have hSt6 := hR5.st.stp S6 (by intro m hm; rw [List.mem_singleton] at hm; subst hm; exact hR5.st.dd_ne hd5)
    have hd6 : upd H5 R.dd (.dT (mergK kvs more)) R.dd = some (.dT (mergK kvs more)) := upd_same
    have hDw6 := (hDw5.merge hAn).stp S6
    have hA6 := hR5.ask.stp S6 (by intro m hm; rw [List.mem_singleton] at hm; subst hm; exact hR5.st.own _ (by simp))
    generalize upd H5 R.dd (.dT (mergK kvs more)) = H6 at S6 hSt6 hd6 hDw6 hA6 ⊢
    have ho6 := hSt6.ho
    unfold PF at ho6
    have hg6 := hSt6.hg
    walk_at "rd"
    refine v_getL (n := n) hg6 rfl (by have := hR.pcs.few; omega) (v := .int (g.getD n 0 : Nat)) (by unfold nv; rw [List.getElem?_map, List.getElem?_eq_getElem hgn, List.getD_eq_getElem?_getD, List.getElem?_eq_getElem hgn]; rfl) ?_
    walk_at "rd"
    refine v_setL (n := n) hg6 rfl (by rw [List.length_map]; exact hgn) ?_
    rw [show ((g.getD n 0 : Nat) : Int) + 1 = ((g.getD n 0 + 1 : Nat) : Int) by omega, show (nv g).set n (.int ((g.getD n 0 + 1 : Nat) : Int)) = nv (g.set n (g.getD n 0 + 1)) by unfold nv; rw [List.map_set]]
    walk_at "rd"
    have S7 : Stp [R.gg] H6 (upd H6 R.gg (.lst (nv (g.set n (g.getD n 0 + 1))))) := (Stp.refl _ _).putL (by simp) hg6
    have hg7 : upd H6 R.gg (.lst (nv (g.set n (g.getD n 0 + 1)))) R.gg = some (.lst (nv (g.set n (g.getD n 0 + 1)))) := upd_same
    have ht7 := S7.tup (S6.tup (S5.tup (S14.tup ht)))
    refine v_ixTn (n := 0) (SqT.of ht7) rfl rfl ?_
    have nggd : R.dd ≠ R.gg := ne_of hd6 hg6 (by intro z; cases z)
    have hggo : R.gg ∉ I.own := hSt6.own _ (by simp)
    have hlf : R.left (g.set n (g.getD n 0 + 1)) + 1 = R.left g := by
      unfold PR.left at hleft ⊢
      rw [sum_set hgn]
      omega
    rw [← hpd] at hnx
    refine k (x1, n) rfl hi (by rw [hpd]; exact hgl) _ es W1 z (by rw [hnx]; exact hTk) hT ?_ ⟨⟨?_, ?_, fun i a e => ?_, hSt6.hl, hg7, by rw [List.length_set]; exact hSt6.gl, hSt6.own, hSt6.n1, hSt6.n2⟩, hA6.stp S7 (by intro m hm; rw [List.mem_singleton] at hm; subst hm; exact hggo), hR.pcs, fun i => ?_, ⟨_, S7.keep1 hd6 nggd, hDw6.stp S7, ?_, ?_⟩, ⟨z, ?_⟩⟩
    · refine (S.mono (M' := R.M I) (by simp)).trans ?_
      have T1 : Stp (R.M I) H1 H4 := (S14.mono (by simp))
      have T2 : Stp (R.M I) H1 H5 := T1.then S5 fun m hm => by
        rcases List.mem_cons.mp hm with rfl | hm
        · exact .inr hD1
        · exact .inl (List.mem_cons_of_mem _ (List.mem_cons_of_mem _ hm))
      exact (T2.trans (S6.mono (by simp [PR.M]))).trans (S7.mono (by simp [PR.M]))
    · exact S7.keep1 hSt6.ho (ne_of hSt6.ho hg6 (by intro z; cases z))
    · exact S7.keep1 hSt6.hp hSt6.n1.symm
    · obtain ⟨qs, q1, q2⟩ := hSt6.ha i a e
      exact ⟨qs, q1, S7.keep1 q2 (hSt6.n2 a (List.mem_of_getElem? e))⟩
    · rw [getD_set hgn]
      split
      · rename_i e; subst e; rw [hpd]; exact hgl
      · exact hR.gle i
    · intro e
      have := hDw6 _ _ _ (hTk.tre0 htre).at
      rw [e] at this
      obtain ⟨_, q, _⟩ := this
      cases q
    · show (mergK kvs more).length + 400 * R.left (g.set n (g.getD n 0 + 1)) ≤ 900000
      omega
    · have t3 := hTk.tre0 htre
      rw [← hnx, ← frts_set hgn] at t3
      exact t3
def sp__law_cell_at (K : PySem.W.Frag) (A : Ad) : Sp := fun vs H Q _ => ∃ (a : Addr) (ns : List Int) (k : Nat), vs = [.ref a, .int k] ∧ SqL K H a (ns.map V.int) ∧ ∀ c : Int, Q (.int c) H
theorem ok__law_cell_at {P : Program} {w : World} {K : PySem.W.Frag} {mg : Str → Option Value} {base : Heap} {A : Ad} {f : Addr} {fd : FuncData} (F : Fun K "_law_cell_at" "_law_cell_at" s__law_cell_at f fd) (T : Txt K mg A)  : FnOk P w K mg base CX0 1 f fd ["_law_script", "_law_k"] (sp__law_cell_at K A) := by
  refine F.ok sc__law_cell_at (fun vs H Q E h => by obtain ⟨_, _, _, rfl, _⟩ := h; rfl) (fun cdv A' outer s H vs Q E hr h => ?_)
  obtain ⟨a, ns, i, rfl, hS, k⟩ := h
  refine ⟨_, (pss_cons (ps_if (pt_cmpR (SH.oLt hr.units0) (pv 1) (pe_callB SH.cLen (by rfl) T.z_len (by decide +kernel) (pa_cons (pv 0) pa_nil)) (nomark _)) (pss_one (ps_ret (pe_ix SH.ixA (pv 0) (pv 1) (fun _ _ => rfl)))) pss_nil)
        (pss_one (ps_ret pe_int))), ?_⟩
  walk_at "begin"
  walk_at "rd"
  refine r_w (fun hc => ?_) fun hc => ?_
  · walk_at "rd"
    refine v_ixE (n := i) (by walk_at "sq") rfl (by omega) ?_
    walk_at "rd"
    exact k _
  · walk_at "rd"
    exact k _
/-! ### orders by keys -/
/-- o stands ahead of p -/
def Ahd (ks : List Int) (o p : Nat) : Prop := getE ks o < getE ks p ∨ (getE ks o = getE ks p ∧ o < p)
instance (ks : List Int) (o p : Nat) : Decidable (Ahd ks o p) := inferInstanceAs (Decidable (_ ∨ _))
theorem ahd_told {ks : List Int} {o p : Nat} (h : o ≠ p) : (decide (getE ks (max o p) < getE ks (min o p)) = decide (p < o)) ↔ Ahd ks o p := by
  unfold Ahd
  by_cases e : p < o
  · rw [Nat.max_eq_left (by omega), Nat.min_eq_right (by omega), decide_eq_true e]
    simp only [decide_eq_true_eq]
    omega
  · rw [Nat.max_eq_right (by omega), Nat.min_eq_left (by omega), decide_eq_false e]
    simp only [decide_eq_false_iff_not]
    omega
theorem Ahd.trans {ks : List Int} {a b c : Nat} (h : Ahd ks a b) (k : Ahd ks b c) : Ahd ks a c := by unfold Ahd at *; omega
theorem Ahd.asym {ks : List Int} {a b : Nat} (h : Ahd ks a b) : ¬ Ahd ks b a := by unfold Ahd at *; omega
theorem Ahd.tot {ks : List Int} {a b : Nat} (h : a ≠ b) : Ahd ks a b ∨ Ahd ks b a := by unfold Ahd; omega
theorem not_eq_ite {a b : Bool} (h : a = !b) : ¬ a = b := by cases a <;> cases b <;> simp_all
/-! ### odds and ends of laws with pairs -/
theorem tabs_stp {T : List NTab} {H H' : Hp} (h : TabsN T H) (S : Stp [] H H') : TabsN T H' := fun p hp => (h p hp).ext fun b o e => S.keep0 e
theorem ext_lst {H H' : Hp} {b : Addr} {xs : List V} (e : ExtN H H') (h : H b = some (.lst xs)) : H' b = some (.lst xs) := e _ _ h (by intro ps z; cases z)
theorem ext_tup {H H' : Hp} {b : Addr} {xs : List V} (e : ExtN H H') (h : H b = some (.tup xs)) : H' b = some (.tup xs) := e _ _ h (by intro ps z; cases z)
theorem RowP.ext {H H' : Hp} {row : List V} {ks : List Int} (h : RowP H row ks) (e : ExtN H H') : RowP H' row ks := ⟨h.1, fun i v z => by obtain ⟨t, h1, h2⟩ := h.2 i v z; exact ⟨t, h1, ext_tup e h2⟩⟩
def kOf (H : Hp) (x : V) : Int × Int := match x with
  | .ref t => (match H t with
    | some (.tup [.int a, .int b]) => (a, b)
    | _ => (0, 0))
  | _ => (0, 0)
theorem kOf_at {H : Hp} {t : Addr} {a b : Int} (h : H t = some (.tup [.int a, .int b])) : kOf H (.ref t) = (a, b) := by simp [kOf, h]
theorem lexB_false {a b c d : Int} (h : SrtO.lexB (a, b) (c, d) = false) : c < a ∨ (c = a ∧ d ≤ b) := by
  have : ¬ (a < c ∨ (a = c ∧ b < d)) := fun z => by
    rw [SrtO.lexB_iff.mpr z] at h
    cases h
  omega
/-- an order that was sorted: what stands ahead of a place is what stands ahead in it -/
theorem sorted_mono {ks : List Int} {H : Hp} {zs : List V} {ord : List Nat} {place : Nat} (hs : SrtO.Srtd (ltP (kOf H)) zs) (ho : ∀ (i o : Nat), ord[i]? = some o → ∃ t, zs[i]? = some (.ref t) ∧ H t = some (.tup [.int (getE ks o), .int (o : Nat)])) :
    ∀ (i j : Nat) (a b : Nat), i < j → ord[i]? = some a → ord[j]? = some b → Ahd ks b place → Ahd ks a place := by
  intro i j a b hij ha hb h
  obtain ⟨t, e1, h1⟩ := ho i a ha
  obtain ⟨u, e2, h2⟩ := ho j b hb
  obtain ⟨hi, e1⟩ := List.getElem?_eq_some_iff.mp e1
  obtain ⟨hj, e2⟩ := List.getElem?_eq_some_iff.mp e2
  have := List.pairwise_iff_getElem.mp hs i j hi hj hij
  rw [e1, e2] at this
  unfold ltP at this
  rw [kOf_at h1, kOf_at h2] at this
  have := lexB_false this
  unfold Ahd at h ⊢
  omega
theorem lexLt2 {a b c d : Int} : HT.lexLt [a, b] [c, d] = decide (a < c ∨ (a = c ∧ b < d)) := by
  simp only [HT.lexLt]
  by_cases e : a = c
  · rw [if_pos e]
    by_cases e2 : b = d
    · rw [if_pos e2]; simp [e, e2]
    · rw [if_neg e2]; simp [e]
  · rw [if_neg e]; simp [e]
theorem rd_extN {H H' : Hp} {a : Addr} {u : HO} (s : ExtN H H') (h : Rd H a u) (n : ∀ ps, u ≠ .tbl ps) : Rd H' a u := by
  rcases h with h | ⟨o, h⟩
  · exact .inl (s _ _ h n)
  · exact .inr ⟨o, s _ _ h (by intro ps z; cases z)⟩
theorem sql_extN {K : PySem.W.Frag} {H H' : Hp} {a : Addr} {xs : List V} (s : ExtN H H') (h : SqL K H a xs) : SqL K H' a xs := by
  rcases h with h | h
  · exact .inl (rd_extN s h (by intro ps z; cases z))
  · exact .inr h
theorem sqt_extN {K : PySem.W.Frag} {H H' : Hp} {a : Addr} {xs : List V} (s : ExtN H H') (h : SqT K H a xs) : SqT K H' a xs := by
  rcases h with h | h
  · exact .inl (rd_extN s h (by intro ps z; cases z))
  · exact .inr h
mutual
theorem dp_extN {K : PySem.W.Frag} {H H' : Hp} (S : ExtN H H') : ∀ (d : PyData) (v : V), Dp K H v d → Dp K H' v d
  | .none, _, h => by cases h; exact .non
  | .bool _, _, h => by cases h; exact .bl _
  | .int _, _, h => by cases h; exact .int _
  | .str _, _, h => by cases h; exact .str _
  | .list ds, _, h => by
    cases h with
    | lst hs ha => exact .lst (sql_extN S hs) (dp_extNs S ds _ ha)
  | .tuple ds, _, h => by
    cases h with
    | tup hs ha => exact .tup (sqt_extN S hs) (dp_extNs S ds _ ha)
  | .dict _, _, h => by cases h
theorem dp_extNs {K : PySem.W.Frag} {H H' : Hp} (S : ExtN H H') : ∀ (ds : List PyData) (vs : List V), DpAll K H vs ds → DpAll K H' vs ds
  | [], _, h => by cases h; exact .nil
  | d :: ds, _, h => by
    cases h with
    | cons h1 h2 => exact .cons (dp_extN S d _ h1) (dp_extNs S ds _ h2)
end
theorem isl_extN {K : PySem.W.Frag} {H H' : Hp} {α : Type} [Enc α] {vs : List V} {xs : List α} (S : ExtN H H') (h : IsL K H vs xs) : IsL K H' vs xs := dp_extNs S _ _ h
theorem sql_or {K : PySem.W.Frag} {H : Hp} {a : Addr} {xs : List V} (h : SqL K H a xs) : ∃ ax : List Addr, (∀ x ∈ ax, H x ≠ none) ∧ (a ∈ ax ∨ ∀ H', SqL K H' a xs) := by
  rcases h with (h | ⟨o, h⟩) | h
  · exact ⟨[a], fun x hx => by rw [List.mem_singleton] at hx; subst hx; rw [h]; simp, .inl (by simp)⟩
  · exact ⟨[a], fun x hx => by rw [List.mem_singleton] at hx; subst hx; rw [h]; simp, .inl (by simp)⟩
  · exact ⟨[], by simp, .inr fun H' => .inr h⟩
/-! ### a row of pairs, sorted: its places in order -/
/-- ord is all places, each one ahead of the next ones -/
structure OrdOf (ks : List Int) (ord : List Nat) : Prop where
  perm : ord.Perm (List.range ks.length)
  pw : ord.Pairwise (Ahd ks)
theorem OrdOf.len {ks : List Int} {ord : List Nat} (h : OrdOf ks ord) : ord.length = ks.length := by simpa using h.perm.length_eq
theorem OrdOf.lt {ks : List Int} {ord : List Nat} (h : OrdOf ks ord) {o : Nat} (ho : o ∈ ord) : o < ks.length := by simpa using h.perm.mem_iff.mp ho
theorem OrdOf.nodup {ks : List Int} {ord : List Nat} (h : OrdOf ks ord) : ord.Nodup := h.perm.nodup_iff.mpr List.nodup_range
theorem sorted_ord {ks : List Int} {H : Hp} {row zs : List V} {ord : List Nat} (hr : RowP H row ks) (hs : SrtO.Srtd (ltP (kOf H)) zs) (hp : zs.Perm row) (hl : ord.length = zs.length)
    (ho : ∀ (i o : Nat), ord[i]? = some o → ∃ t, zs[i]? = some (.ref t) ∧ H t = some (.tup [.int (getE ks o), .int (o : Nat)])) : OrdOf ks ord := by
  let g : V → Nat := fun x => (kOf H x).2.toNat
  have e1 : ord = zs.map g := by
    apply List.ext_getElem? ; intro i
    by_cases hi : i < ord.length
    · obtain ⟨t, h1, h2⟩ := ho i _ (List.getElem?_eq_getElem hi)
      rw [List.getElem?_eq_getElem hi, List.getElem?_map, h1, Option.map_some]
      show some _ = some (kOf H (.ref t)).2.toNat
      rw [kOf_at h2]
      simp
    · rw [List.getElem?_eq_none (by omega), List.getElem?_eq_none (by rw [List.length_map]; omega)]
  have e2 : row.map g = List.range ks.length := by
    apply List.ext_getElem? ; intro i
    by_cases hi : i < row.length
    · obtain ⟨t, h1, h2⟩ := hr.2 i _ (List.getElem?_eq_getElem hi)
      rw [List.getElem?_map, List.getElem?_eq_getElem hi, Option.map_some, h1, List.getElem?_range (by rw [← hr.1]; exact hi)]
      show some (kOf H (.ref t)).2.toNat = some i
      rw [kOf_at h2]
      simp
    · rw [List.getElem?_eq_none (by rw [List.length_map]; omega), List.getElem?_eq_none (by rw [List.length_range, ← hr.1]; omega)]
  have hpm : ord.Perm (List.range ks.length) := by rw [e1, ← e2]; exact hp.map g
  refine ⟨hpm, ?_⟩
  have hnd : ord.Nodup := hpm.nodup_iff.mpr List.nodup_range
  refine List.pairwise_iff_getElem.mpr fun i j hi hj hij => ?_
  obtain ⟨t, h1, h2⟩ := ho i _ (List.getElem?_eq_getElem hi)
  obtain ⟨u, h3, h4⟩ := ho j _ (List.getElem?_eq_getElem hj)
  obtain ⟨hi', h1⟩ := List.getElem?_eq_some_iff.mp h1
  obtain ⟨hj', h3⟩ := List.getElem?_eq_some_iff.mp h3
  have := List.pairwise_iff_getElem.mp hs i j hi' hj' hij
  rw [h1, h3] at this
  unfold ltP at this
  rw [kOf_at h2, kOf_at h4] at this
  have hb := lexB_false this
  have hne : ord[i] ≠ ord[j] := List.pairwise_iff_getElem.mp hnd i j hi hj hij
  unfold Ahd
  omega
theorem OrdOf.others {ks : List Int} {ord : List Nat} {spot place : Nat} (h : OrdOf ks ord) (hp : ord[spot]? = some place) :
    (ord.take spot ++ ord.drop (spot + 1)).length + 1 = ks.length ∧ (∀ o ∈ ord.take spot ++ ord.drop (spot + 1), o < ks.length ∧ o ≠ place) ∧ (∀ (i o : Nat), (ord.take spot ++ ord.drop (spot + 1))[i]? = some o → (Ahd ks o place ↔ i < spot)) := by
  have hl := h.len
  obtain ⟨hs, hp'⟩ := List.getElem?_eq_some_iff.mp hp
  have hlen : (ord.take spot ++ ord.drop (spot + 1)).length + 1 = ks.length := by rw [List.length_append, List.length_take, List.length_drop]; omega
  have key : ∀ (i o : Nat), (ord.take spot ++ ord.drop (spot + 1))[i]? = some o → (i < spot ∧ ord[i]? = some o) ∨ (spot ≤ i ∧ ord[i + 1]? = some o) := fun i o e => by
    by_cases hi : i < spot
    · rw [List.getElem?_append_left (by rw [List.length_take]; omega), List.getElem?_take_of_lt hi] at e
      exact .inl ⟨hi, e⟩
    · rw [List.getElem?_append_right (by rw [List.length_take]; omega), List.length_take, Nat.min_eq_left (by omega), List.getElem?_drop] at e
      exact .inr ⟨by omega, by rw [← e]; congr 1; omega⟩
  have key2 : ∀ (i o : Nat), (ord.take spot ++ ord.drop (spot + 1))[i]? = some o → (i < spot ∧ Ahd ks o place) ∨ (spot ≤ i ∧ Ahd ks place o) := fun i o e => by
    rcases key i o e with ⟨a, b⟩ | ⟨a, b⟩
    · obtain ⟨hi, b'⟩ := List.getElem?_eq_some_iff.mp b
      have := List.pairwise_iff_getElem.mp h.pw i spot hi hs a
      rw [b', hp'] at this
      exact .inl ⟨a, this⟩
    · obtain ⟨hi, b'⟩ := List.getElem?_eq_some_iff.mp b
      have := List.pairwise_iff_getElem.mp h.pw spot (i + 1) hs hi (by omega)
      rw [b', hp'] at this
      exact .inr ⟨a, this⟩
  refine ⟨hlen, fun o ho => ?_, fun i o e => ?_⟩
  · obtain ⟨i, hi, e⟩ := List.getElem_of_mem ho
    have e' : (ord.take spot ++ ord.drop (spot + 1))[i]? = some o := by rw [← e]; exact List.getElem?_eq_getElem hi
    refine ⟨?_, ?_⟩
    · rcases key i o e' with ⟨_, b⟩ | ⟨_, b⟩
      · exact h.lt (List.mem_of_getElem? b)
      · exact h.lt (List.mem_of_getElem? b)
    · rintro rfl
      rcases key2 i o e' with ⟨_, b⟩ | ⟨_, b⟩
      · exact b.asym b
      · exact b.asym b
  · rcases key2 i o e with ⟨a, b⟩ | ⟨a, b⟩
    · exact ⟨fun _ => a, fun _ => b⟩
    · exact ⟨fun z => (b.asym z).elim, fun z => by omega⟩
/-! ### bits -/
theorem bits_lt {n : Int} (h : 1 ≤ n) : n < 2 ^ Builtin.Int.intBits n := by
  unfold Builtin.Int.intBits
  rw [if_neg (by simp; omega)]
  have h1 : n.natAbs < 2 ^ (n.natAbs.log2 + 1) := Nat.lt_log2_self
  have h2 : n = (n.natAbs : Int) := by omega
  rw [h2]
  have h3 : ((n.natAbs : Nat) : Int) < ((2 ^ (n.natAbs.log2 + 1) : Nat) : Int) := by exact_mod_cast h1
  simpa using h3
theorem bits_le {n : Int} {k : Nat} (h : n < 2 ^ k) (h0 : 0 ≤ n) : Builtin.Int.intBits n ≤ k := by
  unfold Builtin.Int.intBits
  by_cases e : n = 0
  · subst e; simp
  · rw [if_neg (by simp; omega)]
    have h2 : n = (n.natAbs : Int) := by omega
    have h3 : n.natAbs < 2 ^ k := by
      rw [h2] at h
      exact_mod_cast h
    have h4 : n.natAbs ≠ 0 := by omega
    exact (Nat.log2_lt h4).mpr h3
theorem bits_half {d : Nat} (h : 0 < d) : Builtin.Int.intBits (d : Int) = Builtin.Int.intBits ((d / 2 : Nat) : Int) + 1 := by
  unfold Builtin.Int.intBits
  rw [if_neg (by simp; omega)]
  have e1 : ((d : Nat) : Int).natAbs = d := by omega
  have e2 : ((d / 2 : Nat) : Int).natAbs = d / 2 := by omega
  rw [e1, e2]
  by_cases h2 : d / 2 = 0
  · have : d = 1 := by omega
    subst this
    rfl
  · rw [if_neg (by simp; omega), Nat.log2_def d, if_pos (by omega)]
theorem bits_mono {a b : Nat} (h : a ≤ b) : Builtin.Int.intBits (a : Int) ≤ Builtin.Int.intBits (b : Int) := by
  induction b using Nat.strongRecOn generalizing a with
  | _ b ih =>
    by_cases ha : a = 0
    · subst ha; simp [Builtin.Int.intBits]
    · rw [bits_half (by omega : 0 < a), bits_half (by omega : 0 < b)]
      have := ih (b / 2) (by omega) (a := a / 2) (by omega)
      omega
/-! ### an asker made: Asker(row, AskedRule(_law_teller(said))) -/
structure Mk (K : PySem.W.Frag) (A : Ad) (H : Hp) (row : List V) (ks : List Int) (tl : Addr) (pre : List Ent) (m : Option Nat) (I : Ask) (H' : Hp) : Prop where
  at_ : I.At K A H' []
  e1 : I.tl = tl
  e2 : I.ks = ks
  e3 : I.pre = pre
  e4 : I.row = row
  e5 : I.m = m
  ext : ExtN H H'
  dom : ∀ b, H' b = none → H b = none
  tab : TabsN (Tb A) H'
  far : ∀ b o, H b = some o → b ≠ tl → b ∉ I.M
  far2 : ∀ b o, H b = some o → b ≠ tl → b ∉ I.own
theorem Mk.n {K : PySem.W.Frag} {A : Ad} {H : Hp} {row : List V} {ks : List Int} {tl : Addr} {pre : List Ent} {m : Option Nat} {I : Ask} {H' : Hp} (h : Mk K A H row ks tl pre m I H') : I.n = ks.length := by unfold Ask.n; rw [h.e2]
theorem Mk.lt {K : PySem.W.Frag} {A : Ad} {H : Hp} {row : List V} {ks : List Int} {tl : Addr} {pre : List Ent} {m : Option Nat} {I : Ask} {H' : Hp} (h : Mk K A H row ks tl pre m I H') : I.or = fun _ p q => decide (getE ks p < getE ks q) := by unfold Ask.or Ask.lt; rw [h.e2]
theorem askmake {K : PySem.W.Frag} {A : Ad} {σ : L2.St} {H : Hp} {Q : VK} {i j : Nat} {rq tl : Addr} {row : List V} {ks : List Int} {pre : List Ent} {tvs : List V} {m : Option Nat} {us dvs : List V} {ta : TA}
    (hi : σ[i]? = some (some (.ref rq))) (hj : σ[j]? = some (some (.ref tl))) (hR : H rq = some (.lst row)) (hrow : RowP H row ks) (hTb : TabsN (Tb A) H) (htl : H tl = some (.lst tvs)) (htv : IsL K H tvs pre) (few : row.length ≤ 100000) (fewp : pre.length ≤ 100000) (hta : ∀ (H : Hp) (Q : List V → Hp → Prop), Q us H → ta σ H Q) (e : us ++ dvs = [mV m])
    (k : ∀ H' I, Mk K A H row ks tl pre m I H' → Q (.ref I.s) H') :
    tMake A.Asker (sp_Asker___init__ K A) dvs L2.E0 (tCons (tVar i) (tCons (tMake A.AskedRule (sp_AskedRule___init__ K A) [] L2.E0 (tCons (tCall (sp__law_teller K A) [] L2.E0 (tCons (tVar j) tNil)) tNil)) ta)) σ H Q := by
  walk_at "rd"
  refine SH.r_var hi ?_
  walk_at "rd"
  refine SH.r_var hj ?_
  walk_at "rd"
  refine ⟨.ref tl, rfl, hTb, fun f' H6 cl c' hE hdom hTb6 hf6 hC => ?_⟩
  have hR6 := ext_lst hE hR
  have htl6 := ext_lst hE htl
  have hrow6 := hrow.ext hE
  walk_at "rd"
  intro u du hu hdu hne
  refine ⟨u, .ref f', rfl, ⟨du, upd_same⟩, fun dx => ⟨rfl, ?_⟩⟩
  rw [upd_upd]
  have S7 : Stp [] H6 (upd (upd H6 du (.own u)) u (.ins A.AskedRule dx [("teller", .ref f')])) := ((Stp.refl [] H6).new hdu).putN hu
  have hu7 : upd (upd H6 du (.own u)) u (.ins A.AskedRule dx [("teller", .ref f')]) u = some (.ins A.AskedRule dx [("teller", .ref f')]) := upd_same
  generalize upd (upd H6 du (.own u)) u (.ins A.AskedRule dx [("teller", .ref f')]) = H7 at S7 hu7 ⊢
  have hR7 := S7.keep0 hR6
  have htl7 := S7.keep0 htl6
  have hrow7 := hrow6.stp S7
  have hC7 := hC.step S7
  walk_at "rd"
  refine hta _ _ ?_
  intro s dx' hs hdx hne
  have S8 : Stp [] H7 (upd (upd H7 dx' (.own s)) s (.ins A.Asker dx' [])) := ((Stp.refl [] H7).new hdx).new (by rw [upd_ne hne.symm]; exact hs)
  refine ⟨s, rq, .ref u, row, m, by rw [← e]; rfl, ⟨dx', upd_same⟩, ⟨S8.sql0 (SqL.of hR7), few⟩, fun dx2 r l H9 hr hl hlr hsr hsl S9 hs9 hr9 hl9 => ⟨rfl, ?_⟩⟩
  have S79 : Stp [] H7 H9 := S8.then S9 (by simp; exact hs)
  have hl0 : H7 l = none := S8.dom l hl
  have hr0 : H7 r = none := S8.dom r hr
  have hE2 : ExtN H H9 := hE.trans (ExtN.of fun b o e => S79.keep0 (S7.keep0 e))
  have d0 : ∀ b, H9 b = none → H b = none := fun b e => hdom b (S7.dom b (S79.dom b e))
  have ht9 : IsL K H9 tvs pre := by
    have : ∀ (vs : List V) (ps : List Ent), IsL K H vs ps → IsL K H9 vs ps := fun vs ps h => isl_extN hE2 h
    exact this _ _ htv
  have hA : Ask.At ⟨s, r, l, dx2, u, dx, f', tl, cl, c', ks, row, pre, m⟩ K A H9 [] :=
    ⟨hs9, hr9, ⟨[], hl9, isl_nil⟩, S79.keep0 hu7, ⟨tvs, S79.keep0 htl7, by rw [List.append_nil]; exact ht9⟩, hC7.step S79, hrow7.stp S79, (ne_of_none hu7 hs).symm, hlr, ne_of_none htl7 hr0, (ne_of_none htl7 hl0).symm, by simp; omega, few, fun _ _ => Nat.zero_le _⟩
  refine k H9 ⟨s, r, l, dx2, u, dx, f', tl, cl, c', ks, row, pre, m⟩ ⟨hA, rfl, rfl, rfl, rfl, rfl, hE2, d0, tabs_stp (tabs_stp hTb6 S7) S79, fun b o e n => ?_, fun b o e n => ?_⟩
  rotate_left
  · have hb6 : H b ≠ none := by rw [e]; simp
    have n1 : ∀ c, H7 c = none → b ≠ c := fun c hc z => hb6 (by subst z; exact hdom b (S7.dom b hc))
    have n2 : b ≠ u := fun z => hb6 (by subst z; exact hdom b hu)
    simp only [Ask.own, List.mem_cons, List.not_mem_nil, or_false, not_or]
    exact ⟨n1 _ hs, n1 _ hl0, n, n1 _ hr0, n2⟩
  have hb6 : H b ≠ none := by rw [e]; simp
  have n1 : ∀ c, H7 c = none → b ≠ c := fun c hc z => hb6 (by subst z; exact hdom b (S7.dom b hc))
  simp only [Ask.M, List.mem_cons, List.not_mem_nil, or_false, not_or]
  exact ⟨n1 _ hs, n1 _ hl0, n⟩
theorem isl_gather {α : Type} [Enc α] {K : PySem.W.Frag} {D : Addr} {H1 H2 : Hp} {us : List V} {xs : List α} {v : V} {x : α} {o : HO} (S : Stp [] H1 H2) (h : IsL K (wo D H1) us xs) (k : Is K (wo D H2) v x) : IsL K (wo D (upd H2 D o)) (us ++ [v]) (xs ++ [x]) := by
  unfold SH.IsL
  rw [List.map_append]
  exact dp_gather S h k
theorem tabs_M {A : Ad} {M : List Addr} {H H' : Hp} (h : TabsN (Tb A) H) (S : Stp M H H') (hM : A.P ∉ M) : TabsN (Tb A) H' := fun p hp => by
  rw [List.mem_singleton] at hp
  subst hp
  obtain ⟨ps, h1, h2, h3⟩ := h _ (List.mem_singleton.mpr rfl)
  exact ⟨ps, S.keep h1 hM, h2, fun pos cv hc => by obtain ⟨c, e, q⟩ := h3 pos cv hc; exact ⟨c, e, S.fix q True.intro⟩⟩
theorem tabs_at {A : Ad} {H : Hp} (h : TabsN (Tb A) H) : ∃ ps, H A.P = some (.tbl ps) := by
  obtain ⟨ps, h1, _⟩ := h _ (List.mem_singleton.mpr rfl)
  exact ⟨ps, h1⟩
theorem tabs_ask {I : Ask} {K : PySem.W.Frag} {A : Ad} {H H' : Hp} {log : List Ent} (h : TabsN (Tb A) H) (hA : I.At K A H log) (S : Stp I.M H H') : TabsN (Tb A) H' := by
  refine tabs_M h S fun z => ?_
  obtain ⟨ps, hp⟩ := tabs_at h
  obtain ⟨evs, h2, _⟩ := hA.hl
  obtain ⟨tvs, h3, _⟩ := hA.ht
  simp only [Ask.M, List.mem_cons, List.not_mem_nil, or_false] at z
  rcases z with z | z | z
  · rw [z, hA.hs] at hp; cases hp
  · rw [z, h2] at hp; cases hp
  · rw [z, h3] at hp; cases hp
theorem clo_ext {H H' : Hp} {f : Addr} {ws : List V} {cl : List (Str × Addr)} {c' : Addr} (c : Clo1 H f ws cl c') (e : ExtN H H') : Clo1 H' f ws cl c' := by
  have nt : ∀ {q : Heap → Prop} (ps : Array Value), HO.ext q ≠ HO.tbl ps := fun ps z => by cases z
  refine ⟨e _ _ c.fn (fun ps z => by cases z), e _ _ c.code (fun ps z => by cases z), c.len, fun y a h => ?_, c.inj, fun i y h => ?_⟩
  · obtain ⟨v, hv⟩ := c.cells y a h
    exact ⟨v, e _ _ hv (fun ps z => by cases z)⟩
  · obtain ⟨a, v, h1, h2, h3⟩ := c.has i y h
    exact ⟨a, v, h1, h2, e _ _ h3 (fun ps z => by cases z)⟩
theorem Ask.At.ext {I : Ask} {K : PySem.W.Frag} {A : Ad} {H H' : Hp} {log : List Ent} (h : I.At K A H log) (e : ExtN H H') : I.At K A H' log := by
  obtain ⟨evs, h1, h2⟩ := h.hl
  obtain ⟨tvs, h3, h4⟩ := h.ht
  exact ⟨e _ _ h.hs (fun ps z => by cases z), ext_lst e h.hr, ⟨evs, ext_lst e h1, isl_extN e h2⟩, e _ _ h.hu (fun ps z => by cases z), ⟨tvs, ext_lst e h3, isl_extN e h4⟩, clo_ext h.hf e, h.rk.ext e, h.d1, h.d2, h.d3, h.d4, h.few, h.rows, h.bd⟩
/-! ### places in order, dealt out -/
structure Dl (ks : List Int) (P : List (List Nat)) : Prop where
  few : P.length ≤ 40
  pw : ∀ ps ∈ P, ps.Pairwise (Ahd ks)
  nd : P.flatten.Nodup
  lt : ∀ ps ∈ P, ∀ p ∈ ps, p < ks.length
/-- one more place dealt out -/
theorem flat_set {P : List (List Nat)} {i x : Nat} {ps : List Nat} (h : P[i]? = some ps) : (P.set i (ps ++ [x])).flatten.Perm (x :: P.flatten) := by
  induction P generalizing i with
  | nil => cases h
  | cons a P ih =>
    cases i with
    | zero =>
      cases h
      simp only [List.set_cons_zero, List.flatten_cons]
      rw [List.append_assoc]
      exact List.perm_middle
    | succ i =>
      rw [List.getElem?_cons_succ] at h
      simp only [List.set_cons_succ, List.flatten_cons]
      exact (List.Perm.append_left a (ih h)).trans List.perm_middle
structure Dld (ks : List Int) (ord : List Nat) (j : Nat) (P : List (List Nat)) : Prop where
  sub : ∀ ps ∈ P, ∀ p ∈ ps, p ∈ ord.take j
  pw : ∀ ps ∈ P, ps.Pairwise (Ahd ks)
  nd : P.flatten.Nodup
theorem Dld.put {ks : List Int} {ord : List Nat} {j i x : Nat} {P : List (List Nat)} {ps : List Nat} (hO : OrdOf ks ord) (h : Dld ks ord j P) (hx : ord[j]? = some x) (hi : P[i]? = some ps) : Dld ks ord (j + 1) (P.set i (ps ++ [x])) := by
  have hpm := List.mem_of_getElem? hi
  obtain ⟨hj, hx'⟩ := List.getElem?_eq_some_iff.mp hx
  have bef : ∀ p ∈ ord.take j, Ahd ks p x ∧ p ≠ x := fun p hp => by
    obtain ⟨a, ha, e⟩ := List.getElem_of_mem hp
    rw [List.length_take] at ha
    rw [List.getElem_take] at e
    have := List.pairwise_iff_getElem.mp hO.pw a j (by omega) hj (by omega)
    rw [e, hx'] at this
    exact ⟨this, fun z => by subst z; exact Ahd.asym this this⟩
  have tk : ord.take (j + 1) = ord.take j ++ [x] := by rw [List.take_succ, hx]; rfl
  refine ⟨fun qs hq p hp => ?_, fun qs hq => ?_, (flat_set hi).nodup_iff.mpr (List.nodup_cons.mpr ⟨fun z => ?_, h.nd⟩)⟩
  · rw [tk]
    rcases List.mem_or_eq_of_mem_set hq with hq | rfl
    · exact List.mem_append_left _ (h.sub qs hq p hp)
    · rcases List.mem_append.mp hp with hp | hp
      · exact List.mem_append_left _ (h.sub ps hpm p hp)
      · exact List.mem_append_right _ hp
  · rcases List.mem_or_eq_of_mem_set hq with hq | rfl
    · exact h.pw qs hq
    · refine List.pairwise_append.mpr ⟨h.pw ps hpm, List.pairwise_singleton _ _, fun a ha b hb => ?_⟩
      rw [List.mem_singleton] at hb
      subst hb
      exact (bef a (h.sub ps hpm a ha)).1
  · obtain ⟨qs, hq, hp⟩ := List.mem_flatten.mp z
    exact (bef x (h.sub qs hq x hp)).2 rfl
theorem Dld.skip {ks : List Int} {ord : List Nat} {j : Nat} {P : List (List Nat)} (h : Dld ks ord j P) : Dld ks ord (j + 1) P := ⟨fun ps hp p hq => by
  have := h.sub ps hp p hq
  rw [List.take_succ]
  exact List.mem_append_left _ this, h.pw, h.nd⟩
theorem Dld.done {ks : List Int} {ord : List Nat} {j : Nat} {P : List (List Nat)} (hO : OrdOf ks ord) (h : Dld ks ord j P) (hf : P.length ≤ 40) : Dl ks P := ⟨hf, h.pw, h.nd, fun ps hp p hq => hO.lt (List.mem_of_mem_take (h.sub ps hp p hq))⟩
theorem Dld.nil {ks : List Int} {ord : List Nat} {m : Nat} : Dld ks ord 0 (List.replicate m []) := by
  have e : (List.replicate m ([] : List Nat)).flatten = [] := by induction m with | zero => rfl | succ m ih => rw [List.replicate_succ, List.flatten_cons, ih]; rfl
  exact ⟨(fun ps hp p hq => by rw [List.eq_of_mem_replicate hp] at hq; cases hq), (fun ps hp => by rw [List.eq_of_mem_replicate hp]; exact .nil), (by rw [e]; exact .nil)⟩
theorem nodup_len : ∀ {n : Nat} {l : List Nat}, l.Nodup → (∀ x ∈ l, x < n) → l.length ≤ n
  | 0, l, _, h => by cases l with | nil => exact Nat.le_refl _ | cons x l => exact absurd (h x (by simp)) (Nat.not_lt_zero _)
  | n + 1, l, hn, h => by
    have h1 := nodup_len (n := n) (hn.erase n) fun x hx => by
      have := hn.mem_erase_iff.mp hx
      have := h x this.2
      omega
    have h2 := List.length_erase (a := n) (l := l)
    split at h2 <;> omega
theorem Dl.sum {ks : List Int} {P : List (List Nat)} (h : Dl ks P) : (P.map List.length).sum ≤ ks.length := by
  have e : (P.map List.length).sum = P.flatten.length := by rw [List.length_flatten]
  rw [e]
  exact nodup_len h.nd fun p hp => by
    obtain ⟨ps, h1, h2⟩ := List.mem_flatten.mp hp
    exact h.lt ps h1 p h2
theorem Pls.set {H : Hp} {pa : List Addr} {P : List (List Nat)} {i : Nat} {a : Addr} {ps : List Nat} (h : Pls H pa P) (hn : pa.Nodup) (ha : pa[i]? = some a) : Pls (upd H a (.lst (nv ps))) pa (P.set i ps) := by
  refine ⟨by rw [List.length_set]; exact h.1, fun k b e => ?_⟩
  obtain ⟨qs, h1, h2⟩ := h.2 k b e
  by_cases z : k = i
  · subst z
    rw [ha] at e
    cases e
    exact ⟨ps, by rw [List.getElem?_set_self (List.getElem?_eq_some_iff.mp h1).1], upd_same⟩
  · refine ⟨qs, by rw [List.getElem?_set_ne (fun q => z q.symm)]; exact h1, upd_far (fun q => z ?_) h2⟩
    subst q
    exact (List.getElem?_inj (List.getElem?_eq_some_iff.mp e).1 hn).mp (e.trans ha.symm)
/-! ### pours by keys -/
/-- p goes on from q -/
def Ahb (b : Bool) (ks : List Int) (p q : Nat) : Prop := match b with
  | false => Ahd ks p q
  | true => Ahd ks q p
theorem Ahb.trans {b : Bool} {ks : List Int} {p q r : Nat} (h : Ahb b ks p q) (k : Ahb b ks q r) : Ahb b ks p r := by
  cases b
  · exact Ahd.trans h k
  · exact Ahd.trans k h
theorem Ahb.asym {b : Bool} {ks : List Int} {p q : Nat} (h : Ahb b ks p q) : ¬ Ahb b ks q p := by
  cases b
  · exact Ahd.asym h
  · exact Ahd.asym h
theorem goes_ahb {b : Bool} {ks : List Int} {p q : Nat} (h : p ≠ q) : goes b (decide (getE ks (max p q) < getE ks (min p q))) p q = true ↔ Ahb b ks p q := by
  cases b
  · show decide (_ = _) = true ↔ _
    rw [decide_eq_true_iff]
    exact ahd_told h
  · show (!decide (_ = _)) = true ↔ Ahd ks q p
    rw [Bool.not_eq_true', decide_eq_false_iff_not]
    have := ahd_told (ks := ks) h
    constructor
    · intro n
      exact ((Ahd.tot h).resolve_left fun z => n (this.mpr z))
    · intro a z
      exact a.asym (this.mp z)
theorem Meet.min {b : Bool} {ks : List Int} {x y : Nat × Nat} {es : List Ent} {z : Fr} (h : Meet b (some x) (some y) es z) (hT : ∀ e ∈ es, e.c = decide (getE ks e.a < getE ks e.b)) (hne : x.1 ≠ y.1) : (z = some x ∧ Ahb b ks x.1 y.1) ∨ (z = some y ∧ Ahb b ks y.1 x.1) := by
  cases h with
  | m said =>
    have e := hT _ (List.mem_cons_self ..)
    dsimp only at e
    have hg := goes_ahb (b := b) (ks := ks) hne
    rw [← e] at hg
    by_cases c : goes b said x.1 y.1 = true
    · rw [if_pos c]; exact .inl ⟨rfl, hg.mp c⟩
    · rw [if_neg c]
      refine .inr ⟨rfl, ?_⟩
      have n : ¬ Ahb b ks x.1 y.1 := fun z => c (hg.mpr z)
      cases b
      · exact (Ahd.tot hne).resolve_left n
      · exact (Ahd.tot hne).resolve_right n
theorem Tre.min {b : Bool} {ks : List Int} {F : Nat → Fr} {W : Wt} {log : List Ent} {lo hi : Nat} {z : Fr} (h : Tre b F W log lo hi z) (hT : ∀ e ∈ log, e.c = decide (getE ks e.a < getE ks e.b))
    (hd : ∀ i j x y, F i = some x → F j = some y → i ≠ j → x.1 ≠ y.1) : ∀ x, z = some x → ∀ i y, lo ≤ i → i < hi → F i = some y → y = x ∨ Ahb b ks x.1 y.1 := by
  induction h with
  | nil h => intro x e; cases e
  | @one lo h =>
    intro x e i y h1 h2 h3
    rw [show i = lo by omega, e] at h3
    exact .inl (Option.some.inj h3).symm
  | @node lo hi es x y z h hw h1 h2 h3 he i1 i2 =>
    intro u eu i v hi1 hi2 hv
    have hc := cutB_lt h
    cases x with
    | none =>
      have hn := (h1.none.mp rfl)
      have hzy : z = y := by cases h3; rfl
      by_cases q : i < cutB lo hi
      · rw [hn i hi1 q] at hv; cases hv
      · exact i2 u (hzy ▸ eu) i v (by omega) hi2 hv
    | some x =>
      cases y with
      | none =>
        have hn := (h2.none.mp rfl)
        have hzx : z = some x := by cases h3; rfl
        by_cases q : i < cutB lo hi
        · exact i1 u (hzx ▸ eu) i v hi1 q hv
        · rw [hn i (by omega) hi2] at hv; cases hv
      | some y =>
        obtain ⟨a, a1, a2, a3⟩ := h1.from.resolve_left (by simp)
        obtain ⟨c, c1, c2, c3⟩ := h2.from.resolve_left (by simp)
        have hne := hd a c x y a3.symm c3.symm (by omega)
        rcases h3.min (fun e h => hT e (he e h)) hne with ⟨e1, e2⟩ | ⟨e1, e2⟩
        · rw [eu] at e1; cases e1
          by_cases q : i < cutB lo hi
          · exact i1 u rfl i v hi1 q hv
          · rcases i2 y rfl i v (by omega) hi2 hv with w | w
            · subst w; exact .inr e2
            · exact .inr (e2.trans w)
        · rw [eu] at e1; cases e1
          by_cases q : i < cutB lo hi
          · rcases i1 x rfl i v hi1 q hv with w | w
            · subst w; exact .inr e2
            · exact .inr (e2.trans w)
          · exact i2 u rfl i v (by omega) hi2 hv
theorem Pcs.dis {I : Ask} {b : Bool} {P : List (List Nat)} {g : List Nat} (hP : Pcs I P) : ∀ i j x y, frts b P g i = some x → frts b P g j = some y → i ≠ j → x.1 ≠ y.1 := by
  intro i j x y hx hy hij e
  obtain ⟨x1, x2⟩ := x
  obtain ⟨y1, y2⟩ := y
  obtain ⟨_, ps, h1, h2, _⟩ := frts_mem hx
  obtain ⟨_, qs, h3, h4, _⟩ := frts_mem hy
  dsimp only at e
  subst e
  exact hij (flat_uniq hP.nd h1 h3 h2 h4)
/-- how many fronts there are -/
def cntF (F : Nat → Fr) (lo n : Nat) : Nat := ((List.range' lo n).filter fun i => (F i).isSome).length
theorem cntF_add {F : Nat → Fr} {lo m n : Nat} : cntF F lo (m + n) = cntF F lo m + cntF F (lo + m) n := by
  unfold cntF
  rw [← List.range'_append_1, List.filter_append, List.length_append]
theorem Hold.count {b : Bool} {F : Nat → Fr} {lo hi : Nat} {W W' : Wt} {es : List Ent} {z : Fr} (h : Hold b F lo hi W es W' z) : es.length + (if z = none then 0 else 1) = cntF F lo (hi - lo) := by
  induction h with
  | nil => simp [cntF]
  | @one lo W =>
    rw [show lo + 1 - lo = 1 by omega]
    unfold cntF
    rw [List.range'_one]
    cases e : F lo <;> simp [e]
  | @node lo hi W W1 W2 e1 e2 e3 x y z h h1 h2 h3 i1 i2 =>
    have hc := cutB_lt h
    have hf := h3.few.2
    rw [show hi - lo = (cutB lo hi - lo) + (hi - cutB lo hi) by omega, cntF_add, show lo + (cutB lo hi - lo) = cutB lo hi by omega, ← i1, ← i2]
    simp only [List.length_append]
    omega
/-- each ask is of two fronts -/
theorem Hold.ent {b : Bool} {F : Nat → Fr} {lo hi : Nat} {W W' : Wt} {es : List Ent} {z : Fr} (h : Hold b F lo hi W es W' z) : ∀ e ∈ es, ∃ i j x y, lo ≤ i ∧ i < j ∧ j < hi ∧ F i = some x ∧ F j = some y ∧ e.a = max x.1 y.1 ∧ e.b = min x.1 y.1 := by
  induction h with
  | nil => intro e he; cases he
  | one => intro e he; cases he
  | @node lo hi W W1 W2 e1 e2 e3 x y z h h1 h2 h3 i1 i2 =>
    have hc := cutB_lt h
    intro e he
    rcases List.mem_append.mp he with he | he
    · obtain ⟨i, j, x, y, a1, a2, a3, a4⟩ := i1 e he
      exact ⟨i, j, x, y, a1, a2, by omega, a4⟩
    rcases List.mem_append.mp he with he | he
    · obtain ⟨i, j, x, y, a1, a2, a3, a4⟩ := i2 e he
      exact ⟨i, j, x, y, by omega, a2, a3, a4⟩
    · have t1 := (h1.tre (log := e1) fun _ h => h).from
      have t2 := (h2.tre (log := e2) fun _ h => h).from
      cases h3 with
      | l => cases he
      | r => cases he
      | @m x y said =>
        rw [List.mem_singleton] at he
        subst he
        obtain ⟨i, a1, a2, a3⟩ := t1.resolve_left (by simp)
        obtain ⟨j, c1, c2, c3⟩ := t2.resolve_left (by simp)
        exact ⟨i, j, x, y, a1, by omega, c2, a3.symm, c3.symm, rfl, rfl⟩
theorem frts0 {P : List (List Nat)} {i m : Nat} : frts false P (List.replicate m 0) i = ((P.getD i []).head?).map fun p => (p, i) := by
  unfold frts frt
  rw [rep_get, if_neg (by decide), List.head?_eq_getElem?]
theorem cntF_head {P : List (List Nat)} {m : Nat} : cntF (frts false P (List.replicate m 0)) 0 P.length = (P.filterMap List.head?).length := by
  have key : ∀ (Q : List (List Nat)) (F : Nat → Fr) (lo : Nat), (∀ i, i < Q.length → (F (lo + i)).isSome = (Q.getD i []).head?.isSome) → cntF F lo Q.length = (Q.filterMap List.head?).length := by
    intro Q
    induction Q with
    | nil => intro F lo h; simp [cntF]
    | cons q Q ih =>
      intro F lo h
      have h0 := h 0 (by simp)
      rw [List.length_cons, Nat.add_comm, cntF_add, ih F (lo + 1) fun i hi => by have := h (i + 1) (by simp; omega); rw [show lo + 1 + i = lo + (i + 1) by omega, this]; simp]
      unfold cntF
      rw [List.range'_one]
      rw [Nat.add_zero] at h0
      simp only [List.getD_cons_zero] at h0
      cases e : q.head? with
      | none => rw [e] at h0; simp [h0, List.filterMap_cons, e]
      | some p => rw [e] at h0; simp [h0, List.filterMap_cons, e]; omega
  exact key P _ 0 fun i hi => by rw [Nat.zero_add, frts0, Option.isSome_map]
theorem heads_mem {P : List (List Nat)} {p : Nat} : p ∈ P.filterMap List.head? ↔ ∃ i, (P.getD i []).head? = some p := by
  rw [List.mem_filterMap]
  constructor
  · rintro ⟨ps, h1, h2⟩
    obtain ⟨i, hi⟩ := List.mem_iff_getElem?.mp h1
    exact ⟨i, by rw [List.getD_eq_getElem?_getD, hi]; exact h2⟩
  · rintro ⟨i, h⟩
    rw [List.getD_eq_getElem?_getD] at h
    cases e : P[i]? with
    | none => rw [e] at h; cases h
    | some ps => rw [e] at h; exact ⟨ps, List.mem_of_getElem? e, h⟩
theorem Hold.zero {b : Bool} {F : Nat → Fr} {lo hi : Nat} {W W' : Wt} {es : List Ent} {z : Fr} (h : Hold b F lo hi W es W' z) (hz : z = none) : es.length = 0 := by
  have hc := h.count
  have hn := (h.tre (log := es) fun _ h => h).none.mp hz
  have hl := h.le
  have : cntF F lo (hi - lo) = 0 := by
    unfold cntF
    rw [List.length_eq_zero_iff, List.filter_eq_nil_iff]
    intro i hi
    rw [List.mem_range'_1] at hi
    rw [hn i hi.1 (by omega)]
    simp
  rw [if_pos hz] at hc
  omega
/-! ### what is left of the pieces, and what was taken -/
def remi (b : Bool) (P : List (List Nat)) (g : List Nat) (i : Nat) : List Nat := (if b = true then (P.getD i []).reverse else P.getD i []).drop (g.getD i 0)
def rems (b : Bool) (P : List (List Nat)) (g : List Nat) : List (List Nat) := (List.range P.length).map (remi b P g)
theorem rems_len {b : Bool} {P : List (List Nat)} {g : List Nat} : (rems b P g).length = P.length := by simp [rems]
theorem rems_at {b : Bool} {P : List (List Nat)} {g : List Nat} {i : Nat} (h : i < P.length) : (rems b P g)[i]? = some (remi b P g i) := by simp [rems, h]
theorem rems_zero {P : List (List Nat)} : rems false P (List.replicate P.length 0) = P := by
  apply List.ext_getElem?
  intro i
  by_cases h : i < P.length
  · rw [rems_at h]
    unfold remi
    rw [rep_get, if_neg (by decide), List.drop_zero, List.getD_eq_getElem?_getD, List.getElem?_eq_getElem h]
    rfl
  · rw [List.getElem?_eq_none (by rw [rems_len]; omega), List.getElem?_eq_none (by omega)]
theorem frts_head {b : Bool} {P : List (List Nat)} {g : List Nat} {i : Nat} : frts b P g i = ((remi b P g i).head?).map fun p => (p, i) := by
  unfold frts frt remi
  rw [List.head?_drop]
theorem remi_len {b : Bool} {P : List (List Nat)} {g : List Nat} {i : Nat} : (remi b P g i).length = (P.getD i []).length - g.getD i 0 := by
  unfold remi
  rw [List.length_drop]
  cases b <;> simp
theorem rems_sum {b : Bool} {P : List (List Nat)} {g : List Nat} (hl : g.length = P.length) (h : ∀ i, g.getD i 0 ≤ (P.getD i []).length) : ((rems b P g).map List.length).sum + g.sum = (P.map List.length).sum := by
  have e : (rems b P g).map List.length = (List.range P.length).map fun i => (P.getD i []).length - g.getD i 0 := by
    unfold rems
    rw [List.map_map]
    exact List.map_congr_left fun i _ => remi_len
  rw [e]
  clear e
  induction P generalizing g with
  | nil => cases g with
    | nil => rfl
    | cons x g => simp at hl
  | cons ps P ih =>
    cases g with
    | nil => simp at hl
    | cons x g =>
      have h0 := h 0
      have := ih (g := g) (by simpa using hl) fun i => by have := h (i + 1); simpa using this
      rw [List.length_cons, List.range_succ_eq_map, List.map_cons, List.map_map, List.sum_cons, List.sum_cons, List.map_cons, List.sum_cons]
      simp only [List.getD_cons_zero] at h0 ⊢
      have e2 : ((fun i => ((ps :: P).getD i []).length - (x :: g).getD i 0) ∘ Nat.succ) = fun i => (P.getD i []).length - g.getD i 0 := by
        funext i; simp
      rw [e2]
      omega
theorem flat_pop {P : List (List Nat)} {i x : Nat} {t : List Nat} (h : P[i]? = some (x :: t)) : P.flatten.Perm (x :: (P.set i t).flatten) := by
  induction P generalizing i with
  | nil => cases h
  | cons a P ih =>
    cases i with
    | zero => cases h; exact List.Perm.refl _
    | succ i =>
      rw [List.getElem?_cons_succ] at h
      simp only [List.set_cons_succ, List.flatten_cons]
      exact (List.Perm.append_left a (ih h)).trans List.perm_middle
theorem remi_set {b : Bool} {P : List (List Nat)} {g : List Nat} {n i : Nat} (hn : n < g.length) : remi b P (g.set n (g.getD n 0 + 1)) i = if i = n then (remi b P g n).tail else remi b P g i := by
  unfold remi
  rw [getD_set hn]
  by_cases e : i = n
  · subst e; rw [if_pos rfl, if_pos rfl, List.tail_drop]
  · rw [if_neg e, if_neg e]
theorem rems_set {b : Bool} {P : List (List Nat)} {g : List Nat} {n : Nat} (hn : n < g.length) : rems b P (g.set n (g.getD n 0 + 1)) = (rems b P g).set n (remi b P g n).tail := by
  apply List.ext_getElem?
  intro i
  by_cases h : i < P.length
  · rw [rems_at h, remi_set hn]
    by_cases e : i = n
    · subst e; rw [if_pos rfl, List.getElem?_set_self (by rw [rems_len]; exact h)]
    · rw [if_neg e, List.getElem?_set_ne (fun z => e z.symm), rems_at h]
  · rw [List.getElem?_eq_none (by rw [rems_len]; omega), List.getElem?_eq_none (by rw [List.length_set, rems_len]; omega)]
theorem remi_pw {b : Bool} {ks : List Int} {P : List (List Nat)} {g : List Nat} (h : ∀ ps ∈ P, ps.Pairwise (Ahd ks)) (i : Nat) : (remi b P g i).Pairwise (Ahb b ks) := by
  unfold remi
  refine List.Pairwise.sublist (List.drop_sublist _ _) ?_
  have hp : (P.getD i []).Pairwise (Ahd ks) := by
    rw [List.getD_eq_getElem?_getD]
    cases e : P[i]? with
    | none => exact .nil
    | some ps => exact h ps (List.mem_of_getElem? e)
  cases b
  · rw [if_neg (by decide)]; exact hp
  · rw [if_pos rfl]; exact List.pairwise_reverse.mpr hp
/-- what was taken so far -/
structure Tkn (b : Bool) (ks : List Int) (P : List (List Nat)) (g : List Nat) (ord : List Nat) : Prop where
  pw : ord.Pairwise (Ahb b ks)
  bef : ∀ p ∈ ord, ∀ qs ∈ rems b P g, ∀ q ∈ qs, Ahb b ks p q
  perm : (ord ++ (rems b P g).flatten).Perm (rems b P (List.replicate P.length 0)).flatten
theorem Tkn.zero {b : Bool} {ks : List Int} {P : List (List Nat)} : Tkn b ks P (List.replicate P.length 0) [] := ⟨.nil, by simp, .refl _⟩
/-- the top is foremost of all that is left -/
theorem Tre.fore {b : Bool} {ks : List Int} {P : List (List Nat)} {g : List Nat} {W : Wt} {log : List Ent} {x : Nat × Nat} (h : Tre b (frts b P g) W log 0 P.length (some x)) (hT : ∀ e ∈ log, e.c = decide (getE ks e.a < getE ks e.b)) (hd : ∀ i j x y, frts b P g i = some x → frts b P g j = some y → i ≠ j → x.1 ≠ y.1) (hs : ∀ ps ∈ P, ps.Pairwise (Ahd ks)) :
    x.2 < P.length ∧ ∃ t, remi b P g x.2 = x.1 :: t ∧ (∀ q ∈ t, Ahb b ks x.1 q) ∧ ∀ i, i < P.length → i ≠ x.2 → ∀ q ∈ remi b P g i, Ahb b ks x.1 q := by
  obtain ⟨n, _, hn, hf⟩ := h.from.resolve_left (by simp)
  rw [frts_head] at hf
  obtain ⟨p, hp, e⟩ := Option.map_eq_some_iff.mp hf.symm
  subst e
  obtain ⟨t, ht⟩ : ∃ t, remi b P g n = p :: t := by
    cases e : remi b P g n with
    | nil => rw [e] at hp; cases hp
    | cons a t => rw [e] at hp; cases hp; exact ⟨t, rfl⟩
  have hpw := remi_pw (b := b) (g := g) hs n
  rw [ht, List.pairwise_cons] at hpw
  refine ⟨hn, t, ht, hpw.1, fun i hi hne q hq => ?_⟩
  cases e : remi b P g i with
  | nil => rw [e] at hq; cases hq
  | cons a t2 =>
    have hfi : frts b P g i = some (a, i) := by rw [frts_head, e]; rfl
    have hfn : frts b P g n = some (p, n) := by rw [frts_head, ht]; rfl
    have hpw2 := remi_pw (b := b) (g := g) hs i
    rw [e, List.pairwise_cons] at hpw2
    have h1 : Ahb b ks p a := (h.min hT hd (p, n) rfl i (a, i) (Nat.zero_le _) hi hfi).resolve_left fun z => hne (by cases z; rfl)
    rw [e] at hq
    rcases List.mem_cons.mp hq with rfl | hq
    · exact h1
    · exact h1.trans (hpw2.1 q hq)
theorem Tkn.take {b : Bool} {ks : List Int} {P : List (List Nat)} {g : List Nat} {ord t : List Nat} {x : Nat × Nat} (h : Tkn b ks P g ord) (hg : g.length = P.length) (hn : x.2 < P.length) (ht : remi b P g x.2 = x.1 :: t) (h1 : ∀ q ∈ t, Ahb b ks x.1 q) (h2 : ∀ i, i < P.length → i ≠ x.2 → ∀ q ∈ remi b P g i, Ahb b ks x.1 q) :
    Tkn b ks P (g.set x.2 (g.getD x.2 0 + 1)) (ord ++ [x.1]) := by
  have hx : (rems b P g)[x.2]? = some (x.1 :: t) := by rw [rems_at hn, ht]
  have es : rems b P (g.set x.2 (g.getD x.2 0 + 1)) = (rems b P g).set x.2 t := by rw [rems_set (by omega), ht]; rfl
  have sub : ∀ qs ∈ rems b P (g.set x.2 (g.getD x.2 0 + 1)), ∀ q ∈ qs, (∃ rs ∈ rems b P g, q ∈ rs) ∧ Ahb b ks x.1 q := fun qs hqs q hq => by
    rw [es] at hqs
    obtain ⟨i, hi⟩ := List.mem_iff_getElem?.mp hqs
    have hil : i < P.length := by have := (List.getElem?_eq_some_iff.mp hi).1; rwa [List.length_set, rems_len] at this
    by_cases e : i = x.2
    · subst e
      rw [List.getElem?_set_self (by rw [rems_len]; exact hn)] at hi
      cases hi
      exact ⟨⟨_, List.mem_of_getElem? hx, by simp [hq]⟩, h1 q hq⟩
    · rw [List.getElem?_set_ne (fun z => e z.symm), rems_at hil] at hi
      cases hi
      exact ⟨⟨_, List.mem_of_getElem? (rems_at hil), hq⟩, h2 i hil e q hq⟩
  refine ⟨List.pairwise_append.mpr ⟨h.pw, List.pairwise_singleton _ _, fun a ha c hc => ?_⟩, fun p hp qs hqs q hq => ?_, ?_⟩
  · rw [List.mem_singleton] at hc
    subst hc
    exact h.bef a ha _ (List.mem_of_getElem? hx) _ (by simp)
  · obtain ⟨⟨rs, hr1, hr2⟩, hA⟩ := sub qs hqs q hq
    rcases List.mem_append.mp hp with hp | hp
    · exact h.bef p hp rs hr1 q hr2
    · rw [List.mem_singleton] at hp; subst hp; exact hA
  · rw [es, List.append_assoc, List.singleton_append]
    exact (List.Perm.append_left ord (flat_pop hx).symm).trans h.perm
/-- there is a top while something is left -/
theorem Tre.left0 {b : Bool} {P : List (List Nat)} {g : List Nat} {W : Wt} {log : List Ent} {z : Fr} (h : Tre b (frts b P g) W log 0 P.length z) (hl : g.length = P.length) (hg : ∀ i, g.getD i 0 ≤ (P.getD i []).length) : z = Option.none ↔ ((rems b P g).map List.length).sum = 0 := by
  rw [h.none]
  have key : ∀ L : List (List Nat), (L.map List.length).sum = 0 ↔ ∀ ps ∈ L, ps = [] := fun L => by
    induction L with
    | nil => simp
    | cons ps L ih => simp only [List.map_cons, List.sum_cons, Nat.add_eq_zero_iff, ih, List.length_eq_zero_iff, List.forall_mem_cons]
  rw [key]
  constructor
  · intro h1 ps hps
    obtain ⟨i, hi, e⟩ := List.mem_map.mp hps
    have := h1 i (Nat.zero_le _) (List.mem_range.mp hi)
    rw [frts_head, Option.map_eq_none_iff, List.head?_eq_none_iff] at this
    rw [← e, this]
  · intro h1 i _ hi
    rw [frts_head, h1 _ (List.mem_of_getElem? (rems_at hi))]
    rfl
theorem TakeR.ent {b : Bool} {F : Nat → Fr} {W W' : Wt} {n : Nat} {x z w : Fr} {lo hi : Nat} {es log : List Ent} (h : TakeR b W n x lo hi es W' z) (t : Tre b F W log lo hi w) : ∀ e ∈ es, ∃ i j u v, i ≠ j ∧ i < hi ∧ j < hi ∧ (if i = n then x else F i) = some u ∧ (if j = n then x else F j) = some v ∧ e.a = max u.1 v.1 ∧ e.b = min u.1 v.1 := by
  induction h generalizing w with
  | one => intro e he; cases he
  | @left lo hi e1 e2 W1 h y z hl hn k hy hm ih =>
    intro e he
    have hc := cutB_lt hl
    have hk := k.in
    cases t with
    | nil => omega
    | one => omega
    | @node _ _ es' x' y' z' _ hw h1 h2 h3 he' =>
      rcases List.mem_append.mp he with he | he
      · obtain ⟨i, j, u, v, a1, a2, a3, a4⟩ := ih h1 e he
        exact ⟨i, j, u, v, a1, by omega, by omega, a4⟩
      · have t1 := (k.tre0 h1).from
        have ey : y' = y := by have := h2.at; rw [hy] at this; exact (Option.some.inj this).symm
        subst ey
        have t2 := h2.from
        cases hm with
        | l => cases he
        | r => cases he
        | @m u v said =>
          rw [List.mem_singleton] at he
          subst he
          obtain ⟨i, a1, a2, a3⟩ := t1.resolve_left (by simp)
          obtain ⟨j, c1, c2, c3⟩ := t2.resolve_left (by simp)
          exact ⟨i, j, u, v, by omega, by omega, c2, a3.symm, by rw [if_neg (by omega)]; exact c3.symm, rfl, rfl⟩
  | @right lo hi e1 e2 W1 h y z hl hn k hy hm ih =>
    intro e he
    have hc := cutB_lt hl
    have hk := k.in
    cases t with
    | nil => omega
    | one => omega
    | @node _ _ es' x' y' z' _ hw h1 h2 h3 he' =>
      rcases List.mem_append.mp he with he | he
      · obtain ⟨i, j, u, v, a1, a2, a3, a4⟩ := ih h2 e he
        exact ⟨i, j, u, v, a1, a2, a3, a4⟩
      · have t1 := (k.tre0 h2).from
        have ey : x' = y := by have := h1.at; rw [hy] at this; exact (Option.some.inj this).symm
        subst ey
        have t2 := h1.from
        cases hm with
        | l => cases he
        | r => cases he
        | @m u v said =>
          rw [List.mem_singleton] at he
          subst he
          obtain ⟨i, a1, a2, a3⟩ := t1.resolve_left (by simp)
          obtain ⟨j, c1, c2, c3⟩ := t2.resolve_left (by simp)
          exact ⟨j, i, u, v, by omega, by omega, a2, by rw [if_neg (by omega)]; exact c3.symm, a3.symm, rfl, rfl⟩
theorem TakeR.deep {b : Bool} {W W' : Wt} {n : Nat} {x z : Fr} {lo hi : Nat} {es : List Ent} (h : TakeR b W n x lo hi es W' z) : ∀ d, hi - lo ≤ 2 ^ d → es.length ≤ d := by
  induction h with
  | one => intro d _; exact Nat.zero_le _
  | @left lo hi e1 e2 W1 h y z hl hn k hy hm ih =>
    intro d hd
    have hf := hm.few.1
    cases d with
    | zero => simp at hd; omega
    | succ d =>
      rw [Nat.pow_succ] at hd
      have := ih d (by unfold cutB; omega)
      rw [List.length_append]; omega
  | @right lo hi e1 e2 W1 h y z hl hn k hy hm ih =>
    intro d hd
    have hf := hm.few.1
    cases d with
    | zero => simp at hd; omega
    | succ d =>
      rw [Nat.pow_succ] at hd
      have := ih d (by unfold cutB; omega)
      rw [List.length_append]; omega
/-! ### takes, one behind the other -/
inductive Takes (b : Bool) (P : List (List Nat)) : List Nat → Wt → List Ent → List Nat → List Nat → Wt → Prop
  | nil {g : List Nat} {W : Wt} : Takes b P g W [] [] g W
  | cons {g g' : List Nat} {W W1 W' : Wt} {e1 es : List Ent} {ord : List Nat} {x : Nat × Nat} {z : Fr} (h : W 0 P.length = some (some x)) (ht : TakeR b W x.2 (frt b (P.getD x.2 []) (g.getD x.2 0 + 1) x.2) 0 P.length e1 W1 z) (k : Takes b P (g.set x.2 (g.getD x.2 0 + 1)) W1 es ord g' W') : Takes b P g W (e1 ++ es) (x.1 :: ord) g' W'
theorem Takes.snoc {b : Bool} {P : List (List Nat)} {g g' : List Nat} {W W' W1 : Wt} {es e1 : List Ent} {ord : List Nat} {x : Nat × Nat} {z : Fr} (h : Takes b P g W es ord g' W') (hx : W' 0 P.length = some (some x)) (ht : TakeR b W' x.2 (frt b (P.getD x.2 []) (g'.getD x.2 0 + 1) x.2) 0 P.length e1 W1 z) : Takes b P g W (es ++ e1) (ord ++ [x.1]) (g'.set x.2 (g'.getD x.2 0 + 1)) W1 := by
  induction h with
  | nil => have := Takes.cons (es := []) (ord := []) hx ht .nil; rw [List.append_nil] at this; exact this
  | cons h' ht' k ih => rw [List.append_assoc]; exact .cons h' ht' (ih hx ht)
theorem Meet.uniq {b : Bool} {f : Nat → Nat → Bool} {x y z z' : Fr} {es es' : List Ent} (h : Meet b x y es z) (h' : Meet b x y es' z') (hT : ∀ e ∈ es, e.c = f e.a e.b) (hT' : ∀ e ∈ es', e.c = f e.a e.b) : es = es' ∧ z = z' := by
  cases h with
  | l => cases h' with
    | l => exact ⟨rfl, rfl⟩
  | r => cases h' with
    | r => exact ⟨rfl, rfl⟩
  | m said => cases h' with
    | m said' =>
      have e1 := hT _ (List.mem_singleton.mpr rfl)
      have e2 := hT' _ (List.mem_singleton.mpr rfl)
      dsimp only at e1 e2
      subst e1
      subst e2
      exact ⟨rfl, rfl⟩
theorem TakeR.uniq {b : Bool} {f : Nat → Nat → Bool} {W W' W2 : Wt} {n : Nat} {x z z2 : Fr} {lo hi : Nat} {es es2 : List Ent} (h : TakeR b W n x lo hi es W' z) (h' : TakeR b W n x lo hi es2 W2 z2) (hT : ∀ e ∈ es, e.c = f e.a e.b) (hT' : ∀ e ∈ es2, e.c = f e.a e.b) : es = es2 ∧ W' = W2 ∧ z = z2 := by
  induction h generalizing es2 W2 z2 with
  | one => cases h' with
    | one => exact ⟨rfl, rfl, rfl⟩
    | left hl => omega
    | right hl => omega
  | @left lo hi e1 e2 W1 h y z hl hn k hy hm ih =>
    cases h' with
    | one => omega
    | @left _ _ e1' e2' W1' h' y' z' hl' hn' k' hy' hm' =>
      obtain ⟨rfl, rfl, rfl⟩ := ih k' (fun e he => hT e (List.mem_append_left _ he)) fun e he => hT' e (List.mem_append_left _ he)
      rw [hy] at hy'; cases hy'
      obtain ⟨rfl, rfl⟩ := hm.uniq hm' (fun e he => hT e (List.mem_append_right _ he)) fun e he => hT' e (List.mem_append_right _ he)
      exact ⟨rfl, rfl, rfl⟩
    | right hl' hn' => exact (hn' hn).elim
  | @right lo hi e1 e2 W1 h y z hl hn k hy hm ih =>
    cases h' with
    | one => omega
    | left hl' hn' => exact (hn hn').elim
    | @right _ _ e1' e2' W1' h' y' z' hl' hn' k' hy' hm' =>
      obtain ⟨rfl, rfl, rfl⟩ := ih k' (fun e he => hT e (List.mem_append_left _ he)) fun e he => hT' e (List.mem_append_left _ he)
      rw [hy] at hy'; cases hy'
      obtain ⟨rfl, rfl⟩ := hm.uniq hm' (fun e he => hT e (List.mem_append_right _ he)) fun e he => hT' e (List.mem_append_right _ he)
      exact ⟨rfl, rfl, rfl⟩
theorem Hold.uniq {b : Bool} {f : Nat → Nat → Bool} {F : Nat → Fr} {W W' W2 : Wt} {z z2 : Fr} {lo hi : Nat} {es es2 : List Ent} (h : Hold b F lo hi W es W' z) (h' : Hold b F lo hi W es2 W2 z2) (hT : ∀ e ∈ es, e.c = f e.a e.b) (hT' : ∀ e ∈ es2, e.c = f e.a e.b) : es = es2 ∧ W' = W2 ∧ z = z2 := by
  induction h generalizing es2 W2 z2 with
  | nil => cases h' with
    | nil => exact ⟨rfl, rfl, rfl⟩
    | node h => omega
  | one => cases h' with
    | one => exact ⟨rfl, rfl, rfl⟩
    | node h => omega
  | @node lo hi W W1 W2' e1 e2 e3 x y z h h1 h2 h3 i1 i2 =>
    cases h' with
    | nil => omega
    | one => omega
    | node h' h1' h2' h3' =>
      obtain ⟨rfl, rfl, rfl⟩ := i1 h1' (fun e he => hT e (by simp [he])) fun e he => hT' e (by simp [he])
      obtain ⟨rfl, rfl, rfl⟩ := i2 h2' (fun e he => hT e (by simp [he])) fun e he => hT' e (by simp [he])
      obtain ⟨rfl, rfl⟩ := h3.uniq h3' (fun e he => hT e (by simp [he])) fun e he => hT' e (by simp [he])
      exact ⟨rfl, rfl, rfl⟩
theorem Takes.uniq {b : Bool} {f : Nat → Nat → Bool} {P : List (List Nat)} {g g' g2 : List Nat} {W W' W2 : Wt} {es es2 : List Ent} {ord ord2 : List Nat} (h : Takes b P g W es ord g' W') (h' : Takes b P g W es2 ord2 g2 W2) (hl : ord.length = ord2.length) (hT : ∀ e ∈ es, e.c = f e.a e.b) (hT' : ∀ e ∈ es2, e.c = f e.a e.b) : es = es2 ∧ ord = ord2 := by
  induction h generalizing es2 ord2 g2 W2 with
  | nil => cases h' with
    | nil => exact ⟨rfl, rfl⟩
    | cons => simp at hl
  | cons hx ht k ih => cases h' with
    | nil => simp at hl
    | cons hx' ht' k' =>
      rw [hx] at hx'
      cases hx'
      obtain ⟨rfl, rfl, _⟩ := ht.uniq ht' (fun e he => hT e (List.mem_append_left _ he)) fun e he => hT' e (List.mem_append_left _ he)
      obtain ⟨rfl, rfl⟩ := ih k' (by simpa using hl) (fun e he => hT e (List.mem_append_right _ he)) fun e he => hT' e (List.mem_append_right _ he)
      exact ⟨rfl, rfl⟩
theorem Takes.few {b : Bool} {P : List (List Nat)} {g g' : List Nat} {W W' : Wt} {es : List Ent} {ord : List Nat} (h : Takes b P g W es ord g' W') {d : Nat} (hd : ∀ (n : Nat) (x z : Fr) (W W' : Wt) (es : List Ent), TakeR b W n x 0 P.length es W' z → es.length ≤ d) : es.length ≤ ord.length * d := by
  induction h with
  | nil => simp
  | cons hx ht k ih => have := hd _ _ _ _ _ _ ht; rw [List.length_append, List.length_cons, Nat.add_mul]; omega
/-- the state before a take, and behind it -/
structure TSt (b : Bool) (P : List (List Nat)) (g : List Nat) (W : Wt) (log : List Ent) : Prop where
  gl : g.length = P.length
  gle : ∀ i, g.getD i 0 ≤ (P.getD i []).length
  tre : ∃ z, Tre b (frts b P g) W log 0 P.length z
theorem TSt.take {b : Bool} {P : List (List Nat)} {g : List Nat} {W W1 : Wt} {log e1 : List Ent} {x : Nat × Nat} {z : Fr} (h : TSt b P g W log) (hx : W 0 P.length = some (some x)) (ht : TakeR b W x.2 (frt b (P.getD x.2 []) (g.getD x.2 0 + 1) x.2) 0 P.length e1 W1 z) : TSt b P (g.set x.2 (g.getD x.2 0 + 1)) W1 (log ++ e1) ∧ x.2 < P.length := by
  obtain ⟨z0, t⟩ := h.tre
  obtain rfl : z0 = some x := by have := t.at; rw [hx] at this; exact (Option.some.inj this).symm
  obtain ⟨i, _, hi, hf⟩ := t.from.resolve_left (by simp)
  obtain ⟨x1, n⟩ := x
  obtain ⟨rfl, ps, hps, hpm, hgl⟩ := frts_mem hf.symm
  have hgn : n < g.length := by rw [h.gl]; exact hi
  have hpd : P.getD n [] = ps := by rw [List.getD_eq_getElem?_getD, hps]; rfl
  refine ⟨⟨by rw [List.length_set]; exact h.gl, fun i => ?_, z, ?_⟩, hi⟩
  · dsimp only
    rw [getD_set hgn]
    split
    · rename_i e; subst e; rw [hpd]; exact hgl
    · exact h.gle i
  · have := ht.tre0 t
    dsimp only at this ⊢
    rw [frts_set hgn]
    exact this
theorem Takes.tkn {b : Bool} {ks : List Int} {P : List (List Nat)} {g g' : List Nat} {W W' : Wt} {es : List Ent} {ord : List Nat} (h : Takes b P g W es ord g' W') {log : List Ent} {ord0 : List Nat} (hs : TSt b P g W log) (hP : P.flatten.Nodup) (hpw : ∀ ps ∈ P, ps.Pairwise (Ahd ks)) (hT : ∀ e ∈ log, e.c = decide (getE ks e.a < getE ks e.b)) (hT' : ∀ e ∈ es, e.c = decide (getE ks e.a < getE ks e.b)) (hk : Tkn b ks P g ord0) :
    TSt b P g' W' (log ++ es) ∧ Tkn b ks P g' (ord0 ++ ord) := by
  induction h generalizing log ord0 with
  | nil => rw [List.append_nil, List.append_nil]; exact ⟨hs, hk⟩
  | @cons g g' W W1 W' e1 es ord x z hx ht k ih =>
    obtain ⟨z0, t⟩ := hs.tre
    obtain rfl : z0 = some x := by have := t.at; rw [hx] at this; exact (Option.some.inj this).symm
    have hdis : ∀ i j x y, frts b P g i = some x → frts b P g j = some y → i ≠ j → x.1 ≠ y.1 := by
      intro i j x y hx hy hij e
      obtain ⟨x1, x2⟩ := x
      obtain ⟨y1, y2⟩ := y
      obtain ⟨_, ps, h1, h2, _⟩ := frts_mem hx
      obtain ⟨_, qs, h3, h4, _⟩ := frts_mem hy
      dsimp only at e
      subst e
      exact hij (flat_uniq hP h1 h3 h2 h4)
    obtain ⟨hn, t1, ht1, h1, h2⟩ := t.fore hT hdis hpw
    obtain ⟨hs2, _⟩ := hs.take hx ht
    have := ih hs2 (fun e he => by rcases List.mem_append.mp he with he | he; exact hT e he; exact hT' e (List.mem_append_left _ he)) (fun e he => hT' e (List.mem_append_right _ he)) (hk.take hs.gl hn ht1 h1 h2)
    rw [List.append_assoc, List.append_assoc] at this
    exact this
/-- the top and the foremost of the other pieces were asked about -/
theorem Tre.met {b : Bool} {ks : List Int} {F : Nat → Fr} {W : Wt} {log : List Ent} {lo hi : Nat} {z : Fr} (h : Tre b F W log lo hi z) (hT : ∀ e ∈ log, e.c = decide (getE ks e.a < getE ks e.b)) (hd : ∀ i j x y, F i = some x → F j = some y → i ≠ j → x.1 ≠ y.1) (hF : ∀ i x, F i = some x → x.2 = i) :
    ∀ x, z = some x → ∀ m v, lo ≤ m → m < hi → m ≠ x.2 → F m = some v → (∀ j u, j ≠ x.2 → lo ≤ j → j < hi → F j = some u → u = v ∨ Ahb b ks v.1 u.1) → ∃ e ∈ log, e.a = max x.1 v.1 ∧ e.b = Min.min x.1 v.1 := by
  induction h with
  | nil h => intro x e; cases e
  | @one lo h =>
    intro x e m v h1 h2 h3 _ _
    have := hF lo x e
    omega
  | @node lo hi es x y z h hw h1 h2 h3 he i1 i2 =>
    intro u eu m v hm1 hm2 hmn hv hmin
    have hc := cutB_lt h
    have fin : ∀ (p q : Nat × Nat), Meet b (some p) (some q) es z → ∃ e ∈ log, e.a = max p.1 q.1 ∧ e.b = Min.min p.1 q.1 := fun p q hm => by
      cases hm with
      | m said => exact ⟨_, he _ (List.mem_singleton.mpr rfl), rfl, rfl⟩
    have t1 := h1.from
    have t2 := h2.from
    -- the top is from the one side
    rcases h3.or with e | e
    · subst e
      subst eu
      obtain ⟨n, n1, n2, n3⟩ := t1.resolve_left (by simp)
      have hn := hF n u n3.symm
      by_cases q : m < cutB lo hi
      · exact i1 u rfl m v hm1 q hmn hv fun j w a1 a2 a3 a4 => hmin j w a1 a2 (by omega) a4
      · cases y with
        | none => rw [h2.none.mp rfl m (by omega) hm2] at hv; cases hv
        | some y =>
          obtain ⟨j, j1, j2, j3⟩ := t2.resolve_left (by simp)
          have e1 := h2.min hT hd y rfl m v (by omega) hm2 hv
          have e2 := hmin j y (by omega) (by omega) j2 j3.symm
          have : y = v := by
            rcases e1 with e1 | e1
            · exact e1.symm
            · rcases e2 with e2 | e2
              · exact e2
              · exact (Ahb.asym e1 e2).elim
          subst this
          exact fin u y h3
    · subst e
      subst eu
      obtain ⟨n, n1, n2, n3⟩ := t2.resolve_left (by simp)
      have hn := hF n u n3.symm
      by_cases q : cutB lo hi ≤ m
      · exact i2 u rfl m v q hm2 hmn hv fun j w a1 a2 a3 a4 => hmin j w a1 (by omega) a3 a4
      · cases x with
        | none => rw [h1.none.mp rfl m hm1 (by omega)] at hv; cases hv
        | some x =>
          obtain ⟨j, j1, j2, j3⟩ := t1.resolve_left (by simp)
          have e1 := h1.min hT hd x rfl m v hm1 (by omega) hv
          have e2 := hmin j x (by omega) j1 (by omega) j3.symm
          have : x = v := by
            rcases e1 with e1 | e1
            · exact e1.symm
            · rcases e2 with e2 | e2
              · exact e2
              · exact (Ahb.asym e1 e2).elim
          subst this
          obtain ⟨e, a1, a2, a3⟩ := fin x u h3
          exact ⟨e, a1, by rw [a2]; omega, by rw [a3]; omega⟩
/-- neighbours of unlike pieces were asked about -/
def NbA (P : List (List Nat)) (log : List Ent) (ord : List Nat) : Prop := ∀ (i u v a c : Nat), ord[i]? = some u → ord[i + 1]? = some v → u ∈ P.getD a [] → v ∈ P.getD c [] → a ≠ c → ∃ e ∈ log, e.a = max u v ∧ e.b = min u v
theorem Takes.met {b : Bool} {ks : List Int} {P : List (List Nat)} {g g' : List Nat} {W W' : Wt} {es : List Ent} {ord : List Nat} (h : Takes b P g W es ord g' W') {log : List Ent} (hs : TSt b P g W log) (hP : P.flatten.Nodup) (hT : ∀ e ∈ log, e.c = decide (getE ks e.a < getE ks e.b)) (hT' : ∀ e ∈ es, e.c = decide (getE ks e.a < getE ks e.b)) : NbA P (log ++ es) ord := by
  induction h generalizing log with
  | nil => intro i u v a c hu; simp at hu
  | @cons g g' W W1 W' e1 es ord x z hx ht k ih =>
    obtain ⟨z0, t⟩ := hs.tre
    obtain rfl : z0 = some x := by have := t.at; rw [hx] at this; exact (Option.some.inj this).symm
    have hdis : ∀ g i j x y, frts b P g i = some x → frts b P g j = some y → i ≠ j → x.1 ≠ y.1 := by
      intro g i j x y hx hy hij e
      obtain ⟨x1, x2⟩ := x
      obtain ⟨y1, y2⟩ := y
      obtain ⟨_, ps, h1, h2, _⟩ := frts_mem hx
      obtain ⟨_, qs, h3, h4, _⟩ := frts_mem hy
      dsimp only at e
      subst e
      exact hij (flat_uniq hP h1 h3 h2 h4)
    have hT2 : ∀ e ∈ log ++ e1, e.c = decide (getE ks e.a < getE ks e.b) := fun e he => by rcases List.mem_append.mp he with he | he; exact hT e he; exact hT' e (List.mem_append_left _ he)
    obtain ⟨hs2, hn⟩ := hs.take hx ht
    have rest := ih hs2 hT2 fun e he => hT' e (List.mem_append_right _ he)
    rw [List.append_assoc] at rest
    intro i u v a c hu hv hua hvc hac
    cases i with
    | succ i =>
      rw [List.getElem?_cons_succ] at hu hv
      exact rest i u v a c hu hv hua hvc hac
    | zero =>
      rw [List.getElem?_cons_zero] at hu
      cases hu
      rw [Nat.zero_add, List.getElem?_cons_succ] at hv
      cases k with
      | nil => simp at hv
      | @cons _ _ _ _ _ _ _ _ x' _ hx' ht' k' =>
        rw [List.getElem?_cons_zero] at hv
        cases hv
        obtain ⟨z1, t1⟩ := hs2.tre
        obtain rfl : z1 = some x' := by have := t1.at; rw [hx'] at this; exact (Option.some.inj this).symm
        obtain ⟨m, _, hm, hfm⟩ := t1.from.resolve_left (by simp)
        obtain ⟨n, _, hn2, hfn⟩ := t.from.resolve_left (by simp)
        obtain ⟨x1, x2⟩ := x
        obtain ⟨y1, y2⟩ := x'
        obtain ⟨rfl, ps, hps, hpm, _⟩ := frts_mem hfn.symm
        obtain ⟨rfl, qs, hqs, hqm, _⟩ := frts_mem hfm.symm
        have pd : ∀ {i p : Nat}, p ∈ P.getD i [] → ∃ ps, P[i]? = some ps ∧ p ∈ ps := fun {i p} hp => by
          rw [List.getD_eq_getElem?_getD] at hp
          cases e : P[i]? with
          | none => rw [e] at hp; cases hp
          | some ps => rw [e] at hp; exact ⟨ps, rfl, hp⟩
        obtain ⟨as, has, hua⟩ := pd hua
        obtain ⟨cs, hcs, hvc⟩ := pd hvc
        have ea := flat_uniq hP hps has hpm hua
        have ec := flat_uniq hP hqs hcs hqm hvc
        have hne : y2 ≠ x2 := by omega
        have hgn : x2 < g.length := by rw [hs.gl]; exact hn2
        have same : ∀ j, j ≠ x2 → frts b P (g.set x2 (g.getD x2 0 + 1)) j = frts b P g j := fun j hj => by rw [frts_set hgn]; exact if_neg hj
        dsimp only at hfm t1 ⊢
        have hfm' : frts b P g y2 = some (y1, y2) := by rw [← same y2 hne]; exact hfm.symm
        have := t.met hT (hdis g) (fun i x h => by obtain ⟨x1, x2⟩ := x; exact (frts_mem h).1) (x1, x2) rfl y2 (y1, y2) (Nat.zero_le _) hm hne hfm' fun j w h1 _ h3 h4 => by
          rw [← same j h1] at h4
          exact t1.min hT2 (hdis _) (y1, y2) rfl j w (Nat.zero_le _) h3 h4
        obtain ⟨e, h1, h2, h3⟩ := this
        exact ⟨e, List.mem_append_left _ h1, h2, h3⟩
theorem Takes.order {ks : List Int} {P : List (List Nat)} {g' : List Nat} {W W' : Wt} {es0 es : List Ent} {ord : List Nat} {z : Fr} (hD : Dl ks P) (hH : Hold false (frts false P (List.replicate P.length 0)) 0 P.length (fun _ _ => none) es0 W z) (h : Takes false P (List.replicate P.length 0) W es ord g' W') (hT : ∀ e ∈ es0 ++ es, e.c = decide (getE ks e.a < getE ks e.b)) (hs : g'.sum = (P.map List.length).sum) :
    ord.Pairwise (Ahd ks) ∧ ord.Perm P.flatten ∧ NbA P (es0 ++ es) ord := by
  have h0 : ∀ e ∈ es0, e.c = decide (getE ks e.a < getE ks e.b) := fun e he => hT e (List.mem_append_left _ he)
  have h1 : ∀ e ∈ es, e.c = decide (getE ks e.a < getE ks e.b) := fun e he => hT e (List.mem_append_right _ he)
  have hS : TSt false P (List.replicate P.length 0) W es0 := ⟨List.length_replicate, fun i => by rw [rep_get]; exact Nat.zero_le _, z, hH.tre fun _ h => h⟩
  obtain ⟨hS2, hk⟩ := h.tkn hS hD.nd hD.pw h0 h1 .zero
  have hrs := rems_sum (b := false) hS2.gl hS2.gle
  have hemp : (rems false P g').flatten = [] := by
    have e0 : (rems false P g').flatten.length = 0 := by rw [List.length_flatten]; omega
    exact List.length_eq_zero_iff.mp e0
  have hperm := hk.perm
  rw [hemp, List.append_nil, List.nil_append, rems_zero] at hperm
  exact ⟨hk.pw, hperm, h.met hS hD.nd h0 h1⟩
/-- each ask of a making and of takes is of a later thing against an earlier one -/
theorem Takes.gt {b : Bool} {P : List (List Nat)} {g g' : List Nat} {W W' : Wt} {es log : List Ent} {ord : List Nat} (h : Takes b P g W es ord g' W') (hs : TSt b P g W log) (hP : P.flatten.Nodup) : ∀ e ∈ es, e.b < e.a := by
  induction h generalizing log with
  | nil => intro e he; cases he
  | @cons g g' W W1 W' e1 es ord x z hx ht k ih =>
    obtain ⟨hs2, hn⟩ := hs.take hx ht
    obtain ⟨z0, t⟩ := hs.tre
    have hgn : x.2 < g.length := by rw [hs.gl]; exact hn
    intro e he
    rcases List.mem_append.mp he with he | he
    · obtain ⟨i, j2, u, v, hij, hi, hj2, hu, hv, ea, eb⟩ := ht.ent t e he
      have hu' : frts b P (g.set x.2 (g.getD x.2 0 + 1)) i = some u := by rw [frts_set hgn]; exact hu
      have hv' : frts b P (g.set x.2 (g.getD x.2 0 + 1)) j2 = some v := by rw [frts_set hgn]; exact hv
      obtain ⟨u1, u2⟩ := u
      obtain ⟨v1, v2⟩ := v
      obtain ⟨_, ps, q1, q2, _⟩ := frts_mem hu'
      obtain ⟨_, qs, q3, q4, _⟩ := frts_mem hv'
      have : u1 ≠ v1 := fun z => hij (by subst z; exact flat_uniq hP q1 q3 q2 q4)
      dsimp only at ea eb
      omega
    · exact ih hs2 e he
theorem Hold.gt {b : Bool} {P : List (List Nat)} {g : List Nat} {lo hi : Nat} {W W' : Wt} {es : List Ent} {z : Fr} (h : Hold b (frts b P g) lo hi W es W' z) (hP : P.flatten.Nodup) : ∀ e ∈ es, e.b < e.a := by
  intro e he
  obtain ⟨i, j, x, y, _, hij, _, hx, hy, ea, eb⟩ := h.ent e he
  obtain ⟨x1, x2⟩ := x
  obtain ⟨y1, y2⟩ := y
  obtain ⟨_, ps, q1, q2, _⟩ := frts_mem hx
  obtain ⟨_, qs, q3, q4, _⟩ := frts_mem hy
  have : x1 ≠ y1 := fun z => by subst z; have := flat_uniq hP q1 q3 q2 q4; omega
  dsimp only at ea eb
  omega
/-! ### the rest of all -/
def mkb (n : Nat) (l : List Nat) : List V := (List.range n).map fun i => V.bl (decide (i ∈ l))
theorem mkb_len {n : Nat} {l : List Nat} : (mkb n l).length = n := by simp [mkb]
theorem mkb_nil {n : Nat} : (List.replicate n [V.bl false]).flatten = mkb n [] := by
  have e : ∀ n : Nat, (List.replicate n [V.bl false]).flatten = List.replicate n (V.bl false) := fun n => by
    induction n with
    | zero => rfl
    | succ n ih => rw [List.replicate_succ, List.flatten_cons, ih]; rfl
  rw [e]
  apply List.ext_getElem
  · simp [mkb]
  · intro i h1 h2; simp [mkb]
theorem mkb_set {n : Nat} {l : List Nat} {p : Nat} : (mkb n l).set p (.bl true) = mkb n (l ++ [p]) := by
  apply List.ext_getElem
  · simp [mkb]
  · intro i h1 h2
    rw [List.getElem_set]
    by_cases h : p = i
    · subst h; simp [mkb]
    · have : i ≠ p := fun z => h z.symm
      simp [mkb, h, this]
theorem mkb_at {n : Nat} {l : List Nat} {p : Nat} (h : p < n) : (mkb n l)[p]? = some (.bl (decide (p ∈ l))) := by simp [mkb, h]
def restF (n : Nat) (l : List Nat) : List Nat := (List.range n).filter fun x => !decide (x ∈ l)
theorem restF_succ {j : Nat} {l : List Nat} : restF (j + 1) l = restF j l ++ (if j ∈ l then [] else [j]) := by
  unfold restF
  rw [List.range_succ, List.filter_append]
  by_cases h : j ∈ l <;> simp [h]
theorem restF_len {n : Nat} {l : List Nat} : (restF n l).length ≤ n := by
  unfold restF
  refine Nat.le_trans (List.length_filter_le _ _) (by simp)
def sp_rest_of_all (K : PySem.W.Frag) (A : Ad) : Sp := fun vs H Q _ => ∃ (q : Addr) (n p : Nat) (tk : List Nat), vs = [.int n, .ref q, .int p] ∧ (H q = some (.lst (nv tk)) ∧ (∀ x ∈ tk, x < n) ∧ p < n ∧ n ≤ 1000) ∧
  ∀ r H', H r = none → Stp [] H H' → H' r = some (.lst (nv (restF n (tk ++ [p])))) → Q (.ref r) H'
theorem ok_rest_of_all {P : Program} {w : World} {K : PySem.W.Frag} {mg : Str → Option Value} {base : Heap} {A : Ad} {f : Addr} {fd : FuncData} (F : Fun K "rest_of_all" "rest_of_all" s_rest_of_all f fd) (T : Txt K mg A)  : FnOk P w K mg base CX0 1 f fd ["total", "taken", "place"] (sp_rest_of_all K A) := by
  refine F.ok sc_rest_of_all (fun vs H Q E h => by obtain ⟨_, _, _, _, rfl, _⟩ := h; rfl) (fun cdv A' outer s H vs Q E hr h => ?_)
  obtain ⟨q, n, p, tk, rfl, ⟨hq, htk, hp, hn⟩, k⟩ := h
  refine ⟨_, (pss_cons (ps_set (i := 3) sc_rest_of_all.nd rfl (Or.inr rfl) (pe_op SH.oMul (pe_lst (pa_cons pe_bl pa_nil)) (pv 0)))
        (pss_cons (ps_for PassesOwn.never rfl (pi_list (pv 1)) (pg_name (i := 4) sc_rest_of_all.nd rfl (Or.inl rfl)) (pss_one (ps_asg pe_bl (pg_sub (pv 3) (pv 4) set_list))))
        (pss_cons (ps_asg pe_bl (pg_sub (pv 3) (pv 2) set_list))
        (pss_one (ps_ret (pe_lc (own := [("one", 4)]) (g := (gName 4)) (by rfl) sc_rest_of_all.nd (pi_range1 (by rfl) T.z_range (pa_cons (pv 0) pa_nil)) (blkOk_by (own := [("one", 4)]) (N := ["total", "taken", "place", "gone", "one"]) (sc := defScope s_rest_of_all) (by decide +kernel)) (fun _ _ _ _ _ => (pg_name (i := 4) sc_rest_of_all.nd rfl (Or.inl rfl))) (fun _ _ _ _ _ => (pts_one (pt_not (pt_val (pe_ix (SH.ixK SH.aIx K SH.ixA) (pv 3) (pv 4) (fun _ _ => rfl)))))) (fun _ _ _ _ _ => (pv 4)))))))), ?_⟩
  walk_at "begin"
  walk_at "rd"
  intro l0 hl0
  walk_at "rd"
  refine v_mulL upd_same ⟨by omega, by omega⟩ (Nat.le_trans (m := 1000) (by simp; omega) (by decide)) fun g hg => ?_
  rw [show ((n : Nat) : Int).toNat = n by omega, mkb_nil]
  have S1 : Stp [] H (upd (upd H l0 (.lst [.bl false])) g (.lst (mkb n []))) := ((Stp.refl _ _).new hl0).new hg
  have hg0 : H g = none := (upd_free hg).1
  have hq1 := S1.keep0 hq
  have hg1 : upd (upd H l0 (.lst [.bl false])) g (.lst (mkb n [])) g = some (.lst (mkb n [])) := upd_same
  generalize upd (upd H l0 (.lst [.bl false])) g (.lst (mkb n [])) = H1 at S1 hq1 hg1 ⊢
  have ngq : q ≠ g := ne_of_none hq hg0
  walk_at "rd"
  refine for_it (walk_list (xs := nv tk)) (fun j σ H' => Stp [] H H' ∧ H' g = some (.lst (mkb n (tk.take j))) ∧ ∃ v4, σ = [some (.int n), some (.ref q), some (.int p), some (.ref g), v4]) ⟨S1, hg1, _, rfl⟩ (fun _ _ _ _ z => z.1.sql0 (SqL.of hq)) ?_ ?_
  · rintro j x σ H2 H3 hj ⟨S, hgj, v4, rfl⟩ ⟨rfl, hx⟩
    obtain ⟨o, ho, rfl⟩ := map_at hx
    have hol := htk o (List.mem_of_getElem? ho)
    walk_at "rd"
    refine v_setL (n := o) hgj rfl (by rw [mkb_len]; exact hol) ?_
    walk_at "rd"
    refine ⟨S.putN hg0, ?_, _, rfl⟩
    rw [upd_same, mkb_set, List.take_succ, ho]
    rfl
  rintro σ H2 ⟨S2, hg2, v4, rfl⟩
  rw [List.length_map, List.take_length] at hg2
  walk_at "rd"
  refine v_setL (n := p) hg2 rfl (by rw [mkb_len]; exact hp) ?_
  rw [mkb_set]
  have S3 : Stp [] H (upd H2 g (.lst (mkb n (tk ++ [p])))) := S2.putN hg0
  have hg3 : upd H2 g (.lst (mkb n (tk ++ [p]))) g = some (.lst (mkb n (tk ++ [p]))) := upd_same
  generalize upd H2 g (.lst (mkb n (tk ++ [p]))) = H3 at S3 hg3 ⊢
  walk_at "rd"
  intro D hD
  refine lc_it walk_range (fun j H' => Stp [] H3 H' ∧ H' D = some (.lst (nv (restF j (tk ++ [p]))))) ⟨(Stp.refl _ _).new hD, upd_same⟩ (fun _ _ _ _ => True.intro) ?_ ?_
  · rintro j x H4 H5 hj ⟨S, hL⟩ ⟨rfl, rfl⟩
    have hj' : j < n := by have : j < ((n : Nat) : Int).toNat := hj; omega
    have hg4 := S.keep0 hg3
    simp only [Int.zero_add]
    walk_at "rd"
    refine v_ixLn (n := j) (SqL.of hg4) rfl (mkb_at hj') ?_
    refine ⟨_, rfl, r_nw (fun hc => ?_) fun hc => ?_⟩
    · walk_at "rd"
      refine ⟨_, hL, Nat.lt_of_le_of_lt (m := 1000) (by rw [List.length_map]; have := restF_len (n := j) (l := tk ++ [p]); omega) (by decide), S.putN hD, ?_⟩
      rw [upd_same, restF_succ, if_neg hc]
      simp [nv]
    · refine ⟨S, ?_⟩
      rw [hL, restF_succ, if_pos hc, List.append_nil]
  rintro H4 ⟨S4, hL4⟩
  rw [show ((n : Nat) : Int).toNat = n by omega] at hL4
  exact k D H4 (S3.dom _ hD) (S3.trans S4) hL4
/-! ### the so-manieth -/
theorem nv_ints (ps : List Nat) : nv ps = (ps.map fun n : Nat => (n : Int)).map V.int := by unfold nv; rw [List.map_map]; rfl
theorem sorted_nats {ord : List Nat} {ns : List Int} (h : ns.Perm (ord.map fun n : Nat => (n : Int))) (hs : ns.Pairwise (· ≤ ·)) : ∃ l : List Nat, ns = l.map (fun n : Nat => (n : Int)) ∧ l.Perm ord ∧ l.Pairwise (· ≤ ·) := by
  have hall : ∀ x ∈ ns, ∃ n : Nat, x = n := fun x hx => by
    obtain ⟨n, _, e⟩ := List.mem_map.mp (h.mem_iff.mp hx)
    exact ⟨n, e.symm⟩
  have e : ns = (ns.map Int.toNat).map fun n : Nat => (n : Int) := by
    rw [List.map_map]
    refine (List.map_id ns).symm.trans (List.map_congr_left fun x hx => ?_)
    obtain ⟨n, rfl⟩ := hall x hx
    simp
  refine ⟨ns.map Int.toNat, e, ?_, ?_⟩
  · have := h.map Int.toNat
    rw [List.map_map] at this
    have e2 : ord.map (Int.toNat ∘ fun n : Nat => (n : Int)) = ord := by
      refine (List.map_congr_left fun x _ => ?_).trans (List.map_id ord)
      simp
    rwa [e2] at this
  · rw [e, List.pairwise_map] at hs
    exact hs.imp fun h => by omega
def sing0 (n : Nat) : List (List Nat) := (List.range n).map fun i => [i]
theorem Takes.perm0 {b : Bool} {n : Nat} {g g' : List Nat} {W W' : Wt} {es : List Ent} {ord : List Nat} (h : Takes b (sing0 n) g W es ord g' W') {log : List Ent} (hs : TSt b (sing0 n) g W log) : (∀ p ∈ ord, p < n) ∧ True := by
  refine ⟨?_, True.intro⟩
  induction h generalizing log with
  | nil => intro p hp; cases hp
  | @cons g g' W W1 W' e1 es ord x z hx ht k ih =>
    obtain ⟨hs2, hn⟩ := hs.take hx ht
    obtain ⟨z0, t⟩ := hs.tre
    obtain rfl : z0 = some x := by have := t.at; rw [hx] at this; exact (Option.some.inj this).symm
    obtain ⟨i, _, hi, hf⟩ := t.from.resolve_left (by simp)
    intro p hp
    rcases List.mem_cons.mp hp with rfl | hp
    · obtain ⟨x1, x2⟩ := x
      obtain ⟨_, ps, h1, h2, _⟩ := frts_mem hf.symm
      obtain ⟨i, hi, rfl⟩ := List.mem_map.mp (List.mem_of_getElem? h1)
      rw [List.mem_singleton] at h2
      subst h2
      exact List.mem_range.mp hi
    · exact ih hs2 p hp
abbrev sing (n : Nat) : List (List Nat) := sing0 n
theorem sing_len {n : Nat} : (sing n).length = n := by simp [sing0]
theorem sing_flat {n : Nat} : (sing n).flatten = List.range n := by
  unfold sing sing0
  induction n with
  | zero => rfl
  | succ n ih => rw [List.range_succ, List.map_append, List.flatten_append, ih]; rfl
theorem sing_sum {n : Nat} : ((sing n).map List.length).sum = n := by rw [← List.length_flatten, sing_flat, List.length_range]
theorem sing_at {n i : Nat} (h : i < n) : (sing n)[i]? = some [i] := by simp [sing0, h]
theorem sing_pcs {I : Ask} {n : Nat} (h : n = I.n) (hn : n ≤ 300) : Pcs I (sing n) := ⟨fun ps hp p hq => by
  obtain ⟨i, hi, rfl⟩ := List.mem_map.mp hp
  rw [List.mem_singleton] at hq
  subst hq
  rw [← h]; exact List.mem_range.mp hi, by rw [sing_flat]; exact List.nodup_range, by rw [sing_len]; exact hn⟩
/-- so many taken, the next one told -/
def SoR (b : Bool) (n c : Nat) (es : List Ent) (ord : List Nat) (p : Nat) : Prop := ∃ es0 W0 z es1 g' W' x, Hold b (frts b (sing n) (List.replicate n 0)) 0 n (fun _ _ => none) es0 W0 z ∧ Takes b (sing n) (List.replicate n 0) W0 es1 ord g' W' ∧ ord.length = c ∧ W' 0 n = some (some x) ∧ p = x.1 ∧ es = es0 ++ es1
/-- what is told: those ahead, the place, those behind -/
def SoT (n m : Nat) (es : List Ent) (l1 l2 : List Nat) (p : Nat) : Prop := (m ≤ n - 1 - m ∧ ∃ ord, SoR false n m es ord p ∧ l1.Perm ord ∧ l1.Pairwise (· ≤ ·) ∧ l2 = restF n (l1 ++ [p])) ∨ (¬ m ≤ n - 1 - m ∧ ∃ ord, SoR true n (n - 1 - m) es ord p ∧ l2.Perm ord ∧ l2.Pairwise (· ≤ ·) ∧ l1 = restF n (l2 ++ [p]))
theorem lc_takes {b : Bool} {C : Addr} {K : PySem.W.Frag} {A : Ad} {σ : L2.St} {j0 : Nat} {te : TE} {I : Ask} {R : PR} {H1 : Hp} {D : Addr} {n m : Nat} {log : List Ent} {W0 : Wt} {Qd : Hp → Prop} (hP : R.P = sing n) (hn : n ≤ 300) (hm : m + 1 ≤ n) (hR : R.At b K A C I H1 log (List.replicate n 0) W0) (hD : H1 D = none) (hlog : log.length + I.pre.length + n * n + 400 ≤ 100000)
    (hte : ∀ (v : V) (H' : Hp) (Q' : VK), (∃ g W log' x esq ord, R.At b K A C I H' log' g W ∧ W 0 R.P.length = some (some x) ∧ log'.length + I.pre.length + 400 ≤ 100000 ∧ log' = log ++ esq ∧ Takes b R.P (List.replicate n 0) W0 esq ord g W ∧ ord.length < m ∧ Told I.or log esq ∧ Stp (R.M I) H1 H' ∧ ∀ H2 es W' z, TakeR b W x.2 (frt b (R.P.getD x.2 []) (g.getD x.2 0 + 1) x.2) 0 R.P.length es W' z → Told I.or log' es → Stp (R.M I) H' H2 → R.At b K A C I H2 (log' ++ es) (g.set x.2 (g.getD x.2 0 + 1)) W' → Q' (.int (x.1 : Nat)) H2) → te ((wipe σ [j0]).set j0 (some v)) H' Q')
    (k : ∀ H' g W es ord, Takes b R.P (List.replicate n 0) W0 es ord g W → ord.length = m → Told I.or log es → es.length ≤ m * n → Stp (R.M I) H1 H' → R.At b K A C I H' (log ++ es) g W → (∃ x, W 0 R.P.length = some (some x)) → H' D = some (.lst (nv ord)) → Qd H') :
    ∃ W : Nat → Nat → Hp → Prop, (∃ m, W 0 m (upd H1 D (.lst []))) ∧ ∀ i m' H, W i m' H →
      ((Itr 0 m).stop i H ∧ Qd H) ∨ ((Itr 0 m).go i H ∧ ∃ Nx : Hp → Prop, (∀ H', Nx H' → ∃ m'', m'' < m' ∧ W (i + 1) m'' H') ∧ ∀ x H', (Itr 0 m).yld i H x H' → gName j0 x (wipe σ [j0]) H' fun σ2 H2 => wipe σ2 [j0] = wipe σ [j0] ∧ tYes σ2 H2 fun b H3 =>
        if b = true then te σ2 H3 fun y H4 => ∃ acc, H4 D = some (.lst acc) ∧ acc.length < sizeLine ∧ Nx (upd H4 D (.lst (acc ++ [y]))) else Nx H3) := by
  have DM := hR.ask.freshO hD
  have Db : D ∉ R.base := fun z => hR.base z hD
  have hPl : R.P.length = n := by rw [hP, sing_len]
  have hPs : (R.P.map List.length).sum = n := by rw [hP, sing_sum]
  have top : ∀ (g : List Nat) (W : Wt) (log : List Ent) (H : Hp), R.At b K A C I H log g W → g.sum < n → ∃ x, W 0 R.P.length = some (some x) := fun g W log H h hg => by
    obtain ⟨z, t⟩ := h.tre
    have hzl := t.left0 h.st.gl h.gle
    have hrs := rems_sum (b := b) h.st.gl h.gle
    rw [hPs] at hrs
    cases z with
    | none => have := hzl.mp rfl; omega
    | some x => exact ⟨x, t.at⟩
  refine lc_it walk_range (fun j H' => ∃ (g : List Nat) (W : Wt) (es : List Ent) (ord : List Nat), R.At b K A C I H' (log ++ es) g W ∧ Takes b R.P (List.replicate n 0) W0 es ord g W ∧ g.sum = j ∧ ord.length = j ∧ Told I.or log es ∧ es.length ≤ j * n ∧ Stp (R.M I) H1 H' ∧ H' D = some (.lst (nv ord)))
    ⟨_, W0, [], [], by rw [List.append_nil]; exact hR.dT ((Stp.refl _ _).new hD), .nil, rep_sum _, rfl, True.intro, by simp, (Stp.refl _ _).new hD, upd_same⟩ (fun _ _ _ _ => True.intro) ?_ ?_
  · rintro j x H3 H4 hj ⟨g, W, es, ord, hR3, hTk, hgs, hol, hT, hel, S3, hL⟩ ⟨rfl, rfl⟩
    obtain ⟨x, hx⟩ := top g W _ _ hR3 (by omega)
    have hmul : j * n + n ≤ n * n := by rw [← Nat.succ_mul]; exact Nat.mul_le_mul_right _ (by omega)
    refine ⟨wipe_set, ?_⟩
    refine SH.r_yes (SH.r_T ?_)
    refine hte _ _ _ ⟨g, W, _, x, es, ord, hR3, hx, by rw [List.length_append]; omega, rfl, hTk, by omega, hT, S3, fun H5 e2 W' z hTk2 hT2 S5 hR5 => ?_⟩
    have hin := hTk2.in
    have hgx : x.2 < g.length := by rw [hR3.st.gl]; exact hin.2
    have hf2 := hTk2.few
    have hL5 := S5.keep hL (fun z => by
      simp only [PR.M, List.mem_cons] at z
      rcases z with z | z | z
      · exact Db (by rw [z]; simp [PR.base])
      · exact Db (by rw [z]; simp [PR.base])
      · exact DM (Ask.Mown z))
    refine ⟨_, hL5, Nat.lt_of_le_of_lt (m := 1000) (by rw [List.length_map]; omega) (by decide), g.set x.2 (g.getD x.2 0 + 1), W', es ++ e2, ord ++ [x.1], ?_, hTk.snoc hx hTk2, by rw [sum_set hgx, hgs], by simp [hol], Told.app hT hT2, by rw [List.length_append, Nat.add_mul]; omega, (S3.trans S5).putN hD, by rw [upd_same]; simp [nv]⟩
    rw [← List.append_assoc]
    exact hR5.stp ((Stp.refl [D] H5).putL (by simp) hL5) (by intro b hb; rw [List.mem_singleton] at hb; subst hb; exact ⟨Db, DM⟩)
  · rintro H3 ⟨g, W, es, ord, hR3, hTk, hgs, hol, hT, hel, S3, hL⟩
    exact k H3 g W es ord hTk hol hT hel S3 hR3 (top g W _ _ hR3 (by omega)) hL
/-! ### whatever is told, the takes come to their end -/
theorem TakeR.total (or : List Ent → Nat → Nat → Bool) {b : Bool} {F : Nat → Fr} {W : Wt} {log0 : List Ent} {n lo hi : Nat} {zz : Fr} (x : Fr) (T : Tre b F W log0 lo hi zz) : lo ≤ n → n < hi → ∀ lg, ∃ es W' z, TakeR b W n x lo hi es W' z ∧ Told or lg es := by
  induction T with
  | nil h => intro h1 h2; omega
  | @one lo h =>
    intro h1 h2 lg
    obtain rfl : n = lo := by omega
    exact ⟨[], _, _, .one, True.intro⟩
  | @node lo hi es x' y' z h hw h1 h2 h3 he i1 i2 =>
    intro hl hh lg
    by_cases hn : n < cutB lo hi
    · obtain ⟨e1, W1, z1, k1, t1⟩ := i1 hl hn lg
      obtain ⟨e2, z2, k2, t2⟩ := Meet.total or b z1 y' (lg ++ e1)
      exact ⟨_, _, _, .left h hn k1 h2.at k2, Told.app t1 t2⟩
    · obtain ⟨e1, W1, z1, k1, t1⟩ := i2 (by omega) hh lg
      obtain ⟨e2, z2, k2, t2⟩ := Meet.total or b x' z1 (lg ++ e1)
      exact ⟨_, _, _, .right h hn k1 h1.at k2, Told.app t1 t2⟩
theorem Takes.tst {b : Bool} {P : List (List Nat)} {g g' : List Nat} {W W' : Wt} {es : List Ent} {ord : List Nat} (h : Takes b P g W es ord g' W') {log : List Ent} (hs : TSt b P g W log) : TSt b P g' W' (log ++ es) ∧ g'.sum = g.sum + ord.length := by
  induction h generalizing log with
  | nil => rw [List.append_nil]; exact ⟨hs, rfl⟩
  | @cons g g' W W1 W' e1 es ord x z hx ht k ih =>
    obtain ⟨hs2, hn⟩ := hs.take hx ht
    obtain ⟨q1, q2⟩ := ih hs2
    rw [sum_set (by rw [hs.gl]; exact hn)] at q2
    rw [List.append_assoc] at q1
    exact ⟨q1, by rw [q2, List.length_cons]; omega⟩
theorem TSt.top {b : Bool} {P : List (List Nat)} {g : List Nat} {W : Wt} {log : List Ent} (hs : TSt b P g W log) (h : g.sum < (P.map List.length).sum) : ∃ x, W 0 P.length = some (some x) := by
  obtain ⟨z, t⟩ := hs.tre
  have hzl := t.left0 hs.gl hs.gle
  have hrs := rems_sum (b := b) hs.gl hs.gle
  cases z with
  | none => have := hzl.mp rfl; omega
  | some x => exact ⟨x, t.at⟩
theorem SoR.tst0 {b : Bool} {n : Nat} {es0 : List Ent} {W0 : Wt} {z : Fr} (hH : Hold b (frts b (sing n) (List.replicate n 0)) 0 n (fun _ _ => none) es0 W0 z) : TSt b (sing n) (List.replicate n 0) W0 es0 :=
  ⟨by rw [List.length_replicate, sing_len], fun i => by rw [rep_get]; exact Nat.zero_le _, z, by rw [sing_len]; exact hH.tre fun _ h => h⟩
theorem SoR.more (or : List Ent → Nat → Nat → Bool) {b : Bool} {n c : Nat} {es0 : List Ent} {W0 : Wt} {z : Fr} (hH : Hold b (frts b (sing n) (List.replicate n 0)) 0 n (fun _ _ => none) es0 W0 z) (hc : c < n) : ∀ (k : Nat) (es1 : List Ent) (ord : List Nat) (g : List Nat) (W : Wt), Takes b (sing n) (List.replicate n 0) W0 es1 ord g W → ord.length + k = c → ∀ lg, ∃ es2 ord2 p, Told or lg es2 ∧ SoR b n c (es0 ++ (es1 ++ es2)) ord2 p := by
  intro k
  induction k with
  | zero =>
    intro es1 ord g W hTk hl lg
    obtain ⟨hs, hsum⟩ := hTk.tst (SoR.tst0 hH)
    rw [rep_sum] at hsum
    obtain ⟨x, hx⟩ := hs.top (by rw [sing_sum]; omega)
    rw [sing_len] at hx
    exact ⟨[], ord, x.1, True.intro, es0, W0, z, es1, g, W, x, hH, hTk, by omega, hx, rfl, by rw [List.append_nil]⟩
  | succ k ih =>
    intro es1 ord g W hTk hl lg
    obtain ⟨hs, hsum⟩ := hTk.tst (SoR.tst0 hH)
    rw [rep_sum] at hsum
    obtain ⟨x, hx⟩ := hs.top (by rw [sing_sum]; omega)
    obtain ⟨z0, t⟩ := hs.tre
    obtain rfl : z0 = some x := by have := t.at; rw [hx] at this; exact (Option.some.inj this).symm
    have hxn : x.2 < (sing n).length := by
      obtain ⟨i, _, hi, hf⟩ := t.from.resolve_left (by simp)
      obtain ⟨x1, x2⟩ := x
      obtain ⟨rfl, _⟩ := frts_mem hf.symm
      exact hi
    obtain ⟨e2, W2, z2, hk2, ht2⟩ := TakeR.total or (frt b ((sing n).getD x.2 []) (g.getD x.2 0 + 1) x.2) t (Nat.zero_le _) hxn lg
    obtain ⟨es3, ord3, p, ht3, hso⟩ := ih _ _ _ _ (hTk.snoc hx hk2) (by rw [List.length_append, List.length_singleton]; omega) (lg ++ e2)
    exact ⟨e2 ++ es3, ord3, p, Told.app ht2 ht3, by rw [← List.append_assoc es1]; exact hso⟩
theorem srt_of (ord : List Nat) : ∃ l : List Nat, l.Perm ord ∧ l.Pairwise (· ≤ ·) := by
  induction ord with
  | nil => exact ⟨[], .refl _, .nil⟩
  | cons x xs ih =>
    obtain ⟨l, h1, h2⟩ := ih
    have ins : ∀ l : List Nat, l.Pairwise (· ≤ ·) → ∃ l' : List Nat, l'.Perm (x :: l) ∧ l'.Pairwise (· ≤ ·) := by
      intro l
      induction l with
      | nil => intro _; exact ⟨[x], .refl _, List.pairwise_singleton _ _⟩
      | cons y ys ih =>
        intro h
        obtain ⟨h3, h4⟩ := List.pairwise_cons.mp h
        by_cases hxy : x ≤ y
        · refine ⟨x :: y :: ys, .refl _, List.pairwise_cons.mpr ⟨fun z hz => ?_, h⟩⟩
          rcases List.mem_cons.mp hz with rfl | hz
          · exact hxy
          · have := h3 z hz; omega
        · obtain ⟨l', h5, h6⟩ := ih h4
          refine ⟨y :: l', (h5.cons y).trans (.swap x y ys), List.pairwise_cons.mpr ⟨fun z hz => ?_, h6⟩⟩
          rcases List.mem_cons.mp (h5.mem_iff.mp hz) with rfl | hz
          · omega
          · exact h3 z hz
    obtain ⟨l', h3, h4⟩ := ins l h2
    exact ⟨l', h3.trans (h1.cons x), h4⟩
theorem SoT.mkF {n m : Nat} {es : List Ent} {ord : List Nat} {p : Nat} (h : SoR false n m es ord p) (hm : m ≤ n - 1 - m) : ∃ l1 l2 p, SoT n m es l1 l2 p := by
  obtain ⟨l, h1, h2⟩ := srt_of ord
  exact ⟨l, _, p, .inl ⟨hm, ord, h, h1, h2, rfl⟩⟩
theorem SoT.mkT {n m : Nat} {es : List Ent} {ord : List Nat} {p : Nat} (h : SoR true n (n - 1 - m) es ord p) (hm : ¬ m ≤ n - 1 - m) : ∃ l1 l2 p, SoT n m es l1 l2 p := by
  obtain ⟨l, h1, h2⟩ := srt_of ord
  exact ⟨_, l, p, .inr ⟨hm, ord, h, h1, h2, rfl⟩⟩
def sp_so_manieth (K : PySem.W.Frag) (A : Ad) : Sp := fun vs H Q E => ∃ (I : Ask) (log : List Ent) (m : Int), vs = [.ref I.s, .int m] ∧ (I.At K A H log ∧ I.n ≤ 250 ∧ log.length + I.pre.length + I.n * I.n + 1000 ≤ 100000) ∧
  ((m < 0 ∨ (I.n : Int) ≤ m) → E (.ref A.NoPlace) none H) ∧ ∀ c : Nat, m = c → c < I.n → Stop I K A H log (fun es => ∃ l1 l2 p, SoT I.n c es l1 l2 p) E ∧
  ∀ H' t q1 q2 es l1 l2 p, SoT I.n c es l1 l2 p → Told I.or log es → Stp I.M H H' → I.At K A H' (log ++ es) → es.length ≤ I.n * I.n + 300 → H q1 = none → H q2 = none → q1 ≠ q2 → H' q1 = some (.lst (nv l1)) → H' q2 = some (.lst (nv l2)) → H' t = some (.tup [.ref q1, .int (p : Nat), .ref q2]) → Q (.ref t) H'
theorem ok_so_manieth {P : Program} {w : World} {K : PySem.W.Frag} {mg : Str → Option Value} {base : Heap} {A : Ad} {f : Addr} {fd : FuncData} (F : Fun K "so_manieth" "so_manieth" s_so_manieth f fd) (T : Txt K mg A) (M_Asker_many : SH.CalM P w K mg base CX0 1 A.Asker "many" [] (sp_Asker_many K A)) (M_LastPour_first : SH.CalM P w K mg base CX0 1 A.LastPour "first" [] (sp_LastPour_first K A)) (M_LastPour_take : SH.CalM P w K mg base (L2N.CX P w) 6 A.LastPour "take" [] (sp_LastPour_take K A)) (M_Pour_first : SH.CalM P w K mg base CX0 1 A.Pour "first" [] (sp_Pour_first K A)) (M_Pour_take : SH.CalM P w K mg base (L2N.CX P w) 6 A.Pour "take" [] (sp_Pour_take K A)) (N_LastPour : SH.CalC P w K mg base (L2N.CX P w) 16 "LastPour" A.LastPour [] (sp_LastPour___init__ K A)) (N_Pour : SH.CalC P w K mg base (L2N.CX P w) 16 "Pour" A.Pour [] (sp_Pour___init__ K A)) (C_rest_of_all : SH.Cal P w K mg base CX0 1 "rest_of_all" [] (sp_rest_of_all K A)) : FnOk P w K mg base (L2N.CX P w) 18 f fd ["asker", "many"] (sp_so_manieth K A) := by
  refine SH.okN F sc_so_manieth (fun vs H Q E h => by obtain ⟨_, _, _, rfl, _⟩ := h; rfl) (fun cdv A' outer s H vs Q E hr h => ?_)
  obtain ⟨I, log, m0, rfl, ⟨hA, hn, hlog⟩, kn, kk⟩ := h
  refine ⟨_, (pss_cons (ps_set (i := 2) sc_so_manieth.nd rfl (Or.inl rfl) (SH.pe_methF0 (pv 0) M_Asker_many hr pass0))
        (pss_cons (ps_if (PW.pt (pw_or (pt_cmpR (SH.oLt hr.units0) (pv 1) pe_int (nomark _)) (pw_or1 (pt_cmpR SH.oGe (pv 1) (pv 2) (nomark _))))) (pss_one (L2N.ps_raise rfl (L2N.takes_of rfl rfl rfl rfl) (L2N.pmk_own PySem.F.excBase_ValueError T.xn_NoPlace T.g_NoPlace T.kp_NoPlace (raises_own T.sb_NoPlace T.ty_NoPlace) rfl))) pss_nil)
        (pss_cons (ps_setLc (i := 3) (own := [("one", 8)]) (g := (gName 8)) (tt := tYes) (by rfl) sc_so_manieth.nd rfl rfl (sw_true rfl rfl rfl (by decide +kernel)) (pi_range1 (by rfl) T.z_range (pa_cons (pv 2) pa_nil)) (blkOk_by (own := [("one", 8)]) (N := ["asker", "many", "total", "singly", "pour", "ahead", "place", "after", "one", "k"]) (sc := defScope s_so_manieth) (by decide +kernel)) (fun _ _ _ _ _ => (pg_name (i := 8) sc_so_manieth.nd rfl (Or.inl rfl))) (fun _ _ _ _ _ => pts_nil) (fun _ _ _ _ _ => (pe_lst (pa_cons (pv 8) pa_nil))))
        (pss_cons (ps_if (pt_cmpR SH.oLe (pv 1) (pe_op SH.oSub (pe_op SH.oSub (pv 2) pe_int) (pv 1)) (nomark _)) (pss_cons (ps_set (i := 4) sc_so_manieth.nd rfl (Or.inr rfl) (SH.pe_makeF N_Pour hr (by rfl) (L2N.passes_call (L2N.takes_of rfl rfl rfl rfl) fun _ _ _ _ h => h) (pa_cons (pv 0) (pa_cons (pv 3) pa_nil))))
        (pss_cons (ps_set (i := 5) sc_so_manieth.nd rfl (Or.inl rfl) (pe_callB cr_sortedI (by rfl) T.z_sorted (by decide +kernel) (pa_cons (SH.pe_lcX (own := [("k", 9)]) (g := (gName 9)) (tt := fun _ => tYes) rfl rfl (L2N.takes_of rfl rfl rfl rfl) (by rfl) sc_so_manieth.nd (pi_range1 (by rfl) T.z_range (pa_cons (pv 1) pa_nil)) (blkOk_by (own := [("k", 9)]) (N := ["asker", "many", "total", "singly", "pour", "ahead", "place", "after", "one", "k"]) (sc := defScope s_so_manieth) (by decide +kernel)) (fun _ _ _ _ _ => (pg_name (i := 9) sc_so_manieth.nd rfl (Or.inl rfl))) (fun _ _ _ _ _ xe Wb hot => pts_nil) (fun _ _ _ _ _ xe Wb hot => (SH.peOrE (SH.pe_methX0 (pv 4) M_Pour_take hr hot) (SH.pe_methX0 (pv 4) M_LastPour_take hr hot)))) pa_nil)))
        (pss_cons (ps_set (i := 6) sc_so_manieth.nd rfl (Or.inl rfl) (SH.peOrE (SH.pe_methF0 (pv 4) M_Pour_first hr pass0) (SH.pe_methF0 (pv 4) M_LastPour_first hr pass0)))
        (pss_one (ps_ret (pe_tup (pa_cons (pv 5) (pa_cons (pv 6) (pa_cons (SH.pe_callF C_rest_of_all hr (by rfl) pass0 (pa_cons (pv 2) (pa_cons (pv 5) (pa_cons (pv 6) pa_nil)))) pa_nil))))))))) pss_nil)
        (pss_cons (ps_set (i := 4) sc_so_manieth.nd rfl (Or.inr rfl) (SH.pe_makeF N_LastPour hr (by rfl) (L2N.passes_call (L2N.takes_of rfl rfl rfl rfl) fun _ _ _ _ h => h) (pa_cons (pv 0) (pa_cons (pv 3) pa_nil))))
        (pss_cons (ps_set (i := 7) sc_so_manieth.nd rfl (Or.inl rfl) (pe_callB cr_sortedI (by rfl) T.z_sorted (by decide +kernel) (pa_cons (SH.pe_lcX (own := [("k", 9)]) (g := (gName 9)) (tt := fun _ => tYes) rfl rfl (L2N.takes_of rfl rfl rfl rfl) (by rfl) sc_so_manieth.nd (pi_range1 (by rfl) T.z_range (pa_cons (pe_op SH.oSub (pe_op SH.oSub (pv 2) pe_int) (pv 1)) pa_nil)) (blkOk_by (own := [("k", 9)]) (N := ["asker", "many", "total", "singly", "pour", "ahead", "place", "after", "one", "k"]) (sc := defScope s_so_manieth) (by decide +kernel)) (fun _ _ _ _ _ => (pg_name (i := 9) sc_so_manieth.nd rfl (Or.inl rfl))) (fun _ _ _ _ _ xe Wb hot => pts_nil) (fun _ _ _ _ _ xe Wb hot => (SH.peOrE (SH.pe_methX0 (pv 4) M_Pour_take hr hot) (SH.pe_methX0 (pv 4) M_LastPour_take hr hot)))) pa_nil)))
        (pss_cons (ps_set (i := 6) sc_so_manieth.nd rfl (Or.inl rfl) (SH.peOrE (SH.pe_methF0 (pv 4) M_Pour_first hr pass0) (SH.pe_methF0 (pv 4) M_LastPour_first hr pass0)))
        (pss_one (ps_ret (pe_tup (pa_cons (SH.pe_callF C_rest_of_all hr (by rfl) pass0 (pa_cons (pv 2) (pa_cons (pv 7) (pa_cons (pv 6) pa_nil)))) (pa_cons (pv 6) (pa_cons (pv 7) pa_nil))))))))))))), ?_⟩
  walk_at "begin"
  have hs := hA.hs
  unfold AskM at hs
  walk_at "rd"
  refine ⟨I, log, rfl, hA, ?_⟩
  walk_at "rd"
  refine r_w (fun hc => by rw [if_pos rfl]; exact kn (.inl hc)) fun hc => ?_
  walk_at "rd"
  refine r_w (fun hc2 => by exact kn (.inr (by omega))) fun hc2 => ?_
  obtain ⟨m, rfl⟩ : ∃ m : Nat, m0 = (m : Int) := ⟨m0.toNat, by omega⟩
  have hm : m < I.n := by omega
  obtain ⟨kx, k⟩ := kk m rfl hm
  clear kn kk hc hc2
  walk_at "rd"
  intro D hD
  refine lc_it walk_range (fun j H' => Stp [] H H' ∧ ∃ pa : List Addr, Pls H' pa (sing j) ∧ (∀ a ∈ pa, H a = none ∧ a ≠ D) ∧ H' D = some (.lst (pa.map V.ref))) ⟨(Stp.refl _ _).new hD, [], ⟨rfl, by intro i a e; simp at e⟩, by simp, upd_same⟩ (fun _ _ _ _ => True.intro) ?_ ?_
  · rintro j x H3 H4 hj ⟨S, pa, hpls, hpf, hL⟩ ⟨rfl, rfl⟩
    have hjn : j < I.n := by have : j < (I.n : Int).toNat := hj; omega
    simp only [Int.zero_add]
    walk_at "rd"
    intro l hl
    have hlD : l ≠ D := (ne_of_none hL hl).symm
    refine ⟨_, upd_old hL hl, Nat.lt_of_le_of_lt (m := 1000) (by rw [List.length_map, hpls.1, sing_len]; omega) (by decide), (S.new hl).putN hD, pa ++ [l], ⟨by simp [hpls.1, sing_len], fun i a e => ?_⟩, fun a ha => ?_, by rw [upd_same, List.map_append]; rfl⟩
    · have hsj : sing (j + 1) = sing j ++ [[j]] := by unfold sing sing0; rw [List.range_succ, List.map_append]; rfl
      rw [hsj]
      by_cases hi : i < pa.length
      · rw [List.getElem?_append_left hi] at e
        obtain ⟨ps, h1, h2⟩ := hpls.2 i a e
        exact ⟨ps, by rw [List.getElem?_append_left (by rw [← hpls.1]; exact hi)]; exact h1, upd_far (hpf a (List.mem_of_getElem? e)).2 (upd_old h2 hl)⟩
      · rw [List.getElem?_append_right (by omega)] at e
        have hz : i = pa.length := by
          have := (List.getElem?_eq_some_iff.mp e).1
          simp at this; omega
        subst hz
        simp at e
        subst e
        exact ⟨[j], by rw [hpls.1, List.getElem?_append_right (Nat.le_refl _)]; simp, upd_far hlD upd_same⟩
    · rcases List.mem_append.mp ha with ha | ha
      · exact hpf a ha
      · rw [List.mem_singleton] at ha; subst ha; exact ⟨S.dom _ hl, hlD⟩
  rintro H1 ⟨S1, pa, hpls, hpf, hD1⟩
  rw [show ((I.n : Nat) : Int).toNat = I.n by omega] at hpls
  have hA1 := hA.stp S1 (by simp)
  have hPc : Pcs I (sing I.n) := sing_pcs rfl (by omega)
  have hDH : H D = none := hD
  clear hD hs
  walk_at "rd"
  refine r_w (fun hc => ?_) fun hc => ?_
  · walk_at "rd"
    intro o dx ho hdx hne
    have S2 : Stp [] H1 (upd (upd H1 dx (.own o)) o (.ins A.Pour dx [])) := ((Stp.refl [] H1).new hdx).putN ho
    refine ⟨o, D, I, log, pa, sing I.n, rfl, ⟨⟨dx, upd_same⟩, hA1.stp S2 (by simp), S2.keep0 hD1, hpls.stp S2 (by simp), hPc, hA1.freshO ho, by rw [sing_sum]; omega, by omega⟩, kx.toM.sub0 ((S1.trans S2).mono (by simp)) (fun x hx => by
      rcases List.mem_cons.mp hx with rfl | hx
      · exact .inr (S1.dom _ ho)
      · exact .inl hx) (fun es2 ⟨W2, z2, hH2⟩ hT2 => by
      rw [sing_len] at hH2
      obtain ⟨es3, ord3, p3, ht3, hso⟩ := SoR.more I.or hH2 (c := m) (by omega) (m) [] [] _ _ .nil (by simp) (log ++ es2)
      exact ⟨es3, ht3, SoT.mkF hso (by omega)⟩), fun R H2 es0 W0 z hRo hRP hRf hH hT S3 hR => ⟨rfl, ?_⟩⟩
    subst hRo
    rw [sing_len] at hR hH
    have hf0 := hH.few
    have S13 : Stp I.M H H2 := (S1.mono (M' := I.M) (by simp)).trans ((S2.mono (M' := I.M) (by simp)).then S3 fun x hx => by
      rcases List.mem_cons.mp hx with rfl | hx
      · exact .inr ho
      · exact .inl hx)
    have fb : ∀ x ∈ R.base, H x = none := fun x hx => by
      by_cases e : x = R.o
      · subst e; exact S1.dom _ ho
      · exact S1.dom _ (S2.dom x (hRf x hx e))
    clear S3 S2 hRf hA1 hD1 hpls hne hdx
    walk_at "rd"
    intro D1 hD1
    rw [show ((m : Nat) : Int).toNat = m by omega]
    refine lc_takes (b := false) (m := m) (j0 := 9) (te := tOrE (tMethSD A.Pour (Str.ofString "take") (sp_Pour_take K A) [] (WE fun c d x H' => E c d H') (tVar 4) tNil) (tMethSD A.LastPour (Str.ofString "take") (sp_LastPour_take K A) [] (WE fun c d x H' => E c d H') (tVar 4) tNil)) hRP (by omega) (by omega) hR hD1 (by rw [List.length_append]; omega) (fun v H' Q' ⟨g, W, log', x, esq, ord, hR', hx, hl, hle, hTk, hol, hTs, S3, kk⟩ => ?_) fun H3 g W es ord hTk hol hTs hel S3 hR3 ⟨x, hx⟩ hL3 => ?_
    · refine SH.r_orL ?_
      have ho' := hR'.st.ho
      show tMethSD A.Pour (Str.ofString "take") (sp_Pour_take K A) [] (WE fun c d x H' => E c d H') (tVar 4) tNil [some (.ref I.s), some (.int m), some (.int I.n), some (.ref D), some (.ref R.o), none, none, none, none, some v] H' Q'
      walk_at "rd"
      have S23 : Stp I.M H H' := S13.then S3 fun y hy => by
        simp only [PR.M, List.mem_cons] at hy
        rcases hy with hy | hy | hy
        · exact .inr (by rw [hy]; exact fb _ (by simp [PR.base]))
        · exact .inr (by rw [hy]; exact fb _ (by simp [PR.base]))
        · exact .inl hy
      rw [hRP] at hTk
      refine ⟨R, I, log', g, W, some x, rfl, ⟨hR', hx, hl⟩, fun x' ex => ?_, (fun e => by cases e), fun x' ex h1 h2 H2 es W' z hTk hT S hR2 => by cases ex; exact kk H2 es W' z hTk hT S hR2⟩
      cases ex
      rw [show log' = log ++ (es0 ++ esq) by rw [hle, List.append_assoc]]
      refine (kx.toM.sub S23 (fun m hm => .inl hm) (Told.app hT hTs) fun es2 ⟨W2, z2, hk2⟩ ht2 => ?_).toS
      rw [hRP] at hk2 hx
      obtain ⟨es3, ord3, p3, ht3, hso⟩ := SoR.more I.or hH (c := m) (by omega) (m - (ord.length + 1)) _ _ _ _ (hTk.snoc hx hk2) (by rw [List.length_append, List.length_singleton]; omega) (log ++ (es0 ++ esq) ++ es2)
      exact ⟨es3, ht3, SoT.mkF (by rw [show es0 ++ esq ++ es2 ++ es3 = es0 ++ (esq ++ es2 ++ es3) by simp]; exact hso) (by omega)⟩
    have S23 : Stp I.M H H3 := S13.then S3 fun y hy => by
      simp only [PR.M, List.mem_cons] at hy
      rcases hy with hy | hy | hy
      · exact .inr (by rw [hy]; exact fb _ (by simp [PR.base]))
      · exact .inr (by rw [hy]; exact fb _ (by simp [PR.base]))
      · exact .inl hy
    have hSo : SoR false I.n (m) (es0 ++ es) ord x.1 := ⟨es0, W0, z, es, g, W, x, hH, by rw [hRP] at hTk; exact hTk, hol, by rw [hRP, sing_len] at hx; exact hx, rfl, rfl⟩
    have hTs2 : Told I.or log (es0 ++ es) := Told.app hT hTs
    have hlt : ∀ p ∈ ord, p < I.n := fun p hp => by
      have hS0 : TSt false (sing I.n) (List.replicate I.n 0) W0 es0 := ⟨by rw [List.length_replicate, sing_len], fun i => by rw [rep_get]; exact Nat.zero_le _, z, by rw [sing_len]; exact hH.tre fun _ h => h⟩
      rw [hRP] at hTk
      have := (hTk.perm0 hS0).1 p hp
      exact this
    have hx1 : x.1 < I.n := by
      obtain ⟨z', t⟩ := hR3.tre
      obtain rfl : z' = some x := by have := t.at; rw [hx] at this; exact (Option.some.inj this).symm
      obtain ⟨i, _, hi, hf⟩ := t.from.resolve_left (by simp)
      obtain ⟨x1, x2⟩ := x
      obtain ⟨_, ps, h1, h2, _⟩ := frts_mem hf.symm
      exact hPc.lt ps (by rw [← hRP]; exact List.mem_of_getElem? h1) _ h2
    have ho3 := hR3.st.ho
    walk_at "rd"
    refine v_sortI (ns := ord.map fun n : Nat => (n : Int)) (by have := SqL.of (K := K) hL3; rw [nv_ints] at this; exact this) fun ns1 q1 hp1 hs1 hq1 => ?_
    obtain ⟨l1, hl1, hlp, hls⟩ := sorted_nats hp1 hs1
    subst hl1
    rw [← nv_ints]
    have S4 := (Stp.refl [] H3).new (o := .lst (nv l1)) hq1
    have hR4 := hR3.dT S4
    have hq4 := upd_same (H := H3) (a := q1) (o := .lst (nv l1))
    have q1H : H q1 = none := S23.dom _ hq1
    have S24 := S23.then0 S4
    generalize upd H3 q1 (.lst (nv l1)) = H4 at S4 hR4 hq4 S24 ⊢
    have ho4 := hR4.st.ho
    walk_at "rd"
    refine SH.r_orL ?_
    walk_at "rd"
    refine ⟨R, I, _, g, W, some x, rfl, ⟨hR4, hx⟩, fun H5 S5 => ?_⟩
    have hq5 := S5.keep0 hq4
    walk_at "rd"
    refine ⟨q1, I.n, x.1, l1, rfl, ⟨hq5, fun y hy => hlt y (hlp.mem_iff.mp hy), hx1, by omega⟩, fun q2 H6 hq2 S6 hr6 => ?_⟩
    walk_at "rd"
    intro t ht
    have S7 := (Stp.refl [] H6).new (o := .tup [V.ref q1, frI (some x), V.ref q2]) ht
    have S47 := (S5.trans S6).trans S7
    have n12 : q1 ≠ q2 := fun z => by rw [z, hq2] at hq5; cases hq5
    have hmm : m * I.n + I.n ≤ I.n * I.n := by rw [← Nat.succ_mul]; exact Nat.mul_le_mul_right _ (by omega)
    refine k _ t q1 q2 (es0 ++ es) l1 _ x.1 (.inl ⟨by omega, ord, hSo, hlp, hls, rfl⟩) hTs2 (S24.then0 S47) ?_ (by rw [List.length_append]; omega) q1H ((S24.then0 S5).dom _ hq2) n12 (S47.keep0 hq4) (S7.keep0 hr6) upd_same
    rw [← List.append_assoc]
    exact (hR4.dT S47).ask
  · walk_at "rd"
    intro o dx ho hdx hne
    have S2 : Stp [] H1 (upd (upd H1 dx (.own o)) o (.ins A.LastPour dx [])) := ((Stp.refl [] H1).new hdx).putN ho
    refine ⟨o, D, I, log, pa, sing I.n, rfl, ⟨⟨dx, upd_same⟩, hA1.stp S2 (by simp), S2.keep0 hD1, hpls.stp S2 (by simp), hPc, hA1.freshO ho, by rw [sing_sum]; omega, by omega⟩, kx.toM.sub0 ((S1.trans S2).mono (by simp)) (fun x hx => by
      rcases List.mem_cons.mp hx with rfl | hx
      · exact .inr (S1.dom _ ho)
      · exact .inl hx) (fun es2 ⟨W2, z2, hH2⟩ hT2 => by
      rw [sing_len] at hH2
      obtain ⟨es3, ord3, p3, ht3, hso⟩ := SoR.more I.or hH2 (c := I.n - 1 - m) (by omega) (I.n - 1 - m) [] [] _ _ .nil (by simp) (log ++ es2)
      exact ⟨es3, ht3, SoT.mkT hso (by omega)⟩), fun R H2 es0 W0 z hRo hRP hRf hH hT S3 hR => ⟨rfl, ?_⟩⟩
    subst hRo
    rw [sing_len] at hR hH
    have hf0 := hH.few
    have S13 : Stp I.M H H2 := (S1.mono (M' := I.M) (by simp)).trans ((S2.mono (M' := I.M) (by simp)).then S3 fun x hx => by
      rcases List.mem_cons.mp hx with rfl | hx
      · exact .inr ho
      · exact .inl hx)
    have fb : ∀ x ∈ R.base, H x = none := fun x hx => by
      by_cases e : x = R.o
      · subst e; exact S1.dom _ ho
      · exact S1.dom _ (S2.dom x (hRf x hx e))
    clear S3 S2 hRf hA1 hD1 hpls hne hdx
    walk_at "rd"
    intro D1 hD1
    rw [show ((I.n : Int) - 1 - (m : Int)).toNat = I.n - 1 - m by omega]
    refine lc_takes (b := true) (m := I.n - 1 - m) (j0 := 9) (te := tOrE (tMethSD A.Pour (Str.ofString "take") (sp_Pour_take K A) [] (WE fun c d x H' => E c d H') (tVar 4) tNil) (tMethSD A.LastPour (Str.ofString "take") (sp_LastPour_take K A) [] (WE fun c d x H' => E c d H') (tVar 4) tNil)) hRP (by omega) (by omega) hR hD1 (by rw [List.length_append]; omega) (fun v H' Q' ⟨g, W, log', x, esq, ord, hR', hx, hl, hle, hTk, hol, hTs, S3, kk⟩ => ?_) fun H3 g W es ord hTk hol hTs hel S3 hR3 ⟨x, hx⟩ hL3 => ?_
    · refine SH.r_orR ?_
      have ho' := hR'.st.ho
      show tMethSD A.LastPour (Str.ofString "take") (sp_LastPour_take K A) [] (WE fun c d x H' => E c d H') (tVar 4) tNil [some (.ref I.s), some (.int m), some (.int I.n), some (.ref D), some (.ref R.o), none, none, none, none, some v] H' Q'
      walk_at "rd"
      have S23 : Stp I.M H H' := S13.then S3 fun y hy => by
        simp only [PR.M, List.mem_cons] at hy
        rcases hy with hy | hy | hy
        · exact .inr (by rw [hy]; exact fb _ (by simp [PR.base]))
        · exact .inr (by rw [hy]; exact fb _ (by simp [PR.base]))
        · exact .inl hy
      rw [hRP] at hTk
      refine ⟨R, I, log', g, W, some x, rfl, ⟨hR', hx, hl⟩, fun x' ex => ?_, (fun e => by cases e), fun x' ex h1 h2 H2 es W' z hTk hT S hR2 => by cases ex; exact kk H2 es W' z hTk hT S hR2⟩
      cases ex
      rw [show log' = log ++ (es0 ++ esq) by rw [hle, List.append_assoc]]
      refine (kx.toM.sub S23 (fun m hm => .inl hm) (Told.app hT hTs) fun es2 ⟨W2, z2, hk2⟩ ht2 => ?_).toS
      rw [hRP] at hk2 hx
      obtain ⟨es3, ord3, p3, ht3, hso⟩ := SoR.more I.or hH (c := I.n - 1 - m) (by omega) (I.n - 1 - m - (ord.length + 1)) _ _ _ _ (hTk.snoc hx hk2) (by rw [List.length_append, List.length_singleton]; omega) (log ++ (es0 ++ esq) ++ es2)
      exact ⟨es3, ht3, SoT.mkT (by rw [show es0 ++ esq ++ es2 ++ es3 = es0 ++ (esq ++ es2 ++ es3) by simp]; exact hso) (by omega)⟩
    have S23 : Stp I.M H H3 := S13.then S3 fun y hy => by
      simp only [PR.M, List.mem_cons] at hy
      rcases hy with hy | hy | hy
      · exact .inr (by rw [hy]; exact fb _ (by simp [PR.base]))
      · exact .inr (by rw [hy]; exact fb _ (by simp [PR.base]))
      · exact .inl hy
    have hSo : SoR true I.n (I.n - 1 - m) (es0 ++ es) ord x.1 := ⟨es0, W0, z, es, g, W, x, hH, by rw [hRP] at hTk; exact hTk, hol, by rw [hRP, sing_len] at hx; exact hx, rfl, rfl⟩
    have hTs2 : Told I.or log (es0 ++ es) := Told.app hT hTs
    have hlt : ∀ p ∈ ord, p < I.n := fun p hp => by
      have hS0 : TSt true (sing I.n) (List.replicate I.n 0) W0 es0 := ⟨by rw [List.length_replicate, sing_len], fun i => by rw [rep_get]; exact Nat.zero_le _, z, by rw [sing_len]; exact hH.tre fun _ h => h⟩
      rw [hRP] at hTk
      have := (hTk.perm0 hS0).1 p hp
      exact this
    have hx1 : x.1 < I.n := by
      obtain ⟨z', t⟩ := hR3.tre
      obtain rfl : z' = some x := by have := t.at; rw [hx] at this; exact (Option.some.inj this).symm
      obtain ⟨i, _, hi, hf⟩ := t.from.resolve_left (by simp)
      obtain ⟨x1, x2⟩ := x
      obtain ⟨_, ps, h1, h2, _⟩ := frts_mem hf.symm
      exact hPc.lt ps (by rw [← hRP]; exact List.mem_of_getElem? h1) _ h2
    have ho3 := hR3.st.ho
    walk_at "rd"
    refine v_sortI (ns := ord.map fun n : Nat => (n : Int)) (by have := SqL.of (K := K) hL3; rw [nv_ints] at this; exact this) fun ns1 q1 hp1 hs1 hq1 => ?_
    obtain ⟨l1, hl1, hlp, hls⟩ := sorted_nats hp1 hs1
    subst hl1
    rw [← nv_ints]
    have S4 := (Stp.refl [] H3).new (o := .lst (nv l1)) hq1
    have hR4 := hR3.dT S4
    have hq4 := upd_same (H := H3) (a := q1) (o := .lst (nv l1))
    have q1H : H q1 = none := S23.dom _ hq1
    have S24 := S23.then0 S4
    generalize upd H3 q1 (.lst (nv l1)) = H4 at S4 hR4 hq4 S24 ⊢
    have ho4 := hR4.st.ho
    walk_at "rd"
    refine SH.r_orR ?_
    walk_at "rd"
    refine ⟨R, I, _, g, W, some x, rfl, ⟨hR4, hx⟩, fun H5 S5 => ?_⟩
    have hq5 := S5.keep0 hq4
    walk_at "rd"
    refine ⟨q1, I.n, x.1, l1, rfl, ⟨hq5, fun y hy => hlt y (hlp.mem_iff.mp hy), hx1, by omega⟩, fun q2 H6 hq2 S6 hr6 => ?_⟩
    walk_at "rd"
    intro t ht
    have S7 := (Stp.refl [] H6).new (o := .tup [V.ref q2, frI (some x), V.ref q1]) ht
    have S47 := (S5.trans S6).trans S7
    have n12 : q1 ≠ q2 := fun z => by rw [z, hq2] at hq5; cases hq5
    have hmm : (I.n - 1 - m) * I.n + I.n ≤ I.n * I.n := by rw [← Nat.succ_mul]; exact Nat.mul_le_mul_right _ (by omega)
    refine k _ t q2 q1 (es0 ++ es) _ l1 x.1 (.inr ⟨by omega, ord, hSo, hlp, hls, rfl⟩) hTs2 (S24.then0 S47) ?_ (by rw [List.length_append]; omega) ((S24.then0 S5).dom _ hq2) q1H (Ne.symm n12) (S7.keep0 hr6) (S47.keep0 hq4) upd_same
    rw [← List.append_assoc]
    exact (hR4.dT S47).ask
/-! ### what so-manieth told, in order -/
theorem Ahb.irr {b : Bool} {ks : List Int} {p : Nat} (h : Ahb b ks p p) : False := by cases b <;> exact (Ahd.asym h h)
theorem sing_zero {b : Bool} {n : Nat} : (rems b (sing n) (List.replicate n 0)).flatten = List.range n := by
  have e : rems b (sing n) (List.replicate n 0) = sing n := by
    apply List.ext_getElem?
    intro i
    by_cases h : i < (sing n).length
    · rw [rems_at h]
      have h' : i < n := by rw [sing_len] at h; exact h
      unfold remi
      rw [rep_get, List.drop_zero, List.getD_eq_getElem?_getD, sing_at h']
      cases b <;> rfl
    · rw [List.getElem?_eq_none (by rw [rems_len]; omega), List.getElem?_eq_none (by omega)]
  rw [e, sing_flat]
theorem sing_nd {n : Nat} : (sing n).flatten.Nodup := by rw [sing_flat]; exact List.nodup_range
theorem sing_pw {n : Nat} {ks : List Int} : ∀ ps ∈ sing n, ps.Pairwise (Ahd ks) := fun ps hp => by
  obtain ⟨i, _, rfl⟩ := List.mem_map.mp hp
  exact List.pairwise_singleton _ _
theorem SoR.tst {b : Bool} {n : Nat} {es0 : List Ent} {W0 : Wt} {z : Fr} (hH : Hold b (frts b (sing n) (List.replicate n 0)) 0 n (fun _ _ => none) es0 W0 z) : TSt b (sing n) (List.replicate n 0) W0 es0 :=
  ⟨by rw [List.length_replicate, sing_len], fun i => by rw [rep_get]; exact Nat.zero_le _, z, by rw [sing_len]; exact hH.tre fun _ h => h⟩
theorem SoR.order {b : Bool} {ks : List Int} {n c p : Nat} {es : List Ent} {ord : List Nat} (h : SoR b n c es ord p) (hT : ∀ e ∈ es, e.c = decide (getE ks e.a < getE ks e.b)) :
    ∃ rest, (ord ++ p :: rest).Perm (List.range n) ∧ ord.length = c ∧ ord.Pairwise (Ahb b ks) ∧ (∀ q ∈ ord, Ahb b ks q p ∧ ∀ r ∈ rest, Ahb b ks q r) ∧ ∀ r ∈ rest, Ahb b ks p r := by
  obtain ⟨es0, W0, z, es1, g, W', x, hH, hTk, hl, hx, rfl, rfl⟩ := h
  have hS := SoR.tst hH
  have h0 : ∀ e ∈ es0, e.c = decide (getE ks e.a < getE ks e.b) := fun e he => hT e (List.mem_append_left _ he)
  have h1 : ∀ e ∈ es1, e.c = decide (getE ks e.a < getE ks e.b) := fun e he => hT e (List.mem_append_right _ he)
  have z0 : Tkn b ks (sing n) (List.replicate n 0) [] := by have := Tkn.zero (b := b) (ks := ks) (P := sing n); rw [sing_len] at this; exact this
  obtain ⟨hS2, hk⟩ := hTk.tkn hS sing_nd sing_pw h0 h1 z0
  rw [List.nil_append] at hk
  obtain ⟨z1, t⟩ := hS2.tre
  obtain rfl : z1 = some x := by have := t.at; rw [sing_len, hx] at this; exact (Option.some.inj this).symm
  have hdis : ∀ i j x y, frts b (sing n) g i = some x → frts b (sing n) g j = some y → i ≠ j → x.1 ≠ y.1 := by
    intro i j x y hx hy hij e
    obtain ⟨x1, x2⟩ := x
    obtain ⟨y1, y2⟩ := y
    obtain ⟨_, ps, h1, h2, _⟩ := frts_mem hx
    obtain ⟨_, qs, h3, h4, _⟩ := frts_mem hy
    dsimp only at e
    subst e
    exact hij (flat_uniq sing_nd h1 h3 h2 h4)
  obtain ⟨hn, tl, htl, a1, a2⟩ := t.fore hT hdis sing_pw
  have hpm := hk.perm
  rw [sing_len, sing_zero] at hpm
  have hxm : x.1 ∈ (rems b (sing n) g).flatten := List.mem_flatten.mpr ⟨_, List.mem_of_getElem? (rems_at hn), by rw [htl]; simp⟩
  have hpe := List.perm_cons_erase hxm
  have hnd : (rems b (sing n) g).flatten.Nodup := (List.nodup_append.mp (hpm.nodup_iff.mpr List.nodup_range)).2.1
  refine ⟨(rems b (sing n) g).flatten.erase x.1, (List.Perm.append_left _ hpe.symm).trans hpm, hl, hk.pw, fun q hq => ⟨?_, fun r hr => ?_⟩, fun r hr => ?_⟩
  · exact hk.bef q hq _ (List.mem_of_getElem? (rems_at hn)) _ (by rw [htl]; simp)
  · obtain ⟨qs, h3, h4⟩ := List.mem_flatten.mp (List.mem_of_mem_erase hr)
    exact hk.bef q hq qs h3 r h4
  · have hne : r ≠ x.1 := ((hnd.mem_erase_iff).mp hr).1
    obtain ⟨qs, h3, h4⟩ := List.mem_flatten.mp (List.mem_of_mem_erase hr)
    obtain ⟨i, hi⟩ := List.mem_iff_getElem?.mp h3
    have hil := (List.getElem?_eq_some_iff.mp hi).1
    rw [rems_len] at hil
    rw [rems_at hil] at hi
    cases hi
    by_cases e : i = x.2
    · subst e
      rw [htl] at h4
      rcases List.mem_cons.mp h4 with h4 | h4
      · exact absurd h4 hne
      · exact a1 r h4
    · exact a2 i hil e r h4
theorem mem_restF {n x : Nat} {l : List Nat} : x ∈ restF n l ↔ x < n ∧ x ∉ l := by simp [restF]
theorem restF_srt {n : Nat} {l : List Nat} : (restF n l).Pairwise (· ≤ ·) := List.Pairwise.filter _ (List.pairwise_lt_range.imp Nat.le_of_lt)
theorem restF_nd {n : Nat} {l : List Nat} : (restF n l).Nodup := List.Pairwise.filter _ List.nodup_range
/-- the rest is what a list of all leaves -/
theorem restF_perm {n p : Nat} {l a b : List Nat} (h : (a ++ p :: b).Perm (List.range n)) (hl : l.Perm a) : (restF n (l ++ [p])).Perm b := by
  have hnd := h.nodup_iff.mpr List.nodup_range
  obtain ⟨n1, n2, n3⟩ := List.nodup_append.mp hnd
  obtain ⟨n4, n5⟩ := List.nodup_cons.mp n2
  refine (List.perm_ext_iff_of_nodup restF_nd n5).mpr fun x => ?_
  rw [mem_restF, ← List.mem_range, ← h.mem_iff, List.mem_append, List.mem_cons, List.mem_append, List.mem_singleton, hl.mem_iff]
  constructor
  · rintro ⟨h1, h2⟩
    rcases h1 with h1 | h1 | h1
    · exact absurd (.inl h1) h2
    · exact absurd (.inr h1) h2
    · exact h1
  · intro hx
    refine ⟨.inr (.inr hx), fun z => ?_⟩
    rcases z with z | z
    · exact n3 x z x (List.mem_cons_of_mem _ hx) rfl
    · subst z; exact n4 hx
/-- what so-manieth told, beside the order -/
structure SoIs (ks : List Int) (ord : List Nat) (m : Nat) (l1 l2 : List Nat) (p : Nat) : Prop where
  at_ : ord[m]? = some p
  p1 : l1.Perm (ord.take m)
  s1 : l1.Pairwise (· ≤ ·)
  p2 : l2.Perm (ord.drop (m + 1))
  s2 : l2.Pairwise (· ≤ ·)
theorem SoT.is {ks : List Int} {n m p : Nat} {es : List Ent} {l1 l2 ord : List Nat} (h : SoT n m es l1 l2 p) (hO : OrdOf ks ord) (hn : n = ks.length) (hm : m < n) (hT : ∀ e ∈ es, e.c = decide (getE ks e.a < getE ks e.b)) : SoIs ks ord m l1 l2 p := by
  rcases h with ⟨hc, o1, hS, hp, hs, rfl⟩ | ⟨hc, o1, hS, hp, hs, rfl⟩
  · obtain ⟨rest, h1, h2, h3, h4, h5⟩ := hS.order hT
    have hr : (ord.filter fun x => decide (x ∈ rest)).Perm rest := by
      have hnd := h1.nodup_iff.mpr List.nodup_range
      refine (List.perm_ext_iff_of_nodup (List.Pairwise.filter _ hO.nodup) (List.nodup_cons.mp (List.nodup_append.mp hnd).2.1).2).mpr fun x => ?_
      rw [List.mem_filter, decide_eq_true_eq, hO.perm.mem_iff, ← hn, ← h1.mem_iff]
      exact ⟨fun z => z.2, fun z => ⟨by simp [z], z⟩⟩
    have hrp : (ord.filter fun x => decide (x ∈ rest)).Pairwise (Ahd ks) := List.Pairwise.filter _ hO.pw
    generalize (ord.filter fun x => decide (x ∈ rest)) = r2 at hr hrp
    have e : ord = o1 ++ p :: r2 := by
      refine List.Perm.eq_of_pairwise (fun _ _ _ _ x y => (Ahd.asym x y).elim) hO.pw ?_ (hO.perm.trans (by rw [← hn]; exact (h1.symm.trans (List.Perm.append_left _ (List.Perm.cons _ hr.symm)))))
      refine List.pairwise_append.mpr ⟨h3, List.pairwise_cons.mpr ⟨fun r z => h5 r (hr.mem_iff.mp z), hrp⟩, fun a ha b hb => ?_⟩
      rcases List.mem_cons.mp hb with rfl | hb
      · exact (h4 a ha).1
      · exact (h4 a ha).2 b (hr.mem_iff.mp hb)
    have hrf := restF_perm h1 hp
    subst e
    refine ⟨by rw [List.getElem?_append_right (by omega), h2, Nat.sub_self]; rfl, ?_, hs, ?_, restF_srt⟩
    · rw [List.take_left' h2]; exact hp
    · rw [show o1 ++ p :: r2 = (o1 ++ [p]) ++ r2 by simp, List.drop_left' (by simp [h2])]
      exact hrf.trans hr.symm
  · obtain ⟨rest, h1, h2, h3, h4, h5⟩ := hS.order hT
    have hr : (ord.filter fun x => decide (x ∈ rest)).Perm rest := by
      have hnd := h1.nodup_iff.mpr List.nodup_range
      refine (List.perm_ext_iff_of_nodup (List.Pairwise.filter _ hO.nodup) (List.nodup_cons.mp (List.nodup_append.mp hnd).2.1).2).mpr fun x => ?_
      rw [List.mem_filter, decide_eq_true_eq, hO.perm.mem_iff, ← hn, ← h1.mem_iff]
      exact ⟨fun z => z.2, fun z => ⟨by simp [z], z⟩⟩
    have hrp : (ord.filter fun x => decide (x ∈ rest)).Pairwise (Ahd ks) := List.Pairwise.filter _ hO.pw
    generalize (ord.filter fun x => decide (x ∈ rest)) = r2 at hr hrp
    have hpp : (r2 ++ p :: o1.reverse).Perm (List.range n) := by
      refine List.Perm.trans ?_ h1
      have q1 : (r2 ++ p :: o1.reverse).Perm (rest ++ p :: o1) := hr.append (List.Perm.cons _ (List.reverse_perm _))
      refine q1.trans (List.perm_middle.trans (List.Perm.trans (List.Perm.cons _ List.perm_append_comm) List.perm_middle.symm))
    have e : ord = r2 ++ p :: o1.reverse := by
      refine List.Perm.eq_of_pairwise (fun _ _ _ _ x y => (Ahd.asym x y).elim) hO.pw ?_ (hO.perm.trans (by rw [← hn]; exact hpp.symm))
      refine List.pairwise_append.mpr ⟨hrp, List.pairwise_cons.mpr ⟨fun r z => (h4 r (List.mem_reverse.mp z)).1, List.pairwise_reverse.mpr h3⟩, fun a ha b hb => ?_⟩
      rcases List.mem_cons.mp hb with rfl | hb
      · exact h5 a (hr.mem_iff.mp ha)
      · exact (h4 b (List.mem_reverse.mp hb)).2 a (hr.mem_iff.mp ha)
    have hl := hO.len
    have hrf := restF_perm h1 hp
    subst e
    rw [List.length_append, List.length_cons, List.length_reverse] at hl
    have hrl : r2.length = m := by omega
    refine ⟨by rw [List.getElem?_append_right (by omega), hrl, Nat.sub_self]; rfl, ?_, restF_srt, ?_, hs⟩
    · rw [List.take_left' hrl]; exact hrf.trans hr.symm
    · rw [show r2 ++ p :: o1.reverse = (r2 ++ [p]) ++ o1.reverse by simp, List.drop_left' (by simp [hrl])]
      exact hp.trans (List.reverse_perm _).symm
theorem le_bits {n : Nat} : n ≤ 2 ^ Builtin.Int.intBits ((n - 1 : Nat) : Int) := by
  by_cases h : 2 ≤ n
  · have h1 := bits_lt (n := ((n - 1 : Nat) : Int)) (by omega)
    have h2 : ((n - 1 : Nat) : Int) < ((2 ^ Builtin.Int.intBits ((n - 1 : Nat) : Int) : Nat) : Int) := by rw [Int.natCast_pow]; exact h1
    omega
  · exact Nat.le_trans (by omega) Nat.one_le_two_pow
theorem SoR.few {b : Bool} {n c p d : Nat} {es : List Ent} {ord : List Nat} (h : SoR b n c es ord p) (hn : 0 < n) (hd : n ≤ 2 ^ d) : es.length + 1 ≤ n + c * d := by
  obtain ⟨es0, W0, z, es1, g, W', x, hH, hTk, hl, hx, rfl, rfl⟩ := h
  have h1 := hTk.few (d := d) fun n' x z W W' es h => h.deep d (by rw [sing_len]; omega)
  have hc := hH.count
  have h0 := hH.few
  rw [hl] at h1
  rw [List.length_append]
  by_cases hz : z = none
  · have := hH.zero hz
    omega
  · rw [if_neg hz] at hc
    have : cntF (frts b (sing n) (List.replicate n 0)) 0 (n - 0) ≤ n := by
      unfold cntF
      refine Nat.le_trans (List.length_filter_le _ _) (by simp)
    omega
theorem SoT.few {n m p d : Nat} {es : List Ent} {l1 l2 : List Nat} (h : SoT n m es l1 l2 p) (hn : 0 < n) (hd : n ≤ 2 ^ d) : es.length + 1 ≤ n + Min.min m (n - 1 - m) * d := by
  rcases h with ⟨hc, o1, hS, _⟩ | ⟨hc, o1, hS, _⟩
  · rw [Nat.min_eq_left hc]; exact hS.few hn hd
  · rw [Nat.min_eq_right (by omega)]; exact hS.few hn hd
/-! ### poured apart -/
def SoE (b : Bool) (n c : Nat) (es : List Ent) : Prop := ∃ es0 W0 z es1 ord g' W', Hold b (frts b (sing n) (List.replicate n 0)) 0 n (fun _ _ => none) es0 W0 z ∧ Takes b (sing n) (List.replicate n 0) W0 es1 ord g' W' ∧ ord.length = c ∧ es = es0 ++ es1
def SoEs (n m : Nat) (es : List Ent) : Prop := (m ≤ n - 1 - m ∧ SoE false n m es) ∨ (¬ m ≤ n - 1 - m ∧ SoE true n (n - 1 - m) es)
theorem SoT.e {n m p : Nat} {es : List Ent} {l1 l2 : List Nat} (h : SoT n m es l1 l2 p) : SoEs n m es := by
  rcases h with ⟨hc, o1, ⟨es0, W0, z, es1, g, W', x, hH, hTk, hl, hx, _, e⟩, _⟩ | ⟨hc, o1, ⟨es0, W0, z, es1, g, W', x, hH, hTk, hl, hx, _, e⟩, _⟩
  · exact .inl ⟨hc, es0, W0, z, es1, o1, g, W', hH, hTk, hl, e⟩
  · exact .inr ⟨hc, es0, W0, z, es1, o1, g, W', hH, hTk, hl, e⟩
theorem SoE.uniq {b : Bool} {f : Nat → Nat → Bool} {n c : Nat} {es es' : List Ent} (h : SoE b n c es) (h' : SoE b n c es') (hT : ∀ e ∈ es, e.c = f e.a e.b) (hT' : ∀ e ∈ es', e.c = f e.a e.b) : es = es' := by
  obtain ⟨a0, W0, z, a1, ord, g, W', hH, hTk, hl, rfl⟩ := h
  obtain ⟨b0, W2, z2, b1, ord2, g2, W3, hH2, hTk2, hl2, rfl⟩ := h'
  obtain ⟨rfl, rfl, _⟩ := hH.uniq hH2 (fun e he => hT e (List.mem_append_left _ he)) (fun e he => hT' e (List.mem_append_left _ he))
  obtain ⟨rfl, _⟩ := hTk.uniq hTk2 (by rw [hl, hl2]) (fun e he => hT e (List.mem_append_right _ he)) (fun e he => hT' e (List.mem_append_right _ he))
  rfl
theorem SoEs.uniq {f : Nat → Nat → Bool} {n m : Nat} {es es' : List Ent} (h : SoEs n m es) (h' : SoEs n m es') (hT : ∀ e ∈ es, e.c = f e.a e.b) (hT' : ∀ e ∈ es', e.c = f e.a e.b) : es = es' := by
  rcases h with ⟨a, h⟩ | ⟨a, h⟩ <;> rcases h' with ⟨b, h'⟩ | ⟨b, h'⟩
  · exact h.uniq h' hT hT'
  · exact (b a).elim
  · exact (a b).elim
  · exact h.uniq h' hT hT'
theorem SoE.gt {b : Bool} {n c : Nat} {es : List Ent} (h : SoE b n c es) : ∀ e ∈ es, e.b < e.a := by
  obtain ⟨es0, W0, z, es1, ord, g, W', hH, hTk, hl, rfl⟩ := h
  intro e he
  rcases List.mem_append.mp he with he | he
  · exact hH.gt sing_nd e he
  · exact hTk.gt (SoR.tst hH) sing_nd e he
theorem SoEs.gt {n m : Nat} {es : List Ent} (h : SoEs n m es) : ∀ e ∈ es, e.b < e.a := by
  rcases h with ⟨_, h⟩ | ⟨_, h⟩ <;> exact h.gt
/-! ### rows of pairs (key, place), any keys -/
def sp__law_stream (K : PySem.W.Frag) (A : Ad) : Sp := fun vs H Q _ => ∃ (c : Int) (n : Nat), vs = [.int c, .int n] ∧ n ≤ 1000 ∧
  ∀ (q : Addr) (H' : Hp) (ms : List Int), H q = none → Stp [] H H' → H' q = some (.lst (ms.map V.int)) → ms.length = n → Q (.ref q) H'
theorem ok__law_stream {P : Program} {w : World} {K : PySem.W.Frag} {mg : Str → Option Value} {base : Heap} {A : Ad} {f : Addr} {fd : FuncData} (F : Fun K "_law_stream" "_law_stream" s__law_stream f fd) (T : Txt K mg A)  : FnOk P w K mg base CX0 1 f fd ["_law_seed", "_law_many_here"] (sp__law_stream K A) := by
  refine F.ok sc__law_stream (fun vs H Q E h => by obtain ⟨_, _, rfl, _⟩ := h; rfl) (fun cdv A' outer s H vs Q E hr h => ?_)
  obtain ⟨c, n, rfl, hn, k⟩ := h
  refine ⟨_, (pss_cons (ps_set (i := 2) sc__law_stream.nd rfl (Or.inl rfl) (pe_lst pa_nil))
        (pss_cons (ps_set (i := 3) sc__law_stream.nd rfl (Or.inl rfl) (pe_op SH.oAdd (pe_op SH.oMod (pv 0) pe_int) pe_int))
        (pss_cons (ps_for PassesOwn.never rfl (pi_range1 (by rfl) T.z_range (pa_cons (pv 1) pa_nil)) (pg_name (i := 4) sc__law_stream.nd rfl (Or.inl rfl)) (pss_cons (ps_set (i := 3) sc__law_stream.nd rfl (Or.inl rfl) (pe_op SH.oMod (pe_op SH.oAdd (pe_op SH.oAdd (pe_op SH.oMul (pv 3) (pv 3)) (pe_op SH.oMul pe_int (pv 4))) pe_int) pe_int))
        (pss_one (ps_expr (pe_bm PySem.F.plainAttrs_list PySem.F.slot_list_append PySem.F.type_list_append mt_append (pv 2) (pa_cons (pv 3) pa_nil))))))
        (pss_one (ps_ret (pv 2)))))), ?_⟩
  walk_at "begin"
  walk_at "rd"
  intro q hq
  walk_at "rd"
  refine for_it walk_range (fun j σ H' => (∃ ms : List Int, ms.length = j ∧ H' = upd H q (.lst (ms.map V.int))) ∧ ∃ (x : Int) (v4 : Option V), (0 ≤ x ∧ x < 4294967296) ∧ σ = [some (.int c), some (.int n), some (.ref q), some (.int x), v4]) ⟨⟨[], rfl, rfl⟩, _, _, ⟨by omega, by omega⟩, rfl⟩ (fun _ _ _ _ _ => True.intro) ?_ ?_
  · rintro j x σ H2 H3 hj ⟨⟨ms, hl', rfl⟩, x', v4, ⟨h0, h1⟩, rfl⟩ ⟨rfl, rfl⟩
    walk_at "rd"
    refine v_app (xs := ms.map V.int) upd_same (by rw [List.length_map]; omega) ?_
    walk_at "rd"
    refine ⟨⟨ms ++ [_], by simp [hl'], by rw [upd_upd, List.map_append]; rfl⟩, _, _, ⟨by omega, by omega⟩, rfl⟩
  · rintro σ H2 ⟨⟨ms, hl', rfl⟩, x', v4, _, rfl⟩
    walk_at "rd"
    exact k q _ ms hq ((Stp.refl _ _).new hq) upd_same (by omega)

def sp__law_numbers (K : PySem.W.Frag) (A : Ad) : Sp := fun vs H Q _ => ∃ (a : Addr) (ns : List Int), vs = [.ref a] ∧ (SqL K H a (ns.map V.int) ∧ ns.length ≤ 63) ∧
  ∀ (q : Addr) (H' : Hp) (ms : List Int), H q = none → Stp [] H H' → H' q = some (.lst (ms.map V.int)) → ms.length ≤ 63 → Q (.ref q) H'
theorem ok__law_numbers {P : Program} {w : World} {K : PySem.W.Frag} {mg : Str → Option Value} {base : Heap} {A : Ad} {f : Addr} {fd : FuncData} (F : Fun K "_law_numbers" "_law_numbers" s__law_numbers f fd) (T : Txt K mg A) (C__law_cell_at : SH.Cal P w K mg base CX0 1 "_law_cell_at" [] (sp__law_cell_at K A)) (C__law_stream : SH.Cal P w K mg base CX0 1 "_law_stream" [] (sp__law_stream K A)) : FnOk P w K mg base CX0 2 f fd ["_law_script"] (sp__law_numbers K A) := by
  refine F.ok sc__law_numbers (fun vs H Q E h => by obtain ⟨_, _, rfl, _⟩ := h; rfl) (fun cdv A' outer s H vs Q E hr h => ?_)
  obtain ⟨a, ns, rfl, ⟨hS, hl⟩, k⟩ := h
  refine ⟨_, (pss_cons (ps_if (pt_cmpR (SH.oEq hr.units) (pe_op SH.oMod (SH.pe_callF C__law_cell_at hr (by rfl) pass0 (pa_cons (pv 0) (pa_cons pe_int pa_nil))) pe_int) pe_int (nomark _)) (pss_one (ps_ret (SH.pe_callF C__law_stream hr (by rfl) pass0 (pa_cons (SH.pe_callF C__law_cell_at hr (by rfl) pass0 (pa_cons (pv 0) (pa_cons pe_int pa_nil))) (pa_cons (pe_op SH.oMod (pe_op SH.oDiv (SH.pe_callF C__law_cell_at hr (by rfl) pass0 (pa_cons (pv 0) (pa_cons pe_int pa_nil))) pe_int) pe_int) pa_nil))))) pss_nil)
        (pss_one (ps_ret (pe_slice sl_list (pv 0) (po_some pe_int) (po_some pe_int))))), ?_⟩
  walk_at "begin"
  walk_at "rd"
  refine ⟨a, ns, 0, rfl, hS, fun c0 => ?_⟩
  walk_at "rd"
  refine r_w (fun hc => ?_) fun hc => ?_
  · walk_at "rd"
    refine ⟨a, ns, 1, rfl, hS, fun c1 => ?_⟩
    walk_at "rd"
    refine ⟨a, ns, 0, rfl, hS, fun c2 => ?_⟩
    walk_at "rd"
    obtain ⟨m, hm⟩ : ∃ m : Nat, c2 / 4 % 41 = m := ⟨(c2 / 4 % 41).toNat, by omega⟩
    rw [hm]
    refine ⟨c1, m, rfl, by omega, fun q H1 ms hq S1 hQ hml => ?_⟩
    exact k q H1 ms hq S1 hQ (by omega)
  · walk_at "rd"
    intro q hq
    rw [cut_map]
    exact k q _ _ hq ((Stp.refl _ _).new hq) upd_same (Nat.le_trans (cutL_len _ _ _) (by omega))
def sp__law_row (K : PySem.W.Frag) (A : Ad) : Sp := fun vs H Q _ => ∃ (a : Addr) (ns : List Int) (c : Int), vs = [.ref a, .int c] ∧ (SqL K H a (ns.map V.int) ∧ ns.length ≤ 300) ∧
  ∀ (q : Addr) (H' : Hp) (row : List V) (ks : List Int), H q = none → Stp [] H H' → H' q = some (.lst row) → RowP H' row ks → ks.length = ns.length → Q (.ref q) H'
theorem ok__law_row {P : Program} {w : World} {K : PySem.W.Frag} {mg : Str → Option Value} {base : Heap} {A : Ad} {f : Addr} {fd : FuncData} (F : Fun K "_law_row" "_law_row" s__law_row f fd) (T : Txt K mg A)  : FnOk P w K mg base CX0 1 f fd ["_law_numbers_here", "_law_kind"] (sp__law_row K A) := by
  refine F.ok sc__law_row (fun vs H Q E h => by obtain ⟨_, _, _, rfl, _⟩ := h; rfl) (fun cdv A' outer s H vs Q E hr h => ?_)
  obtain ⟨a, ns, c, rfl, ⟨hS, hl⟩, k⟩ := h
  refine ⟨_, (pss_cons (ps_set (i := 2) sc__law_row.nd rfl (Or.inr rfl) (pe_ix SH.ixA (pe_lst (pa_cons pe_int (pa_cons pe_int (pa_cons pe_int (pa_cons (pe_op SH.oPow pe_int pe_int) pa_nil))))) (pe_op SH.oMod (pv 1) pe_int) (fun _ _ => rfl)))
        (pss_cons (ps_set (i := 3) sc__law_row.nd rfl (Or.inr rfl) (pe_lc (own := [("_law_number", 4)]) (g := (gName 4)) (tt := tYes) (by rfl) sc__law_row.nd (pi_list (pv 0)) (blkOk_by (own := [("_law_number", 4)]) (N := ["_law_numbers_here", "_law_kind", "_law_base", "_law_keys", "_law_number", "_law_k"]) (sc := defScope s__law_row) (by decide +kernel)) (fun _ _ _ _ _ => (pg_name (i := 4) sc__law_row.nd rfl (Or.inl rfl))) (fun _ _ _ _ _ => pts_nil) (fun _ _ _ _ _ => (pe_op SH.oSub (pe_op SH.oMod (pv 4) (pv 2)) (pe_op SH.oDiv (pv 2) pe_int)))))
        (pss_cons (ps_if (pt_cmpR (SH.oEq hr.units) (pe_op SH.oMod (pe_op SH.oDiv (pv 1) pe_int) pe_int) pe_int (nomark _)) (pss_one (ps_set (i := 3) sc__law_row.nd rfl (Or.inr rfl) (pe_callB cr_sortedI (by rfl) T.z_sorted (by decide +kernel) (pa_cons (pv 3) pa_nil)))) pss_nil)
        (pss_cons (ps_if (pt_cmpR (SH.oEq hr.units) (pe_op SH.oMod (pe_op SH.oDiv (pv 1) pe_int) pe_int) pe_int (nomark _)) (pss_one (ps_set (i := 3) sc__law_row.nd rfl (Or.inr rfl) (pe_callBK (cr_sortedRev (b := true)) (by rfl) T.z_sorted (by decide +kernel) (pa_cons (pv 3) pa_nil) (pk_cons pe_bl pk_nil)))) pss_nil)
        (pss_one (ps_ret (pe_lc (own := [("_law_k", 5)]) (g := (gName 5)) (tt := tYes) (by rfl) sc__law_row.nd (pi_range1 (by rfl) T.z_range (pa_cons (pe_callB SH.cLen (by rfl) T.z_len (by decide +kernel) (pa_cons (pv 3) pa_nil)) pa_nil)) (blkOk_by (own := [("_law_k", 5)]) (N := ["_law_numbers_here", "_law_kind", "_law_base", "_law_keys", "_law_number", "_law_k"]) (sc := defScope s__law_row) (by decide +kernel)) (fun _ _ _ _ _ => (pg_name (i := 5) sc__law_row.nd rfl (Or.inl rfl))) (fun _ _ _ _ _ => pts_nil) (fun _ _ _ _ _ => (pe_tup (pa_cons (pe_ix (SH.ixK SH.aIx K SH.ixA) (pv 3) (pv 5) (fun _ _ => rfl)) (pa_cons (pv 5) pa_nil))))))))))), ?_⟩
  walk_at "begin"
  walk_at "rd"
  intro wl hwl
  walk_at "rd"
  refine v_ixMod (m := 4) (by walk_at "sq") rfl (by decide) fun v hv => ?_
  have hv' : ∃ m : Int, v = .int m ∧ 0 < m := by
    rcases List.mem_cons.mp hv with rfl | hv
    · exact ⟨_, rfl, by decide⟩
    rcases List.mem_cons.mp hv with rfl | hv
    · exact ⟨_, rfl, by decide⟩
    rcases List.mem_cons.mp hv with rfl | hv
    · exact ⟨_, rfl, by decide⟩
    rw [List.mem_singleton] at hv
    exact ⟨_, hv, big60_pos⟩
  obtain ⟨base, rfl, hw⟩ := hv'
  clear hv
  walk_at "rd"
  intro D hD
  have hS1 : SqL K (upd H wl (.lst [.int 2, .int 7, .int 300, .int big60])) a (ns.map V.int) := sql_upd hS hwl
  have hD0 : H D = none := (upd_free hD).1
  refine lc_it (walk_list (xs := ns.map V.int)) (fun j H' => Stp [] H H' ∧ SqL K H' a (ns.map V.int) ∧ ∃ ms : List Int, ms.length = j ∧ H' D = some (.lst (ms.map V.int))) ⟨((Stp.refl [] H).new hwl).new hD, sql_upd hS1 hD, [], rfl, upd_same⟩ (fun j H' _ z => z.2.1) ?_ ?_
  · rintro j x H2 H3 hj ⟨S, hq, ms, hml, hL⟩ ⟨rfl, hx⟩
    obtain ⟨n, hn, rfl⟩ := map_at hx
    walk_at "rd"
    have S2 := S.putN (o := .lst (ms.map V.int ++ [.int (n % base - base / 2)])) hD0
    exact ⟨_, hL, Nat.lt_of_le_of_lt (m := 300) (by rw [List.length_map] at hj ⊢; omega) (by decide), S2, S2.sql0 hS, ms ++ [_], by simp [hml], by rw [upd_same, List.map_append]; rfl⟩
  rintro H1 ⟨S1, _, ks, hkl, hL⟩
  rw [List.length_map] at hkl
  clear hD hwl hS1
  walk_at "rd"
  refine r_wJ (W := fun σ H' => Stp [] H H' ∧ ∃ (D : Addr) (ks : List Int), ks.length = ns.length ∧ H' D = some (.lst (ks.map V.int)) ∧ σ = [some (.ref a), some (.int c), some (.int base), some (.ref D), none, none]) ?_ (fun hc N hN => ?_) (fun hc N hN => ?_)
  · clear hkl hL S1 hD0 ks D
    rintro σ H2 ⟨S2, D, ks, hkl, hL, rfl⟩
    dsimp only
    walk_at "rd"
    refine r_wJ (W := fun σ H' => Stp [] H H' ∧ ∃ (D : Addr) (ks : List Int), ks.length = ns.length ∧ H' D = some (.lst (ks.map V.int)) ∧ σ = [some (.ref a), some (.int c), some (.int base), some (.ref D), none, none]) ?_ (fun hc N hN => ?_) (fun hc N hN => ?_)
    · clear hkl hL S2 ks D
      rintro σ H3 ⟨S3, D, ks, hkl, hL, rfl⟩
      dsimp only
      walk_at "rd"
      intro E1 hE1
      refine lc_it walk_range (fun j H' => Stp [] H3 H' ∧ ∃ row, row.length = j ∧ RowP H' row (ks.take j) ∧ H' E1 = some (.lst row)) ⟨(Stp.refl _ _).new hE1, [], rfl, ⟨rfl, fun i v e => by cases e⟩, upd_same⟩ (fun j H' _ z => True.intro) ?_ ?_
      · rintro j x H4 H5 hj ⟨S, row, hrl, hrow, hL4⟩ ⟨rfl, rfl⟩
        have hj' : j < ks.length := by omega
        have hK5 := S.keep0 hL
        walk_at "rd"
        refine v_ixE (n := j) (SqL.of hK5) (by omega) hj' ?_
        walk_at "rd"
        simp only [Int.zero_add]
        intro t ht
        have htD : t ≠ E1 := (ne_of_none hL4 ht).symm
        have S6 : Stp [E1] H5 (upd (upd H5 t (.tup [.int (getE ks j), .int (j : Nat)])) E1 (.lst (row ++ [.ref t]))) := ((Stp.refl [E1] H5).new ht).putL (by simp) (upd_old hL4 ht)
        refine ⟨_, upd_old hL4 ht, Nat.lt_of_le_of_lt (m := 300) (by omega) (by decide), (S.new ht).putN hE1, row ++ [.ref t], by simp [hrl], ?_, upd_same⟩
        have e : ks.take (j + 1) = ks.take j ++ [getE ks j] := by rw [List.take_succ, List.getElem?_eq_getElem hj']; simp [getE, hj']
        rw [e]
        refine RowP.app (hrow.stp S6) ?_
        rw [upd_ne htD, upd_same, hrl]
      rintro H4 ⟨S4, row, hrl, hrow, hL4⟩
      have hn : (ks.length : Int).toNat = ks.length := by omega
      rw [hn, List.take_length] at hrow
      walk_at "rd"
      exact k E1 _ row ks (S3.dom _ hE1) (S3.trans S4) hL4 hrow hkl
    · walk_at "rd"
      refine ⟨D, ks, rfl, rfl, SqL.of hL, fun ps q hpp _ hq => ?_⟩
      walk_at "rd"
      exact hN _ _ ⟨S2.new hq, q, ps, by rw [hpp.length_eq]; exact hkl, upd_same, rfl⟩
    · walk_at "rd"
      exact hN _ _ ⟨S2, D, ks, hkl, hL, rfl⟩
  · walk_at "rd"
    refine v_sortI (SqL.of hL) fun ps q hpp _ hq => ?_
    walk_at "rd"
    exact hN _ _ ⟨S1.new hq, q, ps, by rw [hpp.length_eq]; exact hkl, upd_same, rfl⟩
  · walk_at "rd"
    exact hN _ _ ⟨S1, D, ks, hkl, hL, rfl⟩
/-! ### told -/
def sp__law_many (K : PySem.W.Frag) (A : Ad) : Sp := fun vs H Q _ => ∃ (n : Nat) (one two : Int), vs = [.int n, .int one, .int two] ∧ 0 < n ∧
  ∀ (m : Nat) H', m < n → Stp [] H H' → Q (.int m) H'
theorem ok__law_many {P : Program} {w : World} {K : PySem.W.Frag} {mg : Str → Option Value} {base : Heap} {A : Ad} {f : Addr} {fd : FuncData} (F : Fun K "_law_many" "_law_many" s__law_many f fd) (T : Txt K mg A)  : FnOk P w K mg base CX0 1 f fd ["_law_total", "_law_one", "_law_two"] (sp__law_many K A) := by
  refine F.ok sc__law_many (fun vs H Q E h => by obtain ⟨_, _, _, rfl, _⟩ := h; rfl) (fun cdv A' outer s H vs Q E hr h => ?_)
  obtain ⟨n, one, two, rfl, hn, k⟩ := h
  refine ⟨_, (pss_cons (ps_set (i := 3) sc__law_many.nd rfl (Or.inl rfl) (pe_op SH.oMod (pv 2) pe_int))
        (pss_cons (ps_if (pt_cmpR (SH.oLt hr.units0) (pv 3) pe_int (nomark _)) (pss_one (ps_ret (pe_op SH.oMod (pv 1) (pv 0)))) pss_nil)
        (pss_one (ps_ret (pe_ix SH.ixA (pe_lst (pa_cons pe_int (pa_cons (pe_op SH.oSub (pv 0) pe_int) (pa_cons (pe_op SH.oDiv (pe_op SH.oSub (pv 0) pe_int) pe_int) (pa_cons (pe_op SH.oDiv (pv 0) pe_int) pa_nil))))) (pe_op SH.oSub (pv 3) pe_int) (fun _ _ => rfl)))))), ?_⟩
  walk_at "begin"
  walk_at "rd"
  refine r_w (fun hw => ?_) fun hw => ?_
  · walk_at "rd"
    have f0 := Int.emod_nonneg one (show (n : Int) ≠ 0 by omega)
    have f1 := Int.emod_lt_of_pos one (show (0 : Int) < n by omega)
    obtain ⟨m, hm⟩ : ∃ m : Nat, one % (n : Int) = m := ⟨(one % (n : Int)).toNat, by omega⟩
    rw [hm] at f1 ⊢
    exact k m _ (by omega) (.refl _ _)
  · walk_at "rd"
    intro q hq
    walk_at "rd"
    obtain ⟨i, hi, hi4⟩ : ∃ i : Nat, two % 6 - 2 = i ∧ i < 4 := ⟨(two % 6 - 2).toNat, by omega, by omega⟩
    rw [hi]
    have hx : ∃ m : Nat, m < n ∧ [V.int 0, V.int ((n : Int) - 1), V.int (((n : Int) - 1) / 2), V.int ((n : Int) / 2)][i]? = some (V.int m) := by
      rcases i with _ | _ | _ | _ | i
      · exact ⟨0, by omega, rfl⟩
      · exact ⟨n - 1, by omega, by simp; omega⟩
      · exact ⟨(n - 1) / 2, by omega, by simp; omega⟩
      · exact ⟨n / 2, by omega, by simp⟩
      · omega
    obtain ⟨m, hm, hx⟩ := hx
    refine v_ixLn (n := i) (SqL.of upd_same) rfl hx ?_
    exact k m _ hm ((Stp.refl _ _).new hq)
theorem isl_ofat {α : Type} [Enc α] {K : PySem.W.Frag} {H : Hp} : ∀ {vs : List V} {xs : List α}, vs.length = xs.length → (∀ (i : Nat) (v : V) (x : α), vs[i]? = some v → xs[i]? = some x → SH.Is K H v x) → SH.IsL K H vs xs
  | [], [], _, _ => isl_nil
  | [], _ :: _, h, _ => by simp at h
  | _ :: _, [], h, _ => by simp at h
  | v :: vs, x :: xs, h, k => isl_cons (k 0 v x rfl rfl) (isl_ofat (by simpa using h) fun i v' x' hv hx => k (i + 1) v' x' (by rw [List.getElem?_cons_succ]; exact hv) (by rw [List.getElem?_cons_succ]; exact hx))
theorem rowp_isl {K : PySem.W.Frag} {H : Hp} {row : List V} {ks : List Int} (h : RowP H row ks) : SH.IsL K H row ((List.range ks.length).map fun i => (getE ks i, i)) :=
  isl_ofat (by rw [List.length_map, List.length_range]; exact h.1) fun i v x hv hx => by
    obtain ⟨t, rfl, ht⟩ := h.2 i v hv
    have hi : i < ks.length := by rw [← h.1]; exact (List.getElem?_eq_some_iff.mp hv).1
    rw [List.getElem?_map, List.getElem?_range hi] at hx
    cases hx
    exact is_pr (SqT.of ht) is_int is_nat
theorem ext_sql {K : PySem.W.Frag} {H H' : Hp} {a : Addr} {xs : List V} (hE : ExtN H H') (h : SqL K H a xs) : SqL K H' a xs := by
  rcases h with (h | ⟨o, h⟩) | h
  · exact .inl (.inl (hE _ _ h (by intro ps z; cases z)))
  · exact .inl (.inr ⟨o, hE _ _ h (by intro ps z; cases z)⟩)
  · exact .inr h
def ExA (K : PySem.W.Frag) (A : Ad) (H : Hp) (e : Addr) : Prop := H e = some (exK e (.ref A.NoPlace) none) ∨ ∃ (d : Addr) (fs : List (Str × V)), H e = some (exK e (.ref A.Spent) (some d)) ∧ H d = some (.xd fs)
def sp__law_another (K : PySem.W.Frag) (A : Ad) : Sp := fun vs H Q _ => ∃ (e : Addr), vs = [.ref e] ∧ ExA K A H e ∧ Q (.bl false) H
theorem ok__law_another {P : Program} {w : World} {K : PySem.W.Frag} {mg : Str → Option Value} {base : Heap} {A : Ad} {f : Addr} {fd : FuncData} (F : Fun K "_law_another" "_law_another" s__law_another f fd) (T : Txt K mg A)  : FnOk P w K mg base CX0 1 f fd ["_law_e"] (sp__law_another K A) := by
  refine F.ok sc__law_another (fun vs H Q E h => by obtain ⟨_, rfl, _⟩ := h; rfl) (fun cdv A' outer s H vs Q E hr h => ?_)
  obtain ⟨e, rfl, hx, k⟩ := h
  refine ⟨_, (pss_cons (ps_if (PW.pt (pw_or (pt_val (pe_callB SH.call_isK (by rfl) T.z_isinstance (by decide +kernel) (pa_cons (pv 0) (pa_cons (pe_glob (v := .ref A.NoPaper) (by rfl) T.g_NoPaper rfl) pa_nil)))) (pw_or (pt_val (pe_callB SH.call_isK (by rfl) T.z_isinstance (by decide +kernel) (pa_cons (pv 0) (pa_cons (pe_glob (v := .ref A.NoRule) (by rfl) T.g_NoRule rfl) pa_nil)))) (pw_or1 (pt_val (pe_callB SH.call_isK (by rfl) T.z_isinstance (by decide +kernel) (pa_cons (pv 0) (pa_cons (pe_glob (v := .ref A.NoKey) (by rfl) T.g_NoKey rfl) pa_nil)))))))) (pss_one (ps_ret pe_bl)) pss_nil)
        (pss_one (ps_ret (pe_or (pe_callB SH.call_isK (by rfl) T.z_isinstance (by decide +kernel) (pa_cons (pv 0) (pa_cons (pe_glob (v := .ref A.NoRow) (by rfl) T.g_NoRow rfl) pa_nil))) (pe_or (pe_callB SH.call_isK (by rfl) T.z_isinstance (by decide +kernel) (pa_cons (pv 0) (pa_cons (pe_glob (v := .ref A.NoOrder) (by rfl) T.g_NoOrder rfl) pa_nil))) (pe_one (pe_callB SH.call_isK (by rfl) T.z_isinstance (by decide +kernel) (pa_cons (pv 0) (pa_cons (pe_glob (v := .ref A.TooFar) (by rfl) T.g_TooFar rfl) pa_nil))))))))), ?_⟩
  walk_at "begin"
  walk_at "rd"
  rcases hx with he | ⟨d, fs, he, hd⟩
  · refine v_isK he nodict T.ec_NoPlace T.kits_NoPlace_NoPaper ?_
    walk_at "rd"
    refine v_isK he nodict T.ec_NoPlace T.kits_NoPlace_NoRule ?_
    walk_at "rd"
    refine v_isK he nodict T.ec_NoPlace T.kits_NoPlace_NoKey ?_
    walk_at "rd"
    refine v_isK he nodict T.ec_NoPlace T.kits_NoPlace_NoRow ?_
    walk_at "rd"
    refine v_isK he nodict T.ec_NoPlace T.kits_NoPlace_NoOrder ?_
    walk_at "rd"
    refine v_isK he nodict T.ec_NoPlace T.kits_NoPlace_TooFar ?_
    walk_at "rd"
    exact k
  · refine v_isK he (adict hd) T.ec_Spent T.kits_Spent_NoPaper ?_
    walk_at "rd"
    refine v_isK he (adict hd) T.ec_Spent T.kits_Spent_NoRule ?_
    walk_at "rd"
    refine v_isK he (adict hd) T.ec_Spent T.kits_Spent_NoKey ?_
    walk_at "rd"
    refine v_isK he (adict hd) T.ec_Spent T.kits_Spent_NoRow ?_
    walk_at "rd"
    refine v_isK he (adict hd) T.ec_Spent T.kits_Spent_NoOrder ?_
    walk_at "rd"
    refine v_isK he (adict hd) T.ec_Spent T.kits_Spent_TooFar ?_
    walk_at "rd"
    exact k
theorem okh__law_another {P : Program} {w : World} {K : PySem.W.Frag} {mg : Str → Option Value} {base : Heap} {A : Ad} {f : Addr} {fd : FuncData} (F : Fun K "_law_another" "_law_another" s__law_another f fd) (T : Txt K mg A)  : SH.FnU P w K mg base CX0 1 f fd ["_law_e"] (sp__law_another K A) := by
  refine SH.okU F sc__law_another (fun vs H Q E h => by obtain ⟨_, rfl, _⟩ := h; rfl) (fun cdv A' outer s H vs Q E hr h => ?_)
  obtain ⟨e, rfl, hx, k⟩ := h
  refine ⟨_, (pss_cons (ps_if (PW.pt (pw_or (pt_val (pe_callB SH.call_isK (by rfl) T.z_isinstance (by decide +kernel) (pa_cons (pv 0) (pa_cons (pe_glob (v := .ref A.NoPaper) (by rfl) T.g_NoPaper rfl) pa_nil)))) (pw_or (pt_val (pe_callB SH.call_isK (by rfl) T.z_isinstance (by decide +kernel) (pa_cons (pv 0) (pa_cons (pe_glob (v := .ref A.NoRule) (by rfl) T.g_NoRule rfl) pa_nil)))) (pw_or1 (pt_val (pe_callB SH.call_isK (by rfl) T.z_isinstance (by decide +kernel) (pa_cons (pv 0) (pa_cons (pe_glob (v := .ref A.NoKey) (by rfl) T.g_NoKey rfl) pa_nil)))))))) (pss_one (ps_ret pe_bl)) pss_nil)
        (pss_one (ps_ret (pe_or (pe_callB SH.call_isK (by rfl) T.z_isinstance (by decide +kernel) (pa_cons (pv 0) (pa_cons (pe_glob (v := .ref A.NoRow) (by rfl) T.g_NoRow rfl) pa_nil))) (pe_or (pe_callB SH.call_isK (by rfl) T.z_isinstance (by decide +kernel) (pa_cons (pv 0) (pa_cons (pe_glob (v := .ref A.NoOrder) (by rfl) T.g_NoOrder rfl) pa_nil))) (pe_one (pe_callB SH.call_isK (by rfl) T.z_isinstance (by decide +kernel) (pa_cons (pv 0) (pa_cons (pe_glob (v := .ref A.TooFar) (by rfl) T.g_TooFar rfl) pa_nil))))))))), ?_⟩
  walk_at "begin"
  walk_at "rd"
  rcases hx with he | ⟨d, fs, he, hd⟩
  · refine v_isK he nodict T.ec_NoPlace T.kits_NoPlace_NoPaper ?_
    walk_at "rd"
    refine v_isK he nodict T.ec_NoPlace T.kits_NoPlace_NoRule ?_
    walk_at "rd"
    refine v_isK he nodict T.ec_NoPlace T.kits_NoPlace_NoKey ?_
    walk_at "rd"
    refine v_isK he nodict T.ec_NoPlace T.kits_NoPlace_NoRow ?_
    walk_at "rd"
    refine v_isK he nodict T.ec_NoPlace T.kits_NoPlace_NoOrder ?_
    walk_at "rd"
    refine v_isK he nodict T.ec_NoPlace T.kits_NoPlace_TooFar ?_
    walk_at "rd"
    exact k
  · refine v_isK he (adict hd) T.ec_Spent T.kits_Spent_NoPaper ?_
    walk_at "rd"
    refine v_isK he (adict hd) T.ec_Spent T.kits_Spent_NoRule ?_
    walk_at "rd"
    refine v_isK he (adict hd) T.ec_Spent T.kits_Spent_NoKey ?_
    walk_at "rd"
    refine v_isK he (adict hd) T.ec_Spent T.kits_Spent_NoRow ?_
    walk_at "rd"
    refine v_isK he (adict hd) T.ec_Spent T.kits_Spent_NoOrder ?_
    walk_at "rd"
    refine v_isK he (adict hd) T.ec_Spent T.kits_Spent_TooFar ?_
    walk_at "rd"
    exact k
def sp__law_tried (K : PySem.W.Frag) (A : Ad) : Sp := fun vs H Q _ => ∃ (I : Ask) (log : List Ent) (m : Int), vs = [.ref I.s, .int m] ∧ (I.At K A H log ∧ I.n ≤ 250 ∧ log.length + I.pre.length + I.n * I.n + 1000 ≤ 100000) ∧
  ((m < 0 ∨ (I.n : Int) ≤ m) → ∀ H' t kq, Stp [] H H' → H' t = some (.tup [.non, .ref kq]) → H' kq = some (.lst [.bl true, .bl true, .bl false]) → Q (.ref t) H') ∧ ∀ c : Nat, m = c → c < I.n →
  (∀ H' t kq es es' l1 l2 p, SoT I.n c (es ++ es') l1 l2 p → es' ≠ [] → Told I.or log (es ++ es') → I.m = some (log.length + es.length) → Stp I.M H H' → I.At K A H' (log ++ es) → H' t = some (.tup [.non, .ref kq]) → H' kq = some (.lst [.bl true, .bl false, .bl true, .int ((log.length + es.length : Nat) : Int)]) → Q (.ref t) H') ∧
  ∀ H' t f kq q1 q2 es l1 l2 p, SoT I.n c es l1 l2 p → Told I.or log es → Stp I.M H H' → I.At K A H' (log ++ es) → es.length ≤ I.n * I.n + 300 → H' t = some (.tup [.ref f, .ref kq]) → H' kq = some (.lst []) → H' f = some (.tup [.ref q1, .int (p : Nat), .ref q2]) → Q (.ref t) H'
theorem ok__law_tried {P : Program} {w : World} {K : PySem.W.Frag} {mg : Str → Option Value} {base : Heap} {A : Ad} {f : Addr} {fd : FuncData} (F : Fun K "_law_tried" "_law_tried" s__law_tried f fd) (T : Txt K mg A) (H__law_another : SH.CalU P w K mg base 1 "_law_another" (sp__law_another K A)) (C_so_manieth : SH.Cal P w K mg base (L2N.CX P w) 18 "so_manieth" [] (sp_so_manieth K A)) : FnOk P w K mg base CX0 19 f fd ["_law_asker", "_law_many_here"] (sp__law_tried K A) := by
  refine F.ok sc__law_tried (fun vs H Q E h => by obtain ⟨_, _, _, rfl, _⟩ := h; rfl) (fun cdv A' outer s H vs Q E hr h => ?_)
  obtain ⟨I, log, m0, rfl, ⟨hA, hn, hlog⟩, kn, kk⟩ := h
  refine ⟨_, (pss_cons (ps_set (i := 2) sc__law_tried.nd rfl (Or.inl rfl) (pe_lst pa_nil))
        (pss_cons (ps_set (i := 3) sc__law_tried.nd rfl (Or.inl rfl) pe_non)
        (pss_cons (SH.ps_try_asK (i := 4) rfl rfl rfl sc__law_tried.nd rfl rfl ⟨rfl, by decide, .inl T.g_HallError⟩ SH.takes0N (fun W pn xe tk po => (pss_one (ps_set (i := 3) sc__law_tried.nd rfl (Or.inl rfl) (SH.pe_callX C_so_manieth hr (by rfl) (fun σ => L2N.passAt tk σ) (pa_cons (pv 0) (pa_cons (pv 1) pa_nil)))))) (fun a pn => (pss_cons (ps_set (i := 2) sc__law_tried.nd rfl (Or.inl rfl) (pe_lst (pa_cons (pe_callB (SH.crK SH.rIsK K SH.call_isK) (by rfl) T.z_isinstance (by decide +kernel) (pa_cons (pv 4) (pa_cons (pe_bltn (v := .ty "ValueError") (by rfl) T.z_ValueError (by decide +kernel) rfl) pa_nil))) (pa_cons (pe_callB (SH.crK SH.rIsK K SH.call_isK) (by rfl) T.z_isinstance (by decide +kernel) (pa_cons (pv 4) (pa_cons (pe_glob (v := .ref A.NoPlace) (by rfl) T.g_NoPlace rfl) pa_nil))) (pa_cons (pe_callB (SH.crK SH.rIsK K SH.call_isK) (by rfl) T.z_isinstance (by decide +kernel) (pa_cons (pv 4) (pa_cons (pe_glob (v := .ref A.Spent) (by rfl) T.g_Spent rfl) pa_nil))) pa_nil)))))
        (pss_cons (ps_if (pt_val (SH.pe_callUF H__law_another (L2H.roomH_mark hr _) (by rfl) (pa_cons (pv 4) pa_nil))) (pss_one (ps_expr (SH.pe_bmK K PySem.F.plainAttrs_list PySem.F.slot_list_append PySem.F.type_list_append mt_append (pv 2) (pa_cons pe_str pa_nil)))) pss_nil)
        (pss_one (ps_if (pt_val (pe_callB (SH.crK SH.rIsK K SH.call_isK) (by rfl) T.z_isinstance (by decide +kernel) (pa_cons (pv 4) (pa_cons (pe_glob (v := .ref A.Spent) (by rfl) T.g_Spent rfl) pa_nil)))) (pss_one (ps_expr (SH.pe_bmK K PySem.F.plainAttrs_list PySem.F.slot_list_append PySem.F.type_list_append mt_append (pv 2) (pa_cons (SH.pe_xfK (SH.xfOf T.ec_Spent) T.na_Spent_asked (pv 4)) pa_nil)))) pss_nil))))))
        (pss_one (ps_ret (pe_tup (pa_cons (pv 3) (pa_cons (pv 2) pa_nil)))))))), ?_⟩
  walk_at "begin"
  walk_at "rd"
  intro k0 hk0
  have S1 := (Stp.refl [] H).new (o := .lst []) hk0
  have hk1 := upd_same (H := H) (a := k0) (o := .lst [])
  have hA1 := hA.stp S1 (by simp)
  have hkO := hA.freshO hk0
  generalize upd H k0 (.lst []) = H1 at S1 hk1 hA1 ⊢
  walk_at "rd"
  refine ⟨I, log, m0, rfl, ⟨hA1, hn, hlog⟩, fun hc => ?_, fun c hc hcn => ⟨?_, ?_⟩⟩
  · refine SH.r_catchK T.exm_NoPlace_HallError fun e he => ?_
    have Sx := (Stp.refl [] H1).new (o := exK e (.ref A.NoPlace) none) he
    have he2 := upd_same (H := H1) (a := e) (o := exK e (.ref A.NoPlace) none)
    generalize upd H1 e (exK e (.ref A.NoPlace) none) = H2 at Sx he2 ⊢
    simp only [List.set_cons_succ, List.set_cons_zero]
    walk_at "rd"
    refine v_isKT he2 nodict T.ec_NoPlace T.kits_NoPlace_ValueError ?_
    walk_at "rd"
    refine v_isK he2 nodict T.ec_NoPlace T.kits_NoPlace_NoPlace ?_
    walk_at "rd"
    refine v_isK he2 nodict T.ec_NoPlace T.kits_NoPlace_Spent ?_
    walk_at "rd"
    intro kq hkq
    have S3 := (Stp.refl [] H2).new (o := .lst [.bl true, .bl true, .bl false]) hkq
    have hkq3 := upd_same (H := H2) (a := kq) (o := .lst [.bl true, .bl true, .bl false])
    have he3 := S3.keep0 he2
    generalize upd H2 kq (.lst [.bl true, .bl true, .bl false]) = H3 at S3 hkq3 he3 ⊢
    walk_at "rd"
    refine ⟨e, rfl, .inl he3, ?_⟩
    refine ⟨_, rfl, ?_⟩
    walk_at "rd"
    refine v_isK he3 nodict T.ec_NoPlace T.kits_NoPlace_Spent ?_
    walk_at "rd"
    simp only [List.set_cons_succ, List.set_cons_zero]
    walk_at "rd"
    intro t ht
    have S4 := (Stp.refl [] H3).new (o := .tup [.non, .ref kq]) ht
    walk_at "rd"
    exact kn hc _ t kq (S1.trans (Sx.trans (S3.trans S4))) upd_same (S4.keep0 hkq3)
  · intro H2 d es es' ⟨l1, l2, p, hSo⟩ hne hT hm2 S2 hA2 hd hd2
    obtain ⟨k1, k2⟩ := kk c hc hcn
    have hk2 := S2.keep hk1 (fun z => hkO (Ask.Mown z))
    refine SH.r_catchK T.exm_Spent_HallError fun e he => ?_
    have Sx := (Stp.refl [] H2).new (o := exK e (.ref A.Spent) (some d)) he
    have he3 := upd_same (H := H2) (a := e) (o := exK e (.ref A.Spent) (some d))
    have hA3 := hA2.stp Sx (by simp)
    have hd3 := Sx.keep0 hd2
    generalize upd H2 e (exK e (.ref A.Spent) (some d)) = H3 at Sx he3 hA3 hd3 ⊢
    simp only [List.set_cons_succ, List.set_cons_zero]
    walk_at "rd"
    refine v_isKT he3 (adict hd3) T.ec_Spent T.kits_Spent_ValueError ?_
    walk_at "rd"
    refine v_isK he3 (adict hd3) T.ec_Spent T.kits_Spent_NoPlace ?_
    walk_at "rd"
    refine v_isK he3 (adict hd3) T.ec_Spent T.kits_Spent_Spent ?_
    walk_at "rd"
    intro kq hkq
    have S4 := (Stp.refl [] H3).new (o := .lst [.bl true, .bl false, .bl true]) hkq
    have hkq4 := upd_same (H := H3) (a := kq) (o := .lst [.bl true, .bl false, .bl true])
    have he4 := S4.keep0 he3
    have hd4 := S4.keep0 hd3
    have hA4 := hA3.stp S4 (by simp)
    have hkO2 := hA3.freshO hkq
    generalize upd H3 kq (.lst [.bl true, .bl false, .bl true]) = H4 at S4 hkq4 he4 hd4 hA4 ⊢
    walk_at "rd"
    refine ⟨e, rfl, .inr ⟨d, _, he4, hd4⟩, ?_⟩
    refine ⟨_, rfl, ?_⟩
    walk_at "rd"
    refine v_isK he4 (adict hd4) T.ec_Spent T.kits_Spent_Spent ?_
    walk_at "rd"
    refine v_app hkq4 (by decide) ?_
    have S5 : Stp [] H3 (upd H4 kq (.lst [.bl true, .bl false, .bl true, .int ((log.length + es.length : Nat) : Int)])) := S4.putN hkq
    have hkq5 := upd_same (H := H4) (a := kq) (o := .lst [.bl true, .bl false, .bl true, .int ((log.length + es.length : Nat) : Int)])
    have hA5 := hA3.stp S5 (by simp)
    show _
    simp only [List.set_cons_succ, List.set_cons_zero]
    walk_at "rd"
    intro t ht
    have ht : upd H4 kq (.lst [.bl true, .bl false, .bl true, .int ((log.length + es.length : Nat) : Int)]) t = none := ht
    have S6 := (Stp.refl [] _).new (o := .tup [.non, .ref kq]) ht
    exact k1 _ t kq es es' l1 l2 p hSo hne hT hm2 ((S1.mono (M' := I.M) (by simp)).trans (S2.trans ((Sx.trans (S5.trans S6)).mono (by simp)))) (hA5.stp S6 (by simp)) upd_same (S6.keep0 hkq5)
  · intro H2 f q1 q2 es l1 l2 p hSo hT S2 hA2 hel hq1 hq2 hq12 hq1' hq2' hf
    obtain ⟨k1, k2⟩ := kk c hc hcn
    have hk2 := S2.keep hk1 (fun z => hkO (Ask.Mown z))
    walk_at "rd"
    intro t ht
    have S3 := (Stp.refl [] H2).new (o := .tup [.ref f, .ref k0]) ht
    walk_at "rd"
    exact k2 _ t f k0 q1 q2 es l1 l2 p hSo hT ((S1.mono (M' := I.M) (by simp)).trans (S2.trans (S3.mono (by simp)))) (hA2.stp S3 (by simp)) hel upd_same (S3.keep0 hk2) (S3.keep0 hf)
def sp__law_no_place (K : PySem.W.Frag) (A : Ad) : Sp := fun vs H Q _ => ∃ (rq : Addr) (row : List V) (ks : List Int) (m : Int) (mo : Option Nat), vs = [.ref rq, .int m, mV mo] ∧ (H rq = some (.lst row) ∧ RowP H row ks ∧ ks.length ≤ 100 ∧ (m < 0 ∨ (ks.length : Int) ≤ m) ∧ TabsN (Tb A) H) ∧
  ∀ H', ExtN H H' → TabsN (Tb A) H' → Q (.bl true) H'
theorem ok__law_no_place {P : Program} {w : World} {K : PySem.W.Frag} {mg : Str → Option Value} {base : Heap} {A : Ad} {f : Addr} {fd : FuncData} (F : Fun K "_law_no_place" "_law_no_place" s__law_no_place f fd) (T : Txt K mg A) (C__law_teller : SH.Cal P w K mg base CX0 1 "_law_teller" [] (sp__law_teller K A)) (C__law_tried : SH.Cal P w K mg base CX0 19 "_law_tried" [] (sp__law_tried K A)) (N_AskedRule : SH.CalC P w K mg base CX0 1 "AskedRule" A.AskedRule [] (sp_AskedRule___init__ K A)) (N_Asker : SH.CalC P w K mg base CX0 1 "Asker" A.Asker [] (sp_Asker___init__ K A)) : FnOk P w K mg base CX0 20 f fd ["_law_row_here", "_law_many_here", "_law_most"] (sp__law_no_place K A) := by
  refine F.ok sc__law_no_place (fun vs H Q E h => by obtain ⟨_, _, _, _, _, rfl, _⟩ := h; rfl) (fun cdv A' outer s H vs Q E hr h => ?_)
  obtain ⟨rq, row, ks, m, mo, rfl, ⟨hR, hrow, hkl, hmm, hTb⟩, k⟩ := h
  refine ⟨_, (pss_cons (ps_set (i := 3) sc__law_no_place.nd rfl (Or.inl rfl) (pe_lst pa_nil))
        (pss_cons (ps_asg (SH.pe_callF C__law_tried hr (by rfl) pass0 (pa_cons (SH.pe_makeF N_Asker hr (by rfl) pass0 (pa_cons (pv 0) (pa_cons (SH.pe_makeF N_AskedRule hr (by rfl) pass0 (pa_cons (SH.pe_callF C__law_teller hr (by rfl) pass0 (pa_cons (pv 3) pa_nil)) pa_nil)) (pa_cons (pv 2) pa_nil)))) (pa_cons (pv 1) pa_nil))) (pg_tup (by rfl) (pgs_cons (pg_name (i := 4) sc__law_no_place.nd rfl (Or.inl rfl)) (pgs_cons (pg_name (i := 5) sc__law_no_place.nd rfl (Or.inl rfl)) pgs_nil))))
        (pss_one (ps_ret (pe_and (pe_cmpR SH.oIsN (pv 4) pe_non (nomark _)) (pe_and (pe_cmpR (SH.oEq hr.units) (pv 5) (pe_lst (pa_cons pe_bl (pa_cons pe_bl (pa_cons pe_bl pa_nil)))) (nomark _)) (pe_one (pe_cmpR (SH.oEq hr.units) (pv 3) (pe_lst pa_nil) (nomark _))))))))), ?_⟩
  walk_at "begin"
  walk_at "rd"
  intro tl htl
  have S1 := (Stp.refl [] H).new (o := .lst []) htl
  have htl1 := upd_same (H := H) (a := tl) (o := .lst [])
  have hR1 := S1.keep0 hR
  have hrow1 := hrow.stp S1
  have hTb1 := tabs_stp hTb S1
  have hrl := hrow.1
  generalize hH1 : upd H tl (.lst []) = H1 at S1 htl1 hR1 hrow1 hTb1 ⊢
  walk_at "rq"
  refine askmake (m := mo) (us := [mV mo]) rfl rfl hR1 hrow1 hTb1 htl1 isl_nil (by omega) (by simp) (fun H Q h => by walk_at "rd"; exact h) rfl fun H2 I hM => ?_
  have hA := hM.at_
  have hn := hM.n
  have hpre := hM.e3
  have htlI := hM.e1
  have hTb2 := hM.tab
  have hE : ExtN H H2 := (ExtN.of fun b o e => S1.keep0 e).trans hM.ext
  have hnn : I.n * I.n ≤ 100 * 100 := Nat.mul_le_mul (by omega) (by omega)
  walk_at "rd"
  refine ⟨I, [], m, rfl, ⟨hA, by omega, by rw [hpre]; simp only [List.length_nil]; omega⟩, fun _ H3 t kq S3 ht hkq => ?_, fun c hc hcn => by omega⟩
  have hA3 := hA.stp S3 (by simp)
  obtain ⟨tvs, htl3, htv3⟩ := hA3.ht
  rw [hpre] at htv3
  rw [htlI] at htl3
  have htvl := isl_len htv3
  obtain rfl : tvs = [] := List.length_eq_zero_iff.mp htvl
  walk_at "rd"
  refine r_wT rfl ?_
  walk_at "rd"
  intro z1 hz1
  have b3 : ∀ H, IsL K H [.bl true, .bl true, .bl false] [true, true, false] := fun H => .cons (.bl _) (.cons (.bl _) (.cons (.bl _) .nil))
  have S4 := (Stp.refl [] H3).new (o := .lst [.bl true, .bl true, .bl false]) hz1
  refine v_eqE (x := [true, true, false]) (y := [true, true, false]) (is_lst (SqL.of (S4.keep0 hkq)) (b3 _)) (is_lst (SqL.of upd_same) (b3 _)) ?_
  rw [decide_eq_true rfl]
  have htl4 := S4.keep0 htl3
  have hE4 : ExtN H (upd H3 z1 (.lst [.bl true, .bl true, .bl false])) := hE.trans (ExtN.of fun b o e => S4.keep0 (S3.keep0 e))
  have hTb4 := tabs_stp hTb2 (S3.trans S4)
  generalize upd H3 z1 (.lst [.bl true, .bl true, .bl false]) = H4 at S4 htl4 hE4 hTb4 ⊢
  walk_at "rd"
  intro z2 hz2
  have S5 := (Stp.refl [] H4).new (o := .lst []) hz2
  refine v_eqE (x := ([] : List Int)) (y := []) (is_lst (SqL.of (S5.keep0 htl4)) .nil) (is_lst (SqL.of upd_same) .nil) ?_
  rw [decide_eq_true rfl]
  exact k _ (hE4.trans (ExtN.of fun b o e => S5.keep0 e)) (tabs_stp hTb4 S5)
def sp__law_stopped (K : PySem.W.Frag) (A : Ad) : Sp := fun vs H Q _ => ∃ (rq : Addr) (row : List V) (ks : List Int) (ord es0 : List Nat) (m most : Nat) (l1 l2 : List Nat) (p : Nat) (es : List Ent), vs = [.ref rq, .int m, .int es.length, .int most] ∧ (H rq = some (.lst row) ∧ RowP H row ks ∧ ks.length ≤ 100 ∧ m < ks.length ∧ most ≤ es.length ∧ es.length ≤ 10400 ∧ SoT ks.length m es l1 l2 p ∧ (∀ e ∈ es, e.c = decide (getE ks e.a < getE ks e.b)) ∧ TabsN (Tb A) H) ∧
  ∀ H', ExtN H H' → TabsN (Tb A) H' → Q (.bl true) H'
theorem ok__law_stopped {P : Program} {w : World} {K : PySem.W.Frag} {mg : Str → Option Value} {base : Heap} {A : Ad} {f : Addr} {fd : FuncData} (F : Fun K "_law_stopped" "_law_stopped" s__law_stopped f fd) (T : Txt K mg A) (M_Asker_widen : SH.CalM P w K mg base CX0 1 A.Asker "widen" [] (sp_Asker_widen K A)) (C__law_teller : SH.Cal P w K mg base CX0 1 "_law_teller" [] (sp__law_teller K A)) (C__law_tried : SH.Cal P w K mg base CX0 19 "_law_tried" [] (sp__law_tried K A)) (N_AskedRule : SH.CalC P w K mg base CX0 1 "AskedRule" A.AskedRule [] (sp_AskedRule___init__ K A)) (N_Asker : SH.CalC P w K mg base CX0 1 "Asker" A.Asker [] (sp_Asker___init__ K A)) : FnOk P w K mg base CX0 20 f fd ["_law_row_here", "_law_many_here", "_law_needed", "_law_most"] (sp__law_stopped K A) := by
  refine F.ok sc__law_stopped (fun vs H Q E h => by obtain ⟨_, _, _, _, _, _, _, _, _, _, _, rfl, _⟩ := h; rfl) (fun cdv A' outer s H vs Q E hr h => ?_)
  obtain ⟨rq, row, ks, ord0, es0, m, most, l1, l2, p, es, rfl, ⟨hR, hrow, hkl, hmm, hmo, hel, hSo, hTe, hTb⟩, k⟩ := h
  refine ⟨_, (pss_cons (ps_set (i := 4) sc__law_stopped.nd rfl (Or.inl rfl) (pe_lst pa_nil))
        (pss_cons (ps_set (i := 5) sc__law_stopped.nd rfl (Or.inl rfl) (SH.pe_makeF N_Asker hr (by rfl) pass0 (pa_cons (pv 0) (pa_cons (SH.pe_makeF N_AskedRule hr (by rfl) pass0 (pa_cons (SH.pe_callF C__law_teller hr (by rfl) pass0 (pa_cons (pv 4) pa_nil)) pa_nil)) (pa_cons (pv 3) pa_nil)))))
        (pss_cons (ps_asg (SH.pe_callF C__law_tried hr (by rfl) pass0 (pa_cons (pv 5) (pa_cons (pv 1) pa_nil))) (pg_tup (by rfl) (pgs_cons (pg_name (i := 6) sc__law_stopped.nd rfl (Or.inl rfl)) (pgs_cons (pg_name (i := 7) sc__law_stopped.nd rfl (Or.inl rfl)) pgs_nil))))
        (pss_cons (ps_if (pt_cmpR (SH.oEq hr.units) (pv 3) (pv 2) (nomark _)) (pss_one (ps_ret (pe_and (pe_cmpR (SH.oEq hr.units) (pv 7) (pe_lst pa_nil) (nomark _)) (pe_and (pe_cmpR SH.oNotN (pv 6) pe_non (nomark _)) (pe_and (pe_cmpR (SH.oEq hr.units) (SH.pe_fldF T.cl_Asker T.na_Asker_asked (pv 5)) (pv 2) (nomark _)) (pe_one (pe_cmpR (SH.oEq hr.units) (pe_callB SH.cLen (by rfl) T.z_len (by decide +kernel) (pa_cons (pv 4) pa_nil)) (pv 2) (nomark _)))))))) pss_nil)
        (pss_cons (ps_if (PW.pt (pw_or (pt_cmpR SH.oNotN (pv 6) pe_non (nomark _)) (pw_or (pt_cmpR (SH.oNe hr.units) (pv 7) (pe_lst (pa_cons pe_bl (pa_cons pe_bl (pa_cons pe_bl (pa_cons (pv 3) pa_nil))))) (nomark _)) (pw_or (pt_cmpR (SH.oNe hr.units) (pe_callB SH.cLen (by rfl) T.z_len (by decide +kernel) (pa_cons (pv 4) pa_nil)) (pv 3) (nomark _)) (pw_or1 (pt_cmpR (SH.oNe hr.units) (SH.pe_fldF T.cl_Asker T.na_Asker_asked (pv 5)) (pv 3) (nomark _))))))) (pss_one (ps_ret pe_bl)) pss_nil)
        (pss_cons (ps_expr (SH.pe_methF (pv 5) M_Asker_widen hr pass0 (pa_cons (pv 2) pa_nil)))
        (pss_cons (ps_asg (SH.pe_callF C__law_tried hr (by rfl) pass0 (pa_cons (pv 5) (pa_cons (pv 1) pa_nil))) (pg_tup (by rfl) (pgs_cons (pg_name (i := 6) sc__law_stopped.nd rfl (Or.inl rfl)) (pgs_cons (pg_name (i := 7) sc__law_stopped.nd rfl (Or.inl rfl)) pgs_nil))))
        (pss_cons (ps_if (PW.pt (pw_or (pt_cmpR (SH.oNe hr.units) (pv 7) (pe_lst pa_nil) (nomark _)) (pw_or (pt_cmpR SH.oIsN (pv 6) pe_non (nomark _)) (pw_or1 (pt_cmpR (SH.oNe hr.units) (pe_callB SH.cLen (by rfl) T.z_len (by decide +kernel) (pa_cons (pv 4) pa_nil)) (pe_op SH.oAdd (pv 3) (pv 2)) (nomark _)))))) (pss_one (ps_ret pe_bl)) pss_nil)
        (pss_one (ps_ret (pe_cmpR (SH.oEq hr.units) (pe_ix SH.ixA (pv 6) pe_int (fun _ _ => rfl)) (pe_ix SH.ixA (pe_ix SH.ixA (pe_callB cr_sortedPO (by rfl) T.z_sorted (by decide +kernel) (pa_cons (pv 0) pa_nil)) (pv 1) (fun _ _ => rfl)) pe_int (fun _ _ => rfl)) (nomark _)))))))))))), ?_⟩
  walk_at "begin"
  walk_at "rd"
  intro tl htl
  have S1 := (Stp.refl [] H).new (o := .lst []) htl
  have htl1 := upd_same (H := H) (a := tl) (o := .lst [])
  have hR1 := S1.keep0 hR
  have hrow1 := hrow.stp S1
  have hTb1 := tabs_stp hTb S1
  have hrl := hrow.1
  have nrt : rq ≠ tl := ne_of_none hR htl
  have hE01 : ExtN H (upd H tl (.lst [])) := ExtN.of fun b o e => S1.keep0 e
  have htl0 := htl
  generalize hH1 : upd H tl (.lst []) = H1 at S1 htl1 hR1 hrow1 hTb1 hE01 ⊢
  walk_at "rq"
  refine askmake (m := some most) (us := [.int most]) rfl rfl hR1 hrow1 hTb1 htl1 isl_nil (by omega) (by simp) (fun H Q h => by walk_at "rd"; exact h) rfl fun H2 I hM => ?_
  have hA := hM.at_
  have hn := hM.n
  have hlt := hM.lt
  have hpre := hM.e3
  have htlI := hM.e1
  have hmI := hM.e5
  have hTb2 := hM.tab
  have hE2 : ExtN H H2 := hE01.trans hM.ext
  have hR2 := ext_lst hM.ext hR1
  have hrow2 := hrow1.ext hM.ext
  have rM := hM.far2 rq _ hR1 nrt
  have hnn : I.n * I.n ≤ 100 * 100 := Nat.mul_le_mul (by omega) (by omega)
  have hlI : ∀ {lg es : List Ent} {J : Ask}, J.or = I.or → Told J.or lg es → ∀ e ∈ es, e.c = decide (getE ks e.a < getE ks e.b) := fun {lg es J} hj h => Told.all (by rw [hj, hlt] at h; exact h)
  subst htlI
  walk_at "rd"
  refine ⟨I, [], m, rfl, ⟨hA, by omega, by rw [hpre]; simp only [List.length_nil]; omega⟩, fun z => by omega, fun c hc hcn => ?_⟩
  obtain rfl : m = c := by omega
  rw [hn]
  have hEx : ∀ {H3 : Hp}, Stp I.M H2 H3 → ExtN H H3 := fun {H3} S b o e nt => S.keep (hE2 b o e nt) (hM.far b o (by rw [← hH1]; exact upd_old e htl) (fun z => by rw [z, htl] at e; cases e))
  have hPm : ∀ (la lb : List Nat) (pp : Nat), SoT ks.length m es la lb pp → ∀ (H3 : Hp) (zs : List V), RowP H3 row ks → SrtO.Srtd (ltP (kOf H3)) zs → zs.Perm row → ∃ t, zs[m]? = some (.ref t) ∧ H3 t = some (.tup [.int (getE ks pp), .int (pp : Nat)]) := fun la lb pp hSo H3 zs hrow hs hp => by
    have hzs : ∀ x ∈ zs, ∃ (t : Addr) (p : Nat), x = .ref t ∧ H3 t = some (.tup [.int (getE ks p), .int (p : Nat)]) := fun x hx => by
      obtain ⟨i, hi⟩ := List.mem_iff_getElem?.mp (hp.mem_iff.mp hx)
      obtain ⟨t, h1, h2⟩ := hrow.2 i x hi
      exact ⟨t, i, h1, h2⟩
    have hord : ∀ (i o : Nat), (zs.map fun x => (kOf H3 x).2.toNat)[i]? = some o → ∃ t, zs[i]? = some (.ref t) ∧ H3 t = some (.tup [.int (getE ks o), .int (o : Nat)]) := fun i o e => by
      rw [List.getElem?_map] at e
      cases hz : zs[i]? with
      | none => rw [hz] at e; cases e
      | some x =>
        obtain ⟨t, p, rfl, h2⟩ := hzs x (List.mem_of_getElem? hz)
        rw [hz, Option.map_some, kOf_at h2] at e
        have e : p = o := by simpa using e
        subst e
        exact ⟨t, rfl, h2⟩
    have hO := sorted_ord hrow hs hp (by rw [List.length_map]) hord
    have hSi := hSo.is hO rfl hmm hTe
    exact hord m pp hSi.at_
  refine ⟨fun H3 t kq es1 es1' la lb pp hSo3 hne hT hm3 S3 hA3 ht hkq => ?_, fun H3 t f2 kq q1 q2 es1 la lb pp hSo3 hT S3 hA3 hel3 ht hkq hf => ?_⟩
  · have e1 : es1 ++ es1' = es := hSo3.e.uniq (f := fun a b => decide (getE ks a < getE ks b)) hSo.e (hlI rfl hT) hTe
    have hl0 : 0 < es1'.length := List.length_pos_iff.mpr hne
    have hl1 := congrArg List.length e1
    rw [List.length_append] at hl1
    have hm4 : most = es1.length := by rw [hmI] at hm3; have := Option.some.inj hm3; simpa using this
    rw [List.nil_append] at hA3
    have hs3 := hA3.hs
    rw [hmI] at hs3
    unfold AskM mV at hs3
    obtain ⟨tvs, htl3, htv3⟩ := hA3.ht
    rw [hpre, List.nil_append] at htv3
    have htvl := isl_len htv3
    walk_at "rd"
    refine r_wF (by omega) ?_
    walk_at "rd"
    refine r_nwF rfl ?_
    walk_at "rd"
    intro z1 hz1
    have hkq4 : H3 kq = some (.lst [.bl true, .bl false, .bl true, .int (most : Nat)]) := by rw [hkq, hm4]; simp
    have b4 : ∀ H, DpAll K H [.bl true, .bl false, .bl true, .int (most : Nat)] [.bool true, .bool false, .bool true, .int (most : Nat)] := fun H => .cons (.bl _) (.cons (.bl _) (.cons (.bl _) (.cons (.int _) .nil)))
    have S4 := (Stp.refl [] H3).new (o := .lst [.bl true, .bl false, .bl true, .int (most : Nat)]) hz1
    refine v_neR (d := .list [.bool true, .bool false, .bool true, .int (most : Nat)]) (.lst (SqL.of (S4.keep0 hkq4)) (b4 _)) (.lst (SqL.of upd_same) (b4 _)) (by rfl) ?_
    have htl4 := S4.keep0 htl3
    have hs4 := S4.keep0 hs3
    have hA4 := hA3.stp S4 (by simp)
    have S24 := S3.trans (S4.mono (M' := I.M) (by simp))
    generalize upd H3 z1 (.lst [.bl true, .bl false, .bl true, .int (most : Nat)]) = H4 at S4 htl4 hs4 hA4 S24 ⊢
    clear S3 S4 hA3 hs3 htl3 htv3 hkq hkq4 ht
    walk_at "rd"
    refine r_nwF (by omega) ?_
    walk_at "rd"
    refine r_nwF (by omega) ?_
    walk_at "rd"
    refine ⟨I, es1, es.length, rfl, hA4, fun H5 S5 hA5 => ?_⟩
    have S25 := S24.trans (S5.mono (M' := I.M) (by simp [Ask.M]))
    clear S5 S24 hs4 htl4 hA4
    walk_at "rd"
    refine ⟨I.wide es.length, es1, m, rfl, ⟨hA5, by show I.n ≤ 250; omega, by show es1.length + I.pre.length + I.n * I.n + 1000 ≤ 100000; rw [hpre, List.length_nil]; omega⟩, fun z => by have : (I.wide es.length).n = I.n := rfl; omega, fun c hc' hcn' => ?_⟩
    obtain rfl : m = c := by omega
    rw [show (I.wide es.length).n = ks.length from hn]
    refine ⟨fun H6 t kq es2 es2' lc ld pq hSo4 hne2 hT2 hm5 _ _ _ _ => ?_, fun H6 t f2 kq q1 q2 es2 lc ld pq hSo4 hT2 S6 hA6 hel6 ht6 hkq6 hf6 => ?_⟩
    · exfalso
      have e2 : es2 ++ es2' = es := hSo4.e.uniq (f := fun a b => decide (getE ks a < getE ks b)) hSo.e (hlI rfl hT2) hTe
      have h1 : 0 < es2'.length := List.length_pos_iff.mpr hne2
      have h2 := congrArg List.length e2
      rw [List.length_append] at h2
      rw [wide_some hmI] at hm5
      have h3 := Option.some.inj hm5
      omega
    have e2 : es2 = es := hSo4.e.uniq (f := fun a b => decide (getE ks a < getE ks b)) hSo.e (hlI rfl hT2) hTe
    subst e2
    have S26 : Stp I.M H2 H6 := S25.trans S6
    obtain ⟨tvs6, htl6, htv6⟩ := hA6.ht
    rw [show (I.wide es2.length).pre = [] from hpre, List.nil_append] at htv6
    have htl6 : H6 I.tl = some (.lst tvs6) := htl6
    have htvl6 := isl_len htv6
    rw [List.length_append] at htvl6
    have hR6 := S26.keep hR2 (fun z => rM (Ask.Mown z))
    have hrow6 := hrow2.stp S26
    walk_at "rd"
    intro z2 hz2
    have S7 := (Stp.refl [] H6).new (o := .lst []) hz2
    refine v_neE (x := ([] : List Int)) (y := []) (is_lst (SqL.of (S7.keep0 hkq6)) .nil) (is_lst (SqL.of upd_same) .nil) ?_
    rw [decide_eq_true rfl]
    refine ⟨_, rfl, ?_⟩
    have htl7 := S7.keep0 htl6
    have hR7 := S7.keep0 hR6
    have hrow7 := hrow6.stp S7
    have hf7 := S7.keep0 hf6
    have S27 := S26.trans (S7.mono (M' := I.M) (by simp))
    generalize upd H6 z2 (.lst []) = H7 at S7 htl7 hR7 hrow7 hf7 S27 ⊢
    clear S7 S26 S25 htl6 hR6 hrow6 ht6 hkq6 hf6 hA6 hA5
    walk_at "rd"
    refine r_wF (by simp) ?_
    walk_at "rd"
    refine r_nwF (by omega) ?_
    walk_at "rd"
    refine v_ixTn (n := 1) (SqT.of hf7) rfl rfl ?_
    walk_at "rd"
    refine ⟨rq, row, kOf H7, rfl, SqL.of hR7, fun x hx => ?_, fun zs zl hsrt hstb hzl => ?_⟩
    · obtain ⟨i, hi⟩ := List.mem_iff_getElem?.mp hx
      obtain ⟨t, h1, h2⟩ := hrow7.2 i x hi
      exact ⟨t, h1, by rw [h1, kOf_at h2]; exact h2⟩
    obtain ⟨tt, h1, h2⟩ := hPm lc ld pq hSo4 H7 zs hrow7 hsrt hstb.perm
    walk_at "rd"
    refine v_ixLn (n := m) (SqL.of upd_same) rfl h1 ?_
    walk_at "rd"
    refine v_ixTn (n := 1) (SqT.of (upd_old h2 hzl)) rfl rfl ?_
    walk_at "rd"
    have S28 : Stp I.M H2 (upd H7 zl (.lst zs)) := S27.trans (((Stp.refl [] H7).new (o := .lst zs) hzl).mono (by simp))
    rw [decide_eq_true rfl]
    exact k _ (hEx S28) (tabs_ask hTb2 hA S28)
  · have e1 : es1 = es := hSo3.e.uniq (f := fun a b => decide (getE ks a < getE ks b)) hSo.e (hlI rfl hT) hTe
    subst e1
    rw [List.nil_append] at hA3
    have hb := hA3.bd _ hmI
    have hs3 := hA3.hs
    rw [hmI] at hs3
    unfold AskM mV at hs3
    obtain ⟨tvs, htl3, htv3⟩ := hA3.ht
    rw [hpre, List.nil_append] at htv3
    have htvl := isl_len htv3
    walk_at "rd"
    refine r_wT (by omega) ?_
    walk_at "rd"
    intro z1 hz1
    have S4 := (Stp.refl [] H3).new (o := .lst []) hz1
    refine v_eqE (x := ([] : List Int)) (y := []) (is_lst (SqL.of (S4.keep0 hkq)) .nil) (is_lst (SqL.of upd_same) .nil) ?_
    rw [decide_eq_true rfl]
    have htl4 := S4.keep0 htl3
    have hs4 := S4.keep0 hs3
    have S24 := S3.trans (S4.mono (M' := I.M) (by simp))
    generalize upd H3 z1 (.lst []) = H4 at S4 htl4 hs4 S24 ⊢
    walk_at "rd"
    refine r_nwT (by simp) ?_
    walk_at "rd"
    rw [decide_eq_true rfl]
    walk_at "rd"
    rw [decide_eq_true (by omega)]
    exact k _ (hEx S24) (tabs_ask hTb2 hA S24)
theorem so_mth {ks : List Int} {row : List V} {es : List Ent} {la lb : List Nat} {pp m : Nat} (hSo : SoT ks.length m es la lb pp) (hmm : m < ks.length) (hTe : ∀ e ∈ es, e.c = decide (getE ks e.a < getE ks e.b)) (H3 : Hp) (zs : List V) (hrow : RowP H3 row ks) (hs : SrtO.Srtd (ltP (kOf H3)) zs) (hp : zs.Perm row) : ∃ t, zs[m]? = some (.ref t) ∧ H3 t = some (.tup [.int (getE ks pp), .int (pp : Nat)]) := by
  have hzs : ∀ x ∈ zs, ∃ (t : Addr) (p : Nat), x = .ref t ∧ H3 t = some (.tup [.int (getE ks p), .int (p : Nat)]) := fun x hx => by
    obtain ⟨i, hi⟩ := List.mem_iff_getElem?.mp (hp.mem_iff.mp hx)
    obtain ⟨t, h1, h2⟩ := hrow.2 i x hi
    exact ⟨t, i, h1, h2⟩
  have hord : ∀ (i o : Nat), (zs.map fun x => (kOf H3 x).2.toNat)[i]? = some o → ∃ t, zs[i]? = some (.ref t) ∧ H3 t = some (.tup [.int (getE ks o), .int (o : Nat)]) := fun i o e => by
    rw [List.getElem?_map] at e
    cases hz : zs[i]? with
    | none => rw [hz] at e; cases e
    | some x =>
      obtain ⟨t, p, rfl, h2⟩ := hzs x (List.mem_of_getElem? hz)
      rw [hz, Option.map_some, kOf_at h2] at e
      have e : p = o := by simpa using e
      subst e
      exact ⟨t, rfl, h2⟩
  have hO := sorted_ord hrow hs hp (by rw [List.length_map]) hord
  have hSi := hSo.is hO rfl hmm hTe
  exact hord m pp hSi.at_
def sp_law (K : PySem.W.Frag) (A : Ad) : Sp := fun vs H Q _ => ∃ (a : Addr) (ns : List Int), vs = [.ref a] ∧ (SqL K H a (ns.map V.int) ∧ ns.length ≤ 63 ∧ TabsN (Tb A) H) ∧ ∀ H', Q (.bl true) H'
theorem ok_law {P : Program} {w : World} {K : PySem.W.Frag} {mg : Str → Option Value} {base : Heap} {A : Ad} {f : Addr} {fd : FuncData} (F : Fun K "law" "law" s_law f fd) (T : Txt K mg A) (C__law_cell_at : SH.Cal P w K mg base CX0 1 "_law_cell_at" [] (sp__law_cell_at K A)) (C__law_many : SH.Cal P w K mg base CX0 1 "_law_many" [] (sp__law_many K A)) (C__law_no_place : SH.Cal P w K mg base CX0 20 "_law_no_place" [] (sp__law_no_place K A)) (C__law_numbers : SH.Cal P w K mg base CX0 2 "_law_numbers" [] (sp__law_numbers K A)) (C__law_row : SH.Cal P w K mg base CX0 1 "_law_row" [] (sp__law_row K A)) (C__law_stopped : SH.Cal P w K mg base CX0 20 "_law_stopped" [] (sp__law_stopped K A)) (C__law_teller : SH.Cal P w K mg base CX0 1 "_law_teller" [] (sp__law_teller K A)) (N_AskedRule : SH.CalC P w K mg base CX0 1 "AskedRule" A.AskedRule [] (sp_AskedRule___init__ K A)) (N_Asker_d1 : SH.CalC P w K mg base CX0 1 "Asker" A.Asker [.non] (sp_Asker___init__ K A)) (C_so_manieth : SH.Cal P w K mg base (L2N.CX P w) 18 "so_manieth" [] (sp_so_manieth K A)) : FnOk P w K mg base CX0 21 f fd ["_law_script"] (sp_law K A) := by
  refine F.ok sc_law (fun vs H Q E h => by obtain ⟨_, _, rfl, _⟩ := h; rfl) (fun cdv A' outer s H vs Q E hr h => ?_)
  obtain ⟨a, ns, rfl, ⟨hS, hlen, hTb⟩, k⟩ := h
  refine ⟨_, (pss_cons (ps_set (i := 1) sc_law.nd rfl (Or.inl rfl) (SH.pe_callF C__law_row hr (by rfl) pass0 (pa_cons (SH.pe_callF C__law_numbers hr (by rfl) pass0 (pa_cons (pv 0) pa_nil)) (pa_cons (SH.pe_callF C__law_cell_at hr (by rfl) pass0 (pa_cons (pv 0) (pa_cons pe_int pa_nil))) pa_nil))))
        (pss_cons (ps_set (i := 2) sc_law.nd rfl (Or.inl rfl) (pe_op SH.oMod (SH.pe_callF C__law_cell_at hr (by rfl) pass0 (pa_cons (pv 0) (pa_cons pe_int pa_nil))) (pe_op SH.oPow pe_int pe_int)))
        (pss_cons (ps_set (i := 3) sc_law.nd rfl (Or.inl rfl) (pe_lst (pa_cons (pe_un un_neg pe_int) (pa_cons (pe_callB SH.cLen (by rfl) T.z_len (by decide +kernel) (pa_cons (pv 1) pa_nil)) (pa_cons (pe_op SH.oAdd (pe_callB SH.cLen (by rfl) T.z_len (by decide +kernel) (pa_cons (pv 1) pa_nil)) (pv 2)) (pa_cons (pe_op SH.oSub (pe_un un_neg pe_int) (pv 2)) pa_nil))))))
        (pss_cons (ps_for PassesOwn.never rfl (pi_range1 (by rfl) T.z_range (pa_cons pe_int pa_nil)) (pg_name (i := 4) sc_law.nd rfl (Or.inl rfl)) (pss_one (ps_if (pt_not (pt_val (SH.pe_callF C__law_no_place hr (by rfl) pass0 (pa_cons (pv 1) (pa_cons (pe_ix SH.ixA (pv 3) (pv 4) (fun _ _ => rfl)) (pa_cons (pe_ix SH.ixA (pe_lst (pa_cons pe_non (pa_cons pe_int (pa_cons pe_non (pa_cons pe_int pa_nil))))) (pe_op SH.oMod (pe_op SH.oAdd (pv 4) (SH.pe_callF C__law_cell_at hr (by rfl) pass0 (pa_cons (pv 0) (pa_cons pe_int pa_nil)))) pe_int) (fun _ _ => rfl)) pa_nil)))))) (pss_one (ps_ret pe_bl)) pss_nil)))
        (pss_cons (ps_if (pt_cmpR (SH.oEq hr.units) (pv 1) (pe_lst pa_nil) (nomark _)) (pss_one (ps_ret pe_bl)) pss_nil)
        (pss_cons (ps_set (i := 5) sc_law.nd rfl (Or.inl rfl) (SH.pe_callF C__law_many hr (by rfl) pass0 (pa_cons (pe_callB SH.cLen (by rfl) T.z_len (by decide +kernel) (pa_cons (pv 1) pa_nil)) (pa_cons (SH.pe_callF C__law_cell_at hr (by rfl) pass0 (pa_cons (pv 0) (pa_cons pe_int pa_nil))) (pa_cons (SH.pe_callF C__law_cell_at hr (by rfl) pass0 (pa_cons (pv 0) (pa_cons pe_int pa_nil))) pa_nil)))))
        (pss_cons (ps_set (i := 6) sc_law.nd rfl (Or.inl rfl) (pe_lst pa_nil))
        (pss_cons (ps_set (i := 7) sc_law.nd rfl (Or.inl rfl) (SH.pe_callF C_so_manieth hr (by rfl) SH.passLN (pa_cons (SH.pe_makeF N_Asker_d1 hr (by rfl) pass0 (pa_cons (pv 1) (pa_cons (SH.pe_makeF N_AskedRule hr (by rfl) pass0 (pa_cons (SH.pe_callF C__law_teller hr (by rfl) pass0 (pa_cons (pv 6) pa_nil)) pa_nil)) pa_nil))) (pa_cons (pv 5) pa_nil))))
        (pss_cons (ps_set (i := 8) sc_law.nd rfl (Or.inl rfl) (pe_callB SH.cLen (by rfl) T.z_len (by decide +kernel) (pa_cons (pv 6) pa_nil)))
        (pss_cons (ps_if (pt_cmpR (SH.oNe hr.units) (pe_ix SH.ixA (pv 7) pe_int (fun _ _ => rfl)) (pe_ix SH.ixA (pe_ix SH.ixA (pe_callB cr_sortedPO (by rfl) T.z_sorted (by decide +kernel) (pa_cons (pv 1) pa_nil)) (pv 5) (fun _ _ => rfl)) pe_int (fun _ _ => rfl)) (nomark _)) (pss_one (ps_ret pe_bl)) pss_nil)
        (pss_cons (ps_for PassesOwn.never rfl (pi_list (pe_lst (pa_cons (pv 8) (pa_cons (pe_op SH.oSub (pv 8) pe_int) (pa_cons pe_int (pa_cons (pe_op SH.oMod (pe_op SH.oDiv (SH.pe_callF C__law_cell_at hr (by rfl) pass0 (pa_cons (pv 0) (pa_cons pe_int pa_nil))) pe_int) (pe_op SH.oAdd (pv 8) pe_int)) pa_nil)))))) (pg_name (i := 9) sc_law.nd rfl (Or.inl rfl)) (pss_one (ps_if (PW.pt (pw_and (pt_cmpR SH.oGe (pv 9) pe_int (nomark _)) (pw_and1 (pt_not (pt_val (SH.pe_callF C__law_stopped hr (by rfl) pass0 (pa_cons (pv 1) (pa_cons (pv 5) (pa_cons (pv 8) (pa_cons (pv 9) pa_nil)))))))))) (pss_one (ps_ret pe_bl)) pss_nil)))
        (pss_one (ps_ret pe_bl))))))))))))), ?_⟩
  walk_at "begin"
  walk_at "rd"
  refine ⟨a, ns, rfl, ⟨hS, hlen⟩, fun ql H1 ms hql S1 hQ hms => ?_⟩
  have hS1 := S1.sql0 hS
  walk_at "rd"
  refine ⟨a, ns, 2, rfl, hS1, fun c2 => ?_⟩
  walk_at "rd"
  refine ⟨ql, ms, c2, rfl, ⟨SqL.of hQ, by omega⟩, fun rq H2 row ks hrq S2 hR hrow hkl => ?_⟩
  have hrl := hrow.1
  have hTb2 := tabs_stp (tabs_stp hTb S1) S2
  have hS2 := S2.sql0 hS1
  clear S1 S2 hS hTb hS1 hQ hrq hql
  walk_at "rd"
  refine ⟨a, ns, 3, rfl, hS2, fun c3 => ?_⟩
  walk_at "rd"
  have hbg := big60_pos
  refine SH.v_mod hbg ?_
  have hfar := Int.emod_nonneg c3 (Int.ne_of_gt hbg)
  generalize hff : c3 % big60 = far at hfar ⊢
  walk_at "rd"
  intro nl hnl
  have S3 := (Stp.refl [] H2).new (o := .lst [.int (-1), .int (row.length : Nat), .int ((row.length : Nat) + far), .int (-1 - far)]) hnl
  have hnl3 := upd_same (H := H2) (a := nl) (o := .lst [.int (-1), .int (row.length : Nat), .int ((row.length : Nat) + far), .int (-1 - far)])
  have hTb3 := tabs_stp hTb2 S3
  have hS3 := S3.sql0 hS2
  have hR3 := S3.keep0 hR
  have hrow3 := hrow.stp S3
  generalize upd H2 nl (.lst [.int (-1), .int (row.length : Nat), .int ((row.length : Nat) + far), .int (-1 - far)]) = H3 at S3 hnl3 hTb3 hS3 hR3 hrow3 ⊢
  clear S3 hTb2 hS2 hR hrow
  walk_at "rd"
  refine for_it walk_range (fun j σ H' => ExtN H3 H' ∧ TabsN (Tb A) H' ∧ ∃ v4, σ = [some (.ref a), some (.ref rq), some (.int far), some (.ref nl), v4, none, none, none, none, none]) ⟨ExtN.refl _, hTb3, _, rfl⟩ (fun _ _ _ _ _ => True.intro) ?_ ?_
  · rintro j x σ H4' H4 hj ⟨hE, hTb4, v4, rfl⟩ ⟨rfl, rfl⟩
    have hj4 : j < 4 := hj
    have hnl4 := ext_lst hE hnl3
    have hS4 := sql_extN hE hS3
    have hR4 := ext_lst hE hR3
    have hrow4 := hrow3.ext hE
    simp only [Int.zero_add]
    walk_at "rd"
    obtain ⟨mm, hmm, hmb⟩ : ∃ mm : Int, [V.int (-1), V.int (row.length : Nat), V.int ((row.length : Nat) + far), V.int (-1 - far)][j]? = some (.int mm) ∧ (mm < 0 ∨ (ks.length : Int) ≤ mm) := by
      rcases j with _ | _ | _ | _ | j
      · exact ⟨_, rfl, by omega⟩
      · exact ⟨_, rfl, by omega⟩
      · exact ⟨_, rfl, by omega⟩
      · exact ⟨_, rfl, by omega⟩
      · omega
    refine v_ixLn (n := j) (SqL.of hnl4) rfl hmm ?_
    walk_at "rd"
    intro ll hll
    have S5 := (Stp.refl [] H4).new (o := .lst [.non, .int 0, .non, .int 0]) hll
    have hll5 := upd_same (H := H4) (a := ll) (o := .lst [.non, .int 0, .non, .int 0])
    have hS5 := S5.sql0 hS4
    have hR5 := S5.keep0 hR4
    have hrow5 := hrow4.stp S5
    have hTb5 := tabs_stp hTb4 S5
    have hE5 : ExtN H3 (upd H4 ll (.lst [.non, .int 0, .non, .int 0])) := hE.trans (ExtN.of fun b o e => S5.keep0 e)
    generalize upd H4 ll (.lst [.non, .int 0, .non, .int 0]) = H5 at S5 hll5 hS5 hR5 hrow5 hTb5 hE5 ⊢
    walk_at "rd"
    refine ⟨a, ns, 4, rfl, hS5, fun c4 => ?_⟩
    walk_at "rd"
    obtain ⟨i, hi, hi4⟩ : ∃ i : Nat, ((j : Int) + c4) % 4 = i ∧ i < 4 := ⟨(((j : Int) + c4) % 4).toNat, by omega, by omega⟩
    obtain ⟨mo, hmo⟩ : ∃ mo : Option Nat, [V.non, V.int 0, V.non, V.int 0][i]? = some (mV mo) := by
      rcases i with _ | _ | _ | _ | i
      · exact ⟨none, rfl⟩
      · exact ⟨some 0, rfl⟩
      · exact ⟨none, rfl⟩
      · exact ⟨some 0, rfl⟩
      · omega
    refine v_ixLn (n := i) (SqL.of hll5) hi hmo ?_
    walk_at "rd"
    refine ⟨rq, row, ks, mm, mo, rfl, ⟨hR5, hrow5, by omega, hmb, hTb5⟩, fun H6 hE6 hTb6 => ?_⟩
    refine ⟨_, rfl, ?_⟩
    walk_at "rd"
    exact ⟨hE5.trans hE6, hTb6, _, rfl⟩
  rintro σ H4 ⟨hE, hTb4, v4, rfl⟩
  have hS4 := sql_extN hE hS3
  have hR4 := ext_lst hE hR3
  have hrow4 := hrow3.ext hE
  clear hE hTb3 hS3 hR3 hrow3 hnl3
  walk_at "rd"
  intro z1 hz1
  have S5 := (Stp.refl [] H4).new (o := .lst []) hz1
  have hTb5 := tabs_stp hTb4 S5
  have hS5 := S5.sql0 hS4
  have hR5 := S5.keep0 hR4
  have hrow5 := hrow4.stp S5
  refine v_eqE (x := (List.range ks.length).map fun i => (getE ks i, i)) (y := []) (is_lst (SqL.of hR5) (rowp_isl hrow5)) (is_lst (SqL.of upd_same) .nil) ?_
  generalize upd H4 z1 (.lst []) = H5 at S5 hTb5 hS5 hR5 hrow5 ⊢
  clear S5 hTb4 hS4 hR4 hrow4 hz1
  refine ⟨_, rfl, ?_⟩
  refine r_w (fun hc => ?_) fun hc => ?_
  · walk_at "rd"
    exact k _
  have hpos : 0 < ks.length := by
    rcases Nat.eq_zero_or_pos ks.length with z | z
    · exact (hc (by rw [z]; rfl)).elim
    · exact z
  clear hc
  walk_at "rd"
  refine ⟨a, ns, 3, rfl, hS5, fun d3 => ?_⟩
  walk_at "rd"
  refine ⟨a, ns, 4, rfl, hS5, fun d4 => ?_⟩
  walk_at "rd"
  refine ⟨row.length, d3, d4, rfl, by omega, fun m H6 hm S6 => ?_⟩
  have hTb6 := tabs_stp hTb5 S6
  have hS6 := S6.sql0 hS5
  have hR6 := S6.keep0 hR5
  have hrow6 := hrow5.stp S6
  clear S6 hTb5 hS5 hR5 hrow5
  walk_at "rd"
  intro tl htl
  have S7 := (Stp.refl [] H6).new (o := .lst []) htl
  have htl7 := upd_same (H := H6) (a := tl) (o := .lst [])
  have hTb7 := tabs_stp hTb6 S7
  have hS7 := S7.sql0 hS6
  have hR7 := S7.keep0 hR6
  have hrow7 := hrow6.stp S7
  have hE7 : ExtN H6 (upd H6 tl (.lst [])) := ExtN.of fun b o e => S7.keep0 e
  generalize hH7 : upd H6 tl (.lst []) = H7 at S7 htl7 hTb7 hS7 hR7 hrow7 hE7 ⊢
  walk_at "rq"
  refine askmake (m := none) (us := []) rfl rfl hR7 hrow7 hTb7 htl7 isl_nil (by omega) (by simp) (fun H Q h => h) rfl fun H8 I hM => ?_
  have hA := hM.at_
  have hn := hM.n
  have hlt := hM.lt
  have hpre := hM.e3
  have htlI := hM.e1
  have hmI := hM.e5
  have hTb8 := hM.tab
  have hE8 : ExtN H6 H8 := hE7.trans hM.ext
  have hEx : ∀ {H3 : Hp}, Stp I.M H8 H3 → ExtN H6 H3 := fun {H3} S b o e nt => S.keep (hE8 b o e nt) (hM.far b o (by rw [← hH7]; exact upd_old e htl) (fun z => by rw [z, htl] at e; cases e))
  have hnn : I.n * I.n ≤ 100 * 100 := Nat.mul_le_mul (by omega) (by omega)
  walk_at "rd"
  refine ⟨I, [], (m : Nat), rfl, ⟨hA, by omega, by rw [hpre]; simp only [List.length_nil]; omega⟩, fun z => by omega, fun c hc hcn => ?_⟩
  obtain rfl : m = c := by omega
  refine ⟨(StopM.free hmI).toS, fun H9 t q1 q2 es l1 l2 p hSo hT S9 hA9 hel _ _ _ _ _ ht => ?_⟩
  rw [List.nil_append] at hA9
  have hTe : ∀ e ∈ es, e.c = decide (getE ks e.a < getE ks e.b) := Told.all (by rw [hlt] at hT; exact hT)
  rw [hn] at hSo
  have hE9 := hEx S9
  have hTb9 := tabs_ask hTb8 hA S9
  have hS9 := sql_extN hE9 hS6
  have hR9 := ext_lst hE9 hR6
  have hrow9 := hrow6.ext hE9
  obtain ⟨tvs, htl9, htv9⟩ := hA9.ht
  rw [hpre, List.nil_append] at htv9
  rw [htlI] at htl9
  have htvl := isl_len htv9
  walk_at "rd"
  refine v_ixTn (n := 1) (SqT.of ht) rfl rfl ?_
  walk_at "rd"
  refine ⟨rq, row, kOf H9, rfl, SqL.of hR9, fun x hx => ?_, fun zs zl hsrt hstb hzl => ?_⟩
  · obtain ⟨i, hi⟩ := List.mem_iff_getElem?.mp hx
    obtain ⟨t, h1, h2⟩ := hrow9.2 i x hi
    exact ⟨t, h1, by rw [h1, kOf_at h2]; exact h2⟩
  obtain ⟨tt, h1, h2⟩ := so_mth hSo (by omega) hTe H9 zs hrow9 hsrt hstb.perm
  have S10 := (Stp.refl [] H9).new (o := .lst zs) hzl
  walk_at "rd"
  refine v_ixLn (n := m) (SqL.of upd_same) rfl h1 ?_
  walk_at "rd"
  refine v_ixTn (n := 1) (SqT.of (upd_old h2 hzl)) rfl rfl ?_
  refine v_neI ?_
  rw [decide_eq_true rfl]
  refine ⟨_, rfl, ?_⟩
  have hTb10 := tabs_stp hTb9 S10
  have hS10 := S10.sql0 hS9
  have hR10 := S10.keep0 hR9
  have hrow10 := hrow9.stp S10
  generalize upd H9 zl (.lst zs) = H10 at S10 hTb10 hS10 hR10 hrow10 ⊢
  clear S10 h2 h1 htl9 htv9 hTb9 hS9 hR9 hrow9 ht hA9 S9 hE9 hEx hA hTb8 hE8 hM
  walk_at "rd"
  refine ⟨a, ns, 3, rfl, hS10, fun e3 => ?_⟩
  walk_at "rd"
  rw [htvl]
  have q1 := Int.emod_nonneg (e3 / 7) (show ((es.length : Nat) : Int) + 1 ≠ 0 by omega)
  have q2 := Int.emod_lt_of_pos (e3 / 7) (show (0 : Int) < ((es.length : Nat) : Int) + 1 by omega)
  intro ml hml
  have hml0 := upd_same (H := H10) (a := ml) (o := .lst [.int (es.length : Nat), .int ((es.length : Nat) - 1), .int 0, .int (e3 / 7 % ((es.length : Nat) + 1))])
  have S11 := (Stp.refl [] H10).new (o := .lst [.int (es.length : Nat), .int ((es.length : Nat) - 1), .int 0, .int (e3 / 7 % ((es.length : Nat) + 1))]) hml
  have hTb11 := tabs_stp hTb10 S11
  have hS11 := S11.sql0 hS10
  have hR11 := S11.keep0 hR10
  have hrow11 := hrow10.stp S11
  generalize upd H10 ml (.lst [.int (es.length : Nat), .int ((es.length : Nat) - 1), .int 0, .int (e3 / 7 % ((es.length : Nat) + 1))]) = H11 at S11 hml0 hTb11 hS11 hR11 hrow11 ⊢
  clear S11 hTb10 hS10 hR10 hrow10
  refine v_iList (SqL.of hml0) ?_
  refine for_it (walk_list (xs := [.int (es.length : Nat), .int ((es.length : Nat) - 1), .int 0, .int (e3 / 7 % ((es.length : Nat) + 1))])) (fun j σ H' => ExtN H11 H' ∧ TabsN (Tb A) H' ∧ ∃ v9, σ = [some (.ref a), some (.ref rq), some (.int far), some (.ref nl), v4, some (.int m), some (.ref tl), some (.ref t), some (.int (es.length : Nat)), v9]) ⟨ExtN.refl _, hTb11, _, rfl⟩ (fun j σ H' _ z => SqL.of (ext_lst z.1 hml0)) ?_ ?_
  · rintro j x σ H12' H12 hj ⟨hE, hTb12, v9, rfl⟩ ⟨rfl, hx⟩
    have hj4 : j < 4 := hj
    have hR12 := ext_lst hE hR11
    have hrow12 := hrow11.ext hE
    obtain ⟨mo, rfl, hmo⟩ : ∃ mo : Int, x = .int mo ∧ mo ≤ (es.length : Nat) := by
      rcases j with _ | _ | _ | _ | j
      · cases hx; exact ⟨_, rfl, by omega⟩
      · cases hx; exact ⟨_, rfl, by omega⟩
      · cases hx; exact ⟨_, rfl, by omega⟩
      · cases hx; exact ⟨_, rfl, by omega⟩
      · omega
    walk_at "rd"
    refine r_w (fun h0 => ?_) fun h0 => ?_
    · obtain ⟨mn, rfl⟩ : ∃ mn : Nat, mo = (mn : Int) := ⟨mo.toNat, by omega⟩
      walk_at "rd"
      refine ⟨rq, row, ks, [], [], m, mn, l1, l2, p, es, rfl, ⟨hR12, hrow12, by omega, by omega, by omega, by omega, hSo, hTe, hTb12⟩, fun H13 hE13 hTb13 => ?_⟩
      refine ⟨_, rfl, ?_⟩
      walk_at "rd"
      exact ⟨hE.trans hE13, hTb13, _, rfl⟩
    · exact ⟨hE, hTb12, _, rfl⟩
  rintro σ H12 ⟨hE, hTb12, v9, rfl⟩
  walk_at "rd"
  exact k _
theorem all_mk {l : PySem.W.OpenLaw} {w : World} {K : PySem.W.Frag} {h : Heap} {mg : Str → Option Value} {fa : Addr} (X : K.In h) (G : h.Ns mainGlobals mg) (hfa : mg "law" = some (.ref fa))
    {f1 f2 f3 f4 f5 f6 f7 f8 f9 f10 f11 f12 f13 f14 f15 f16 f17 f18 f19 f20 f21 f22 f23 f24 f25 f26 f27 f28 f29 f30 f31 f32 f33 f34 f35 f36 f37 c_HallError c_NoRule c_NoPaper c_NoPlace c_NoKey c_NoRow c_NoOrder c_TooFar c_Spent c_Pour c_LastPour c_Asker c_Rule c_AskedRule : Addr} {od1 an1 od2 an2 od3 an3 od4 an4 od5 an5 od6 an6 od7 an7 od8 an8 od9 an9 od10 an10 od11 an11 od12 an12 od13 an13 od14 an14 od15 an15 od16 an16 od17 an17 od18 an18 od19 an19 od20 an20 od21 an21 od22 an22 od23 an23 od24 an24 od25 an25 od26 an26 od27 an27 od28 an28 od29 an29 od30 an30 od31 an31 od32 an32 od33 an33 od34 an34 od35 an35 od36 an36 od37 an37 : Option Addr} {sl1 sl2 sl3 sl4 sl5 sl6 sl7 sl8 sl9 sl10 sl11 sl12 sl13 sl14 sl15 sl16 sl17 sl18 sl19 sl20 sl21 sl22 sl23 sl24 sl25 sl26 sl27 sl28 sl29 sl30 sl31 sl32 sl33 sl34 sl35 sl36 sl37 : Array (Option Value)} {oc1 kV1 dc1 pm1 ct1 oc2 kV2 dc2 pm2 cd2 ct2 oc3 kV3 dc3 pm3 cd3 ct3 oc4 kV4 dc4 pm4 cd4 ct4 oc5 kV5 dc5 pm5 cd5 ct5 oc6 kV6 dc6 pm6 cd6 ct6 oc7 kV7 dc7 pm7 cd7 ct7 oc8 kV8 dc8 pm8 cd8 ct8 oc9 kV9 dc9 pm9 cd9 ct9 oc10 kV10 dc10 pm10 cd10 ct10 oc11 kV11 dc11 pm11 cd11 ct11 oc12 kV12 dc12 pm12 cd12 ct12 oc13 kV13 dc13 pm13 cd13 ct13 oc14 kV14 dc14 pm14 cd14 ct14 oc15 kV15 dc15 pm15 cd15 ct15 oc16 kV16 dc16 pm16 cd16 ct16 oc17 kV17 dc17 pm17 cd17 ct17 oc18 kV18 dc18 pm18 cd18 ct18 oc19 kV19 dc19 pm19 cd19 ct19 oc20 kV20 dc20 pm20 cd20 ct20 oc21 kV21 dc21 pm21 cd21 ct21 oc22 kV22 dc22 pm22 cd22 ct22 oc23 kV23 dc23 pm23 cd23 ct23 oc24 kV24 dc24 pm24 cd24 ct24 oc25 kV25 dc25 pm25 cd25 ct25 oc26 kV26 dc26 pm26 cd26 ct26 oc27 kV27 dc27 pm27 cd27 ct27 oc28 kV28 dc28 pm28 cd28 ct28 oc29 kV29 dc29 pm29 cd29 ct29 oc30 kV30 dc30 pm30 cd30 ct30 oc31 kV31 dc31 pm31 cd31 ct31 oc32 kV32 dc32 pm32 cd32 ct32 oc33 kV33 dc33 pm33 cd33 ct33 oc34 kV34 dc34 pm34 cd34 ct34 oc35 kV35 dc35 pm35 cd35 ct35 oc36 kV36 dc36 pm36 cd36 ct36 oc37 kV37 dc37 pm37 cd37 ct37 : Value} {nm_Spent q_Spent : Str} {N_Spent : Addr} {bs_Spent : List Value} {sn_Spent : List Str} {su_Spent : List Value} {ab_Spent : Bool} {co_Spent : Option Bool} {dd_Spent : Option Addr} {m0_Spent m1_Spent m2_Spent m3_Spent m5_Spent : Option Value} {cc1 : Addr} {oK1 : Value} {uK1 : Option Addr} {vs1 : Array Value} {sK1 : Array (Option Value)} {P1 : Addr} {dT8 : Addr} {oT8 : Value} {oU8 : Option Addr} {tsl8 : Array (Option Value)} {nT8 : Nat}
    (aC_HallError : PySem.W.nsIn K mainGlobals "HallError" = some (some (.ref c_HallError)))
    (xn_HallError : PySem.W.excIn K c_HallError [.type "ValueError", .type "Exception", .type "BaseException", .type "object"] "ValueError.__new__" = true)
    (kp_HallError : PySem.W.keepIn K (.ref c_HallError) = true)
    (sb_HallError : PySem.W.subIn K (.ref c_HallError) (.type "BaseException") = some true)
    (ty_HallError : PySem.W.typeIn K (.ref c_HallError) = some (.type "type"))
    (e0_HallError : PySem.W.findIn K (.ref c_HallError) "__getattribute__" = some (some (.builtin "BaseException.__getattribute__")))
    (e1_HallError : PySem.W.findIn K (.ref c_HallError) "__getattr__" = some none)
    (e2_HallError : PySem.W.subIn K (.ref c_HallError) (.type "BaseException") = some true)
    (e3_HallError : PySem.W.hasDictIn K c_HallError = true)
    (e4_HallError : PySem.W.findIn K (.ref c_HallError) "__class__" = some (some (.builtin "object.__class__")))
    (e5_HallError : PySem.W.specialIn K (.builtin "object.__class__") "__get__" = some (some (.builtin "getset_descriptor.__get__")))
    (e6_HallError : PySem.W.takesIn K (.builtin "object.__class__") = some true)
    (e7_HallError : PySem.W.mroIn K c_HallError (.type "object") = some true)
    (aC_NoRule : PySem.W.nsIn K mainGlobals "NoRule" = some (some (.ref c_NoRule)))
    (aC_NoPaper : PySem.W.nsIn K mainGlobals "NoPaper" = some (some (.ref c_NoPaper)))
    (aC_NoPlace : PySem.W.nsIn K mainGlobals "NoPlace" = some (some (.ref c_NoPlace)))
    (xn_NoPlace : PySem.W.excIn K c_NoPlace [.type "ValueError", .type "Exception", .type "BaseException", .type "object"] "ValueError.__new__" = true)
    (kp_NoPlace : PySem.W.keepIn K (.ref c_NoPlace) = true)
    (sb_NoPlace : PySem.W.subIn K (.ref c_NoPlace) (.type "BaseException") = some true)
    (ty_NoPlace : PySem.W.typeIn K (.ref c_NoPlace) = some (.type "type"))
    (e0_NoPlace : PySem.W.findIn K (.ref c_NoPlace) "__getattribute__" = some (some (.builtin "BaseException.__getattribute__")))
    (e1_NoPlace : PySem.W.findIn K (.ref c_NoPlace) "__getattr__" = some none)
    (e2_NoPlace : PySem.W.subIn K (.ref c_NoPlace) (.type "BaseException") = some true)
    (e3_NoPlace : PySem.W.hasDictIn K c_NoPlace = true)
    (e4_NoPlace : PySem.W.findIn K (.ref c_NoPlace) "__class__" = some (some (.builtin "object.__class__")))
    (e5_NoPlace : PySem.W.specialIn K (.builtin "object.__class__") "__get__" = some (some (.builtin "getset_descriptor.__get__")))
    (e6_NoPlace : PySem.W.takesIn K (.builtin "object.__class__") = some true)
    (e7_NoPlace : PySem.W.mroIn K c_NoPlace (.type "object") = some true)
    (aC_NoKey : PySem.W.nsIn K mainGlobals "NoKey" = some (some (.ref c_NoKey)))
    (aC_NoRow : PySem.W.nsIn K mainGlobals "NoRow" = some (some (.ref c_NoRow)))
    (aC_NoOrder : PySem.W.nsIn K mainGlobals "NoOrder" = some (some (.ref c_NoOrder)))
    (aC_TooFar : PySem.W.nsIn K mainGlobals "TooFar" = some (some (.ref c_TooFar)))
    (aC_Spent : PySem.W.nsIn K mainGlobals "Spent" = some (some (.ref c_Spent)))
    (xL_Spent : K.lookup c_Spent = some (excClassObj nm_Spent q_Spent c_Spent N_Spent bs_Spent [.ref c_HallError, .type "ValueError", .type "Exception", .type "BaseException", .type "object"] true sn_Spent su_Spent ab_Spent co_Spent dd_Spent m0_Spent m1_Spent m2_Spent m3_Spent m5_Spent "ValueError.__new__"))
    (sa_Spent : PySem.W.findIn K (.ref c_Spent) "__setattr__" = some (some (.builtin "object.__setattr__")))
    (in_Spent : PySem.W.findIn K (.ref c_Spent) "__init__" = some (some (.ref f2)))
    (tI_Spent : PySem.W.typeIn K (.ref f2) = some (.type "function"))
    (na_Spent_asked : PySem.W.findIn K (.ref c_Spent) "asked" = some none)
    (kp_Spent : PySem.W.keepIn K (.ref c_Spent) = true)
    (sb_Spent : PySem.W.subIn K (.ref c_Spent) (.type "BaseException") = some true)
    (ty_Spent : PySem.W.typeIn K (.ref c_Spent) = some (.type "type"))
    (e0_Spent : PySem.W.findIn K (.ref c_Spent) "__getattribute__" = some (some (.builtin "BaseException.__getattribute__")))
    (e1_Spent : PySem.W.findIn K (.ref c_Spent) "__getattr__" = some none)
    (e2_Spent : PySem.W.subIn K (.ref c_Spent) (.type "BaseException") = some true)
    (e3_Spent : PySem.W.hasDictIn K c_Spent = true)
    (e4_Spent : PySem.W.findIn K (.ref c_Spent) "__class__" = some (some (.builtin "object.__class__")))
    (e5_Spent : PySem.W.specialIn K (.builtin "object.__class__") "__get__" = some (some (.builtin "getset_descriptor.__get__")))
    (e6_Spent : PySem.W.takesIn K (.builtin "object.__class__") = some true)
    (e7_Spent : PySem.W.mroIn K c_Spent (.type "object") = some true)
    (aC_Pour : PySem.W.nsIn K mainGlobals "Pour" = some (some (.ref c_Pour)))
    (pg_Pour : PySem.W.plainGet K c_Pour Str.empty = true)
    (hd_Pour : PySem.W.hasDictIn K c_Pour = true)
    (po_Pour : PySem.W.plainOver K c_Pour = true)
    (sa_Pour : PySem.W.findIn K (.ref c_Pour) "__setattr__" = some (some (.builtin "object.__setattr__")))
    (mk_Pour : PySem.W.makesIn K c_Pour = true)
    (kc_Pour : PySem.W.keepIn K (.ref c_Pour) = true)
    (na_Pour_asker : PySem.W.findIn K (.ref c_Pour) "asker" = some none)
    (na_Pour_pieces : PySem.W.findIn K (.ref c_Pour) "pieces" = some none)
    (na_Pour_gone : PySem.W.findIn K (.ref c_Pour) "gone" = some none)
    (na_Pour_went_on : PySem.W.findIn K (.ref c_Pour) "went_on" = some none)
    (aC_LastPour : PySem.W.nsIn K mainGlobals "LastPour" = some (some (.ref c_LastPour)))
    (pg_LastPour : PySem.W.plainGet K c_LastPour Str.empty = true)
    (hd_LastPour : PySem.W.hasDictIn K c_LastPour = true)
    (po_LastPour : PySem.W.plainOver K c_LastPour = true)
    (sa_LastPour : PySem.W.findIn K (.ref c_LastPour) "__setattr__" = some (some (.builtin "object.__setattr__")))
    (mk_LastPour : PySem.W.makesIn K c_LastPour = true)
    (kc_LastPour : PySem.W.keepIn K (.ref c_LastPour) = true)
    (na_LastPour_pieces : PySem.W.findIn K (.ref c_LastPour) "pieces" = some none)
    (na_LastPour_asker : PySem.W.findIn K (.ref c_LastPour) "asker" = some none)
    (na_LastPour_gone : PySem.W.findIn K (.ref c_LastPour) "gone" = some none)
    (na_LastPour_went_on : PySem.W.findIn K (.ref c_LastPour) "went_on" = some none)
    (aC_Asker : PySem.W.nsIn K mainGlobals "Asker" = some (some (.ref c_Asker)))
    (pg_Asker : PySem.W.plainGet K c_Asker Str.empty = true)
    (hd_Asker : PySem.W.hasDictIn K c_Asker = true)
    (po_Asker : PySem.W.plainOver K c_Asker = true)
    (sa_Asker : PySem.W.findIn K (.ref c_Asker) "__setattr__" = some (some (.builtin "object.__setattr__")))
    (mk_Asker : PySem.W.makesIn K c_Asker = true)
    (kc_Asker : PySem.W.keepIn K (.ref c_Asker) = true)
    (na_Asker_row : PySem.W.findIn K (.ref c_Asker) "row" = some none)
    (na_Asker_rule : PySem.W.findIn K (.ref c_Asker) "rule" = some none)
    (na_Asker_most : PySem.W.findIn K (.ref c_Asker) "most" = some none)
    (na_Asker_asked : PySem.W.findIn K (.ref c_Asker) "asked" = some none)
    (na_Asker_log : PySem.W.findIn K (.ref c_Asker) "log" = some none)
    (aC_Rule : PySem.W.nsIn K mainGlobals "Rule" = some (some (.ref c_Rule)))
    (pg_Rule : PySem.W.plainGet K c_Rule Str.empty = true)
    (hd_Rule : PySem.W.hasDictIn K c_Rule = true)
    (po_Rule : PySem.W.plainOver K c_Rule = true)
    (sa_Rule : PySem.W.findIn K (.ref c_Rule) "__setattr__" = some (some (.builtin "object.__setattr__")))
    (mk_Rule : PySem.W.makesIn K c_Rule = true)
    (kc_Rule : PySem.W.keepIn K (.ref c_Rule) = true)
    (aC_AskedRule : PySem.W.nsIn K mainGlobals "AskedRule" = some (some (.ref c_AskedRule)))
    (pg_AskedRule : PySem.W.plainGet K c_AskedRule Str.empty = true)
    (hd_AskedRule : PySem.W.hasDictIn K c_AskedRule = true)
    (po_AskedRule : PySem.W.plainOver K c_AskedRule = true)
    (sa_AskedRule : PySem.W.findIn K (.ref c_AskedRule) "__setattr__" = some (some (.builtin "object.__setattr__")))
    (mk_AskedRule : PySem.W.makesIn K c_AskedRule = true)
    (kc_AskedRule : PySem.W.keepIn K (.ref c_AskedRule) = true)
    (na_AskedRule_teller : PySem.W.findIn K (.ref c_AskedRule) "teller" = some none)
    (a1 : PySem.W.nsIn K mainGlobals "_law_teller" = some (some (.ref f1)))
    (l1 : K.lookup f1 = some ⟨oc1, od1, .func (PySem.W.fnOf "_law_teller" "_law_teller" (defArgs s__law_teller) (defBody s__law_teller) (defScope s__law_teller) .none kV1 dc1 pm1 an1 (.ref cc1) ct1), sl1⟩)
    (lc1 : K.lookup cc1 = some ⟨oK1, uK1, .fields vs1, sK1⟩)
    (lp1 : (vs1[11]? : Option Value) = some (.ref P1))
    (hh1 : PySem.W.codeHdIn K cc1 P1 = true)
    (np1 : K.lookup P1 = Option.none)
    (gp1 : mainGlobals ≠ P1)
    (tp1 : h.get? P1 = some (PySem.W.tabObj #[]))
    (c1 : PySem.W.codeIn K (.ref cc1) "_law_teller" = true)
    (k1 : PySem.W.keepIn K (.ref f1) = true)
    (i2 : PySem.W.isFn K (.ref f2) = true)
    (l2 : K.lookup f2 = some ⟨oc2, od2, .func (PySem.W.fnOf "__init__" "Spent.__init__" (defArgs s_Spent___init__) (defBody s_Spent___init__) (defScope s_Spent___init__) .none kV2 dc2 pm2 an2 cd2 ct2), sl2⟩)
    (c2 : PySem.W.codeIn K cd2 "Spent.__init__" = true)
    (k2 : PySem.W.keepIn K (.ref f2) = true)
    (a3_AskedRule : PySem.W.findIn K (.ref c_AskedRule) "__init__" = some (some (.ref f3)))
    (i3 : PySem.W.isFn K (.ref f3) = true)
    (l3 : K.lookup f3 = some ⟨oc3, od3, .func (PySem.W.fnOf "__init__" "AskedRule.__init__" (defArgs s_AskedRule___init__) (defBody s_AskedRule___init__) (defScope s_AskedRule___init__) .none kV3 dc3 pm3 an3 cd3 ct3), sl3⟩)
    (c3 : PySem.W.codeIn K cd3 "AskedRule.__init__" = true)
    (k3 : PySem.W.keepIn K (.ref f3) = true)
    (a4_AskedRule : PySem.W.findIn K (.ref c_AskedRule) "before" = some (some (.ref f4)))
    (i4 : PySem.W.isFn K (.ref f4) = true)
    (l4 : K.lookup f4 = some ⟨oc4, od4, .func (PySem.W.fnOf "before" "AskedRule.before" (defArgs s_AskedRule_before) (defBody s_AskedRule_before) (defScope s_AskedRule_before) .none kV4 dc4 pm4 an4 cd4 ct4), sl4⟩)
    (c4 : PySem.W.codeIn K cd4 "AskedRule.before" = true)
    (k4 : PySem.W.keepIn K (.ref f4) = true)
    (a5_Asker : PySem.W.findIn K (.ref c_Asker) "ahead" = some (some (.ref f5)))
    (i5 : PySem.W.isFn K (.ref f5) = true)
    (l5 : K.lookup f5 = some ⟨oc5, od5, .func (PySem.W.fnOf "ahead" "Asker.ahead" (defArgs s_Asker_ahead) (defBody s_Asker_ahead) (defScope s_Asker_ahead) .none kV5 dc5 pm5 an5 cd5 ct5), sl5⟩)
    (c5 : PySem.W.codeIn K cd5 "Asker.ahead" = true)
    (k5 : PySem.W.keepIn K (.ref f5) = true)
    (a6_Asker : PySem.W.findIn K (.ref c_Asker) "widen" = some (some (.ref f6)))
    (i6 : PySem.W.isFn K (.ref f6) = true)
    (l6 : K.lookup f6 = some ⟨oc6, od6, .func (PySem.W.fnOf "widen" "Asker.widen" (defArgs s_Asker_widen) (defBody s_Asker_widen) (defScope s_Asker_widen) .none kV6 dc6 pm6 an6 cd6 ct6), sl6⟩)
    (c6 : PySem.W.codeIn K cd6 "Asker.widen" = true)
    (k6 : PySem.W.keepIn K (.ref f6) = true)
    (a7_Asker : PySem.W.findIn K (.ref c_Asker) "many" = some (some (.ref f7)))
    (i7 : PySem.W.isFn K (.ref f7) = true)
    (l7 : K.lookup f7 = some ⟨oc7, od7, .func (PySem.W.fnOf "many" "Asker.many" (defArgs s_Asker_many) (defBody s_Asker_many) (defScope s_Asker_many) .none kV7 dc7 pm7 an7 cd7 ct7), sl7⟩)
    (c7 : PySem.W.codeIn K cd7 "Asker.many" = true)
    (k7 : PySem.W.keepIn K (.ref f7) = true)
    (a8_Asker : PySem.W.findIn K (.ref c_Asker) "__init__" = some (some (.ref f8)))
    (i8 : PySem.W.isFn K (.ref f8) = true)
    (l8 : K.lookup f8 = some ⟨oc8, od8, .func (PySem.W.fnOf "__init__" "Asker.__init__" (defArgs s_Asker___init__) (defBody s_Asker___init__) (defScope s_Asker___init__) (.ref dT8) kV8 dc8 pm8 an8 cd8 ct8), sl8⟩)
    (lt8 : K.lookup dT8 = some ⟨oT8, oU8, .seq ([Value.none] : List Value).toArray nT8, tsl8⟩)
    (c8 : PySem.W.codeIn K cd8 "Asker.__init__" = true)
    (k8 : PySem.W.keepIn K (.ref f8) = true)
    (a9 : PySem.W.nsIn K mainGlobals "cut_between" = some (some (.ref f9)))
    (l9 : K.lookup f9 = some ⟨oc9, od9, .func (PySem.W.fnOf "cut_between" "cut_between" (defArgs s_cut_between) (defBody s_cut_between) (defScope s_cut_between) .none kV9 dc9 pm9 an9 cd9 ct9), sl9⟩)
    (c9 : PySem.W.codeIn K cd9 "cut_between" = true)
    (k9 : PySem.W.keepIn K (.ref f9) = true)
    (a10_Pour : PySem.W.findIn K (.ref c_Pour) "front" = some (some (.ref f10)))
    (i10 : PySem.W.isFn K (.ref f10) = true)
    (l10 : K.lookup f10 = some ⟨oc10, od10, .func (PySem.W.fnOf "front" "Pour.front" (defArgs s_Pour_front) (defBody s_Pour_front) (defScope s_Pour_front) .none kV10 dc10 pm10 an10 cd10 ct10), sl10⟩)
    (c10 : PySem.W.codeIn K cd10 "Pour.front" = true)
    (k10 : PySem.W.keepIn K (.ref f10) = true)
    (a11_Pour : PySem.W.findIn K (.ref c_Pour) "goes_on" = some (some (.ref f11)))
    (i11 : PySem.W.isFn K (.ref f11) = true)
    (l11 : K.lookup f11 = some ⟨oc11, od11, .func (PySem.W.fnOf "goes_on" "Pour.goes_on" (defArgs s_Pour_goes_on) (defBody s_Pour_goes_on) (defScope s_Pour_goes_on) .none kV11 dc11 pm11 an11 cd11 ct11), sl11⟩)
    (c11 : PySem.W.codeIn K cd11 "Pour.goes_on" = true)
    (k11 : PySem.W.keepIn K (.ref f11) = true)
    (a12_Pour : PySem.W.findIn K (.ref c_Pour) "meeting" = some (some (.ref f12)))
    (i12 : PySem.W.isFn K (.ref f12) = true)
    (l12 : K.lookup f12 = some ⟨oc12, od12, .func (PySem.W.fnOf "meeting" "Pour.meeting" (defArgs s_Pour_meeting) (defBody s_Pour_meeting) (defScope s_Pour_meeting) .none kV12 dc12 pm12 an12 cd12 ct12), sl12⟩)
    (c12 : PySem.W.codeIn K cd12 "Pour.meeting" = true)
    (k12 : PySem.W.keepIn K (.ref f12) = true)
    (a13_Pour : PySem.W.findIn K (.ref c_Pour) "hold_all" = some (some (.ref f13)))
    (i13 : PySem.W.isFn K (.ref f13) = true)
    (l13 : K.lookup f13 = some ⟨oc13, od13, .func (PySem.W.fnOf "hold_all" "Pour.hold_all" (defArgs s_Pour_hold_all) (defBody s_Pour_hold_all) (defScope s_Pour_hold_all) .none kV13 dc13 pm13 an13 cd13 ct13), sl13⟩)
    (c13 : PySem.W.codeIn K cd13 "Pour.hold_all" = true)
    (k13 : PySem.W.keepIn K (.ref f13) = true)
    (a14_Pour : PySem.W.findIn K (.ref c_Pour) "__init__" = some (some (.ref f14)))
    (i14 : PySem.W.isFn K (.ref f14) = true)
    (l14 : K.lookup f14 = some ⟨oc14, od14, .func (PySem.W.fnOf "__init__" "Pour.__init__" (defArgs s_Pour___init__) (defBody s_Pour___init__) (defScope s_Pour___init__) .none kV14 dc14 pm14 an14 cd14 ct14), sl14⟩)
    (c14 : PySem.W.codeIn K cd14 "Pour.__init__" = true)
    (k14 : PySem.W.keepIn K (.ref f14) = true)
    (a15_Pour : PySem.W.findIn K (.ref c_Pour) "first" = some (some (.ref f15)))
    (i15 : PySem.W.isFn K (.ref f15) = true)
    (l15 : K.lookup f15 = some ⟨oc15, od15, .func (PySem.W.fnOf "first" "Pour.first" (defArgs s_Pour_first) (defBody s_Pour_first) (defScope s_Pour_first) .none kV15 dc15 pm15 an15 cd15 ct15), sl15⟩)
    (c15 : PySem.W.codeIn K cd15 "Pour.first" = true)
    (k15 : PySem.W.keepIn K (.ref f15) = true)
    (a16_Pour : PySem.W.findIn K (.ref c_Pour) "way_down" = some (some (.ref f16)))
    (i16 : PySem.W.isFn K (.ref f16) = true)
    (l16 : K.lookup f16 = some ⟨oc16, od16, .func (PySem.W.fnOf "way_down" "Pour.way_down" (defArgs s_Pour_way_down) (defBody s_Pour_way_down) (defScope s_Pour_way_down) .none kV16 dc16 pm16 an16 cd16 ct16), sl16⟩)
    (c16 : PySem.W.codeIn K cd16 "Pour.way_down" = true)
    (k16 : PySem.W.keepIn K (.ref f16) = true)
    (a17_Pour : PySem.W.findIn K (.ref c_Pour) "take" = some (some (.ref f17)))
    (i17 : PySem.W.isFn K (.ref f17) = true)
    (l17 : K.lookup f17 = some ⟨oc17, od17, .func (PySem.W.fnOf "take" "Pour.take" (defArgs s_Pour_take) (defBody s_Pour_take) (defScope s_Pour_take) .none kV17 dc17 pm17 an17 cd17 ct17), sl17⟩)
    (c17 : PySem.W.codeIn K cd17 "Pour.take" = true)
    (k17 : PySem.W.keepIn K (.ref f17) = true)
    (a18_LastPour : PySem.W.findIn K (.ref c_LastPour) "front" = some (some (.ref f18)))
    (i18 : PySem.W.isFn K (.ref f18) = true)
    (l18 : K.lookup f18 = some ⟨oc18, od18, .func (PySem.W.fnOf "front" "LastPour.front" (defArgs s_LastPour_front) (defBody s_LastPour_front) (defScope s_LastPour_front) .none kV18 dc18 pm18 an18 cd18 ct18), sl18⟩)
    (c18 : PySem.W.codeIn K cd18 "LastPour.front" = true)
    (k18 : PySem.W.keepIn K (.ref f18) = true)
    (a19_LastPour : PySem.W.findIn K (.ref c_LastPour) "goes_on" = some (some (.ref f19)))
    (i19 : PySem.W.isFn K (.ref f19) = true)
    (l19 : K.lookup f19 = some ⟨oc19, od19, .func (PySem.W.fnOf "goes_on" "LastPour.goes_on" (defArgs s_LastPour_goes_on) (defBody s_LastPour_goes_on) (defScope s_LastPour_goes_on) .none kV19 dc19 pm19 an19 cd19 ct19), sl19⟩)
    (c19 : PySem.W.codeIn K cd19 "LastPour.goes_on" = true)
    (k19 : PySem.W.keepIn K (.ref f19) = true)
    (a20_LastPour : PySem.W.findIn K (.ref c_LastPour) "meeting" = some (some (.ref f20)))
    (i20 : PySem.W.isFn K (.ref f20) = true)
    (l20 : K.lookup f20 = some ⟨oc20, od20, .func (PySem.W.fnOf "meeting" "Pour.meeting" (defArgs s_LastPour_meeting) (defBody s_LastPour_meeting) (defScope s_LastPour_meeting) .none kV20 dc20 pm20 an20 cd20 ct20), sl20⟩)
    (c20 : PySem.W.codeIn K cd20 "Pour.meeting" = true)
    (k20 : PySem.W.keepIn K (.ref f20) = true)
    (a21_LastPour : PySem.W.findIn K (.ref c_LastPour) "hold_all" = some (some (.ref f21)))
    (i21 : PySem.W.isFn K (.ref f21) = true)
    (l21 : K.lookup f21 = some ⟨oc21, od21, .func (PySem.W.fnOf "hold_all" "Pour.hold_all" (defArgs s_LastPour_hold_all) (defBody s_LastPour_hold_all) (defScope s_LastPour_hold_all) .none kV21 dc21 pm21 an21 cd21 ct21), sl21⟩)
    (c21 : PySem.W.codeIn K cd21 "Pour.hold_all" = true)
    (k21 : PySem.W.keepIn K (.ref f21) = true)
    (a22_LastPour : PySem.W.findIn K (.ref c_LastPour) "__init__" = some (some (.ref f22)))
    (i22 : PySem.W.isFn K (.ref f22) = true)
    (l22 : K.lookup f22 = some ⟨oc22, od22, .func (PySem.W.fnOf "__init__" "Pour.__init__" (defArgs s_LastPour___init__) (defBody s_LastPour___init__) (defScope s_LastPour___init__) .none kV22 dc22 pm22 an22 cd22 ct22), sl22⟩)
    (c22 : PySem.W.codeIn K cd22 "Pour.__init__" = true)
    (k22 : PySem.W.keepIn K (.ref f22) = true)
    (a23_LastPour : PySem.W.findIn K (.ref c_LastPour) "first" = some (some (.ref f23)))
    (i23 : PySem.W.isFn K (.ref f23) = true)
    (l23 : K.lookup f23 = some ⟨oc23, od23, .func (PySem.W.fnOf "first" "Pour.first" (defArgs s_LastPour_first) (defBody s_LastPour_first) (defScope s_LastPour_first) .none kV23 dc23 pm23 an23 cd23 ct23), sl23⟩)
    (c23 : PySem.W.codeIn K cd23 "Pour.first" = true)
    (k23 : PySem.W.keepIn K (.ref f23) = true)
    (a24_LastPour : PySem.W.findIn K (.ref c_LastPour) "way_down" = some (some (.ref f24)))
    (i24 : PySem.W.isFn K (.ref f24) = true)
    (l24 : K.lookup f24 = some ⟨oc24, od24, .func (PySem.W.fnOf "way_down" "Pour.way_down" (defArgs s_LastPour_way_down) (defBody s_LastPour_way_down) (defScope s_LastPour_way_down) .none kV24 dc24 pm24 an24 cd24 ct24), sl24⟩)
    (c24 : PySem.W.codeIn K cd24 "Pour.way_down" = true)
    (k24 : PySem.W.keepIn K (.ref f24) = true)
    (a25_LastPour : PySem.W.findIn K (.ref c_LastPour) "take" = some (some (.ref f25)))
    (i25 : PySem.W.isFn K (.ref f25) = true)
    (l25 : K.lookup f25 = some ⟨oc25, od25, .func (PySem.W.fnOf "take" "Pour.take" (defArgs s_LastPour_take) (defBody s_LastPour_take) (defScope s_LastPour_take) .none kV25 dc25 pm25 an25 cd25 ct25), sl25⟩)
    (c25 : PySem.W.codeIn K cd25 "Pour.take" = true)
    (k25 : PySem.W.keepIn K (.ref f25) = true)
    (a26 : PySem.W.nsIn K mainGlobals "_law_cell_at" = some (some (.ref f26)))
    (l26 : K.lookup f26 = some ⟨oc26, od26, .func (PySem.W.fnOf "_law_cell_at" "_law_cell_at" (defArgs s__law_cell_at) (defBody s__law_cell_at) (defScope s__law_cell_at) .none kV26 dc26 pm26 an26 cd26 ct26), sl26⟩)
    (c26 : PySem.W.codeIn K cd26 "_law_cell_at" = true)
    (k26 : PySem.W.keepIn K (.ref f26) = true)
    (a27 : PySem.W.nsIn K mainGlobals "rest_of_all" = some (some (.ref f27)))
    (l27 : K.lookup f27 = some ⟨oc27, od27, .func (PySem.W.fnOf "rest_of_all" "rest_of_all" (defArgs s_rest_of_all) (defBody s_rest_of_all) (defScope s_rest_of_all) .none kV27 dc27 pm27 an27 cd27 ct27), sl27⟩)
    (c27 : PySem.W.codeIn K cd27 "rest_of_all" = true)
    (k27 : PySem.W.keepIn K (.ref f27) = true)
    (a28 : PySem.W.nsIn K mainGlobals "so_manieth" = some (some (.ref f28)))
    (l28 : K.lookup f28 = some ⟨oc28, od28, .func (PySem.W.fnOf "so_manieth" "so_manieth" (defArgs s_so_manieth) (defBody s_so_manieth) (defScope s_so_manieth) .none kV28 dc28 pm28 an28 cd28 ct28), sl28⟩)
    (c28 : PySem.W.codeIn K cd28 "so_manieth" = true)
    (k28 : PySem.W.keepIn K (.ref f28) = true)
    (a29 : PySem.W.nsIn K mainGlobals "_law_stream" = some (some (.ref f29)))
    (l29 : K.lookup f29 = some ⟨oc29, od29, .func (PySem.W.fnOf "_law_stream" "_law_stream" (defArgs s__law_stream) (defBody s__law_stream) (defScope s__law_stream) .none kV29 dc29 pm29 an29 cd29 ct29), sl29⟩)
    (c29 : PySem.W.codeIn K cd29 "_law_stream" = true)
    (k29 : PySem.W.keepIn K (.ref f29) = true)
    (a30 : PySem.W.nsIn K mainGlobals "_law_numbers" = some (some (.ref f30)))
    (l30 : K.lookup f30 = some ⟨oc30, od30, .func (PySem.W.fnOf "_law_numbers" "_law_numbers" (defArgs s__law_numbers) (defBody s__law_numbers) (defScope s__law_numbers) .none kV30 dc30 pm30 an30 cd30 ct30), sl30⟩)
    (c30 : PySem.W.codeIn K cd30 "_law_numbers" = true)
    (k30 : PySem.W.keepIn K (.ref f30) = true)
    (a31 : PySem.W.nsIn K mainGlobals "_law_row" = some (some (.ref f31)))
    (l31 : K.lookup f31 = some ⟨oc31, od31, .func (PySem.W.fnOf "_law_row" "_law_row" (defArgs s__law_row) (defBody s__law_row) (defScope s__law_row) .none kV31 dc31 pm31 an31 cd31 ct31), sl31⟩)
    (c31 : PySem.W.codeIn K cd31 "_law_row" = true)
    (k31 : PySem.W.keepIn K (.ref f31) = true)
    (a32 : PySem.W.nsIn K mainGlobals "_law_many" = some (some (.ref f32)))
    (l32 : K.lookup f32 = some ⟨oc32, od32, .func (PySem.W.fnOf "_law_many" "_law_many" (defArgs s__law_many) (defBody s__law_many) (defScope s__law_many) .none kV32 dc32 pm32 an32 cd32 ct32), sl32⟩)
    (c32 : PySem.W.codeIn K cd32 "_law_many" = true)
    (k32 : PySem.W.keepIn K (.ref f32) = true)
    (a33 : PySem.W.nsIn K mainGlobals "_law_another" = some (some (.ref f33)))
    (l33 : K.lookup f33 = some ⟨oc33, od33, .func (PySem.W.fnOf "_law_another" "_law_another" (defArgs s__law_another) (defBody s__law_another) (defScope s__law_another) .none kV33 dc33 pm33 an33 cd33 ct33), sl33⟩)
    (c33 : PySem.W.codeIn K cd33 "_law_another" = true)
    (k33 : PySem.W.keepIn K (.ref f33) = true)
    (a34 : PySem.W.nsIn K mainGlobals "_law_tried" = some (some (.ref f34)))
    (l34 : K.lookup f34 = some ⟨oc34, od34, .func (PySem.W.fnOf "_law_tried" "_law_tried" (defArgs s__law_tried) (defBody s__law_tried) (defScope s__law_tried) .none kV34 dc34 pm34 an34 cd34 ct34), sl34⟩)
    (c34 : PySem.W.codeIn K cd34 "_law_tried" = true)
    (k34 : PySem.W.keepIn K (.ref f34) = true)
    (a35 : PySem.W.nsIn K mainGlobals "_law_no_place" = some (some (.ref f35)))
    (l35 : K.lookup f35 = some ⟨oc35, od35, .func (PySem.W.fnOf "_law_no_place" "_law_no_place" (defArgs s__law_no_place) (defBody s__law_no_place) (defScope s__law_no_place) .none kV35 dc35 pm35 an35 cd35 ct35), sl35⟩)
    (c35 : PySem.W.codeIn K cd35 "_law_no_place" = true)
    (k35 : PySem.W.keepIn K (.ref f35) = true)
    (a36 : PySem.W.nsIn K mainGlobals "_law_stopped" = some (some (.ref f36)))
    (l36 : K.lookup f36 = some ⟨oc36, od36, .func (PySem.W.fnOf "_law_stopped" "_law_stopped" (defArgs s__law_stopped) (defBody s__law_stopped) (defScope s__law_stopped) .none kV36 dc36 pm36 an36 cd36 ct36), sl36⟩)
    (c36 : PySem.W.codeIn K cd36 "_law_stopped" = true)
    (k36 : PySem.W.keepIn K (.ref f36) = true)
    (a37 : PySem.W.nsIn K mainGlobals "law" = some (some (.ref f37)))
    (l37 : K.lookup f37 = some ⟨oc37, od37, .func (PySem.W.fnOf "law" "law" (defArgs s_law) (defBody s_law) (defScope s_law) .none kV37 dc37 pm37 an37 cd37 ct37), sl37⟩)
    (c37 : PySem.W.codeIn K cd37 "law" = true)
    (k37 : PySem.W.keepIn K (.ref f37) = true)
    (z_ValueError : PySem.W.nsIn K mainGlobals "ValueError" = some none)
    (z_sorted : PySem.W.nsIn K mainGlobals "sorted" = some none)
    (z_range : PySem.W.nsIn K mainGlobals "range" = some none)
    (z_len : PySem.W.nsIn K mainGlobals "len" = some none)
    (z_list : PySem.W.nsIn K mainGlobals "list" = some none)
    (z_reversed : PySem.W.nsIn K mainGlobals "reversed" = some none)
    (z_max : PySem.W.nsIn K mainGlobals "max" = some none)
    (z_min : PySem.W.nsIn K mainGlobals "min" = some none)
    (z_isinstance : PySem.W.nsIn K mainGlobals "isinstance" = some none)
    (xs_Spent_HallError : PySem.W.subIn K (.ref c_Spent) (.ref c_HallError) = some true)
    (xs_NoPlace_HallError : PySem.W.subIn K (.ref c_NoPlace) (.ref c_HallError) = some true)
    (kits_Spent_ValueError : PySem.W.kitOne K (.ref c_Spent) (.type "ValueError") = some true)
    (kits_Spent_NoPlace : PySem.W.kitOne K (.ref c_Spent) (.ref c_NoPlace) = some false)
    (kits_Spent_Spent : PySem.W.kitOne K (.ref c_Spent) (.ref c_Spent) = some true)
    (kits_Spent_NoPaper : PySem.W.kitOne K (.ref c_Spent) (.ref c_NoPaper) = some false)
    (kits_Spent_NoRule : PySem.W.kitOne K (.ref c_Spent) (.ref c_NoRule) = some false)
    (kits_Spent_NoKey : PySem.W.kitOne K (.ref c_Spent) (.ref c_NoKey) = some false)
    (kits_Spent_NoRow : PySem.W.kitOne K (.ref c_Spent) (.ref c_NoRow) = some false)
    (kits_Spent_NoOrder : PySem.W.kitOne K (.ref c_Spent) (.ref c_NoOrder) = some false)
    (kits_Spent_TooFar : PySem.W.kitOne K (.ref c_Spent) (.ref c_TooFar) = some false)
    (kits_NoPlace_ValueError : PySem.W.kitOne K (.ref c_NoPlace) (.type "ValueError") = some true)
    (kits_NoPlace_NoPlace : PySem.W.kitOne K (.ref c_NoPlace) (.ref c_NoPlace) = some true)
    (kits_NoPlace_Spent : PySem.W.kitOne K (.ref c_NoPlace) (.ref c_Spent) = some false)
    (kits_NoPlace_NoPaper : PySem.W.kitOne K (.ref c_NoPlace) (.ref c_NoPaper) = some false)
    (kits_NoPlace_NoRule : PySem.W.kitOne K (.ref c_NoPlace) (.ref c_NoRule) = some false)
    (kits_NoPlace_NoKey : PySem.W.kitOne K (.ref c_NoPlace) (.ref c_NoKey) = some false)
    (kits_NoPlace_NoRow : PySem.W.kitOne K (.ref c_NoPlace) (.ref c_NoRow) = some false)
    (kits_NoPlace_NoOrder : PySem.W.kitOne K (.ref c_NoPlace) (.ref c_NoOrder) = some false)
    (kits_NoPlace_TooFar : PySem.W.kitOne K (.ref c_NoPlace) (.ref c_TooFar) = some false) :
    LamX.LawAtS l w K CX0 21 63 "_law_script" mg fa h := by
  have e := hfa.symm.trans (PySem.W.mg_of X G a37)
  cases e
  let A : Ad := ⟨c_HallError, c_NoRule, c_NoPaper, c_NoPlace, c_NoKey, c_NoRow, c_NoOrder, c_TooFar, c_Spent, c_Pour, c_LastPour, c_Asker, c_Rule, c_AskedRule, P1⟩
  have T : Txt K mg A := ⟨PySem.W.mg_none_of X G z_ValueError, PySem.W.mg_none_of X G z_sorted, PySem.W.mg_none_of X G z_range, PySem.W.mg_none_of X G z_len, PySem.W.mg_none_of X G z_list, PySem.W.mg_none_of X G z_reversed, PySem.W.mg_none_of X G z_max, PySem.W.mg_none_of X G z_min, PySem.W.mg_none_of X G z_isinstance, PySem.W.mg_of X G aC_HallError, xn_HallError, kp_HallError, sb_HallError, ty_HallError, ⟨e0_HallError, e1_HallError, e2_HallError, e3_HallError, e4_HallError, e5_HallError, e6_HallError, e7_HallError⟩, PySem.W.mg_of X G aC_NoRule, PySem.W.mg_of X G aC_NoPaper, PySem.W.mg_of X G aC_NoPlace, xn_NoPlace, kp_NoPlace, sb_NoPlace, ty_NoPlace, ⟨e0_NoPlace, e1_NoPlace, e2_NoPlace, e3_NoPlace, e4_NoPlace, e5_NoPlace, e6_NoPlace, e7_NoPlace⟩, PySem.W.mg_of X G aC_NoKey, PySem.W.mg_of X G aC_NoRow, PySem.W.mg_of X G aC_NoOrder, PySem.W.mg_of X G aC_TooFar, PySem.W.mg_of X G aC_Spent, ⟨⟨_, _, _, _, _, _, _, _, _, _, _, _, _, _, _, xL_Spent, rfl⟩, sa_Spent, sb_Spent, ty_Spent, kp_Spent⟩, na_Spent_asked, kp_Spent, sb_Spent, ty_Spent, ⟨e0_Spent, e1_Spent, e2_Spent, e3_Spent, e4_Spent, e5_Spent, e6_Spent, e7_Spent⟩, PySem.W.mg_of X G aC_Pour, ⟨pg_Pour, hd_Pour, po_Pour, sa_Pour⟩, na_Pour_asker, na_Pour_pieces, na_Pour_gone, na_Pour_went_on, PySem.W.mg_of X G aC_LastPour, ⟨pg_LastPour, hd_LastPour, po_LastPour, sa_LastPour⟩, na_LastPour_pieces, na_LastPour_asker, na_LastPour_gone, na_LastPour_went_on, PySem.W.mg_of X G aC_Asker, ⟨pg_Asker, hd_Asker, po_Asker, sa_Asker⟩, na_Asker_row, na_Asker_rule, na_Asker_most, na_Asker_asked, na_Asker_log, PySem.W.mg_of X G aC_Rule, ⟨pg_Rule, hd_Rule, po_Rule, sa_Rule⟩, PySem.W.mg_of X G aC_AskedRule, ⟨pg_AskedRule, hd_AskedRule, po_AskedRule, sa_AskedRule⟩, na_AskedRule_teller, PySem.W.exm_ref sb_HallError e3_HallError ty_HallError xs_Spent_HallError, PySem.W.exm_ref sb_HallError e3_HallError ty_HallError xs_NoPlace_HallError, kits_Spent_ValueError, kits_Spent_NoPlace, kits_Spent_Spent, kits_Spent_NoPaper, kits_Spent_NoRule, kits_Spent_NoKey, kits_Spent_NoRow, kits_Spent_NoOrder, kits_Spent_TooFar, kits_NoPlace_ValueError, kits_NoPlace_NoPlace, kits_NoPlace_Spent, kits_NoPlace_NoPaper, kits_NoPlace_NoRule, kits_NoPlace_NoKey, kits_NoPlace_NoRow, kits_NoPlace_NoOrder, kits_NoPlace_TooFar⟩
  have F2 := fun_mk (st := s_Spent___init__) l2 c2 k2
  have F3 := fun_mk (st := s_AskedRule___init__) l3 c3 k3
  have F4 := fun_mk (st := s_AskedRule_before) l4 c4 k4
  have F5 := fun_mk (st := s_Asker_ahead) l5 c5 k5
  have F6 := fun_mk (st := s_Asker_widen) l6 c6 k6
  have F7 := fun_mk (st := s_Asker_many) l7 c7 k7
  have F8 := SH.funD_mk (st := s_Asker___init__) (dvs := [.non]) l8 lt8 (.cons rfl .nil) (by simp) c8 k8
  have F9 := fun_mk (st := s_cut_between) l9 c9 k9
  have F10 := fun_mk (st := s_Pour_front) l10 c10 k10
  have F11 := fun_mk (st := s_Pour_goes_on) l11 c11 k11
  have F12 := fun_mk (st := s_Pour_meeting) l12 c12 k12
  have F13 := fun_mk (st := s_Pour_hold_all) l13 c13 k13
  have F14 := fun_mk (st := s_Pour___init__) l14 c14 k14
  have F15 := fun_mk (st := s_Pour_first) l15 c15 k15
  have F16 := fun_mk (st := s_Pour_way_down) l16 c16 k16
  have F17 := fun_mk (st := s_Pour_take) l17 c17 k17
  have F18 := fun_mk (st := s_LastPour_front) l18 c18 k18
  have F19 := fun_mk (st := s_LastPour_goes_on) l19 c19 k19
  have F20 := fun_mk (st := s_LastPour_meeting) l20 c20 k20
  have F21 := fun_mk (st := s_LastPour_hold_all) l21 c21 k21
  have F22 := fun_mk (st := s_LastPour___init__) l22 c22 k22
  have F23 := fun_mk (st := s_LastPour_first) l23 c23 k23
  have F24 := fun_mk (st := s_LastPour_way_down) l24 c24 k24
  have F25 := fun_mk (st := s_LastPour_take) l25 c25 k25
  have F26 := fun_mk (st := s__law_cell_at) l26 c26 k26
  have F27 := fun_mk (st := s_rest_of_all) l27 c27 k27
  have F28 := fun_mk (st := s_so_manieth) l28 c28 k28
  have F29 := fun_mk (st := s__law_stream) l29 c29 k29
  have F30 := fun_mk (st := s__law_numbers) l30 c30 k30
  have F31 := fun_mk (st := s__law_row) l31 c31 k31
  have F32 := fun_mk (st := s__law_many) l32 c32 k32
  have F33 := fun_mk (st := s__law_another) l33 c33 k33
  have F34 := fun_mk (st := s__law_tried) l34 c34 k34
  have F35 := fun_mk (st := s__law_no_place) l35 c35 k35
  have F36 := fun_mk (st := s__law_stopped) l36 c36 k36
  have F37 := fun_mk (st := s_law) l37 c37 k37
  refine ⟨PySem.W.fnOf "law" "law" (defArgs s_law) (defBody s_law) (defScope s_law) .none kV37 dc37 pm37 an37 cd37 ct37, [(cc1, P1)], sp_law K A, (fun p hp => by rw [List.mem_singleton] at hp; rw [hp]; exact tp1), (fun p hp => by rw [List.mem_singleton] at hp; rw [hp]; exact np1), (fun p hp => by rw [List.mem_singleton] at hp; rw [hp]; exact PySem.W.codeHd_of_K X hh1), (fun s v => .of_eq rfl), (fun H a ns hl _ hcs hS => ⟨a, ns, rfl, ⟨hS, hl, fun p hp => by rw [List.mem_singleton] at hp; rw [hp]; exact SH.tabN_empty (hcs _ (List.mem_singleton.mpr rfl))⟩, fun _ => rfl⟩), fun base _ _ hTB => ?_⟩
  have TB : LamX.TabB base mg cc1 P1 := hTB _ (List.mem_singleton.mpr rfl)
  have TEL := (cok__law_teller___law_tells (P := l.prog) (w := w) (base := base) T).tel
  have O__law_teller := ok__law_teller (P := l.prog) (w := w) (base := base) (A := A) l1 c1 TB
  have O_Spent___init__ := ok_Spent___init__ (P := l.prog) (w := w) (base := base) F2 T 
  have O_AskedRule___init__ := ok_AskedRule___init__ (P := l.prog) (w := w) (base := base) F3 T 
  have O_AskedRule_before := ok_AskedRule_before (P := l.prog) (w := w) (base := base) F4 T TEL
  have X1 : SH.CalM l.prog w K mg base CX0 _ A.AskedRule "before" [] _ := ⟨T.cl_AskedRule, f4, _, _, _, ⟨a4_AskedRule, i4, k4⟩, (F4.binds (ps := ["self", "x", "y"]) fun _ _ _ _ _ _ us hl => match us, hl with | [_, _, _], _ => rfl), .nil, O_AskedRule_before⟩
  have X2 : SH.CalE l.prog w K mg base _ "Spent" A.Spent _ := ⟨T.ox_Spent, f2, _, _, T.g_Spent, in_Spent, tI_Spent, (F2.binds (ps := ["self", "asked"]) fun _ _ _ _ _ _ us hl => match us, hl with | [_, _], _ => rfl), O_Spent___init__⟩
  have O_Asker_ahead := ok_Asker_ahead (P := l.prog) (w := w) (base := base) F5 T X1 X2
  have O_Asker_widen := ok_Asker_widen (P := l.prog) (w := w) (base := base) F6 T 
  have O_Asker_many := ok_Asker_many (P := l.prog) (w := w) (base := base) F7 T 
  have O_Asker___init__ := ok_Asker___init__ (P := l.prog) (w := w) (base := base) F8 T 
  have O_cut_between := ok_cut_between (P := l.prog) (w := w) (base := base) F9 T 
  have O_Pour_front := ok_Pour_front (P := l.prog) (w := w) (base := base) F10 T 
  have X3 : SH.CalM l.prog w K mg base (L2N.CX l.prog w) _ A.Asker "ahead" [] _ := ⟨T.cl_Asker, f5, _, _, _, ⟨a5_Asker, i5, k5⟩, (F5.binds (ps := ["self", "p", "q"]) fun _ _ _ _ _ _ us hl => match us, hl with | [_, _, _], _ => rfl), .nil, O_Asker_ahead⟩
  have O_Pour_goes_on := ok_Pour_goes_on (P := l.prog) (w := w) (base := base) F11 T X3
  have X4 : SH.CalM l.prog w K mg base (L2N.CX l.prog w) _ A.Pour "goes_on" [] _ := ⟨T.cl_Pour, f11, _, _, _, ⟨a11_Pour, i11, k11⟩, (F11.binds (ps := ["self", "one", "other"]) fun _ _ _ _ _ _ us hl => match us, hl with | [_, _, _], _ => rfl), .nil, O_Pour_goes_on⟩
  have O_Pour_meeting := ok_Pour_meeting (P := l.prog) (w := w) (base := base) F12 T X4
  have X5 : SH.CalM l.prog w K mg base CX0 _ A.Pour "front" [] _ := ⟨T.cl_Pour, f10, _, _, _, ⟨a10_Pour, i10, k10⟩, (F10.binds (ps := ["self", "number", "gone"]) fun _ _ _ _ _ _ us hl => match us, hl with | [_, _, _], _ => rfl), .nil, O_Pour_front⟩
  have X6 : SH.CalM l.prog w K mg base (L2N.CX l.prog w) _ A.Pour "meeting" [] _ := ⟨T.cl_Pour, f12, _, _, _, ⟨a12_Pour, i12, k12⟩, (F12.binds (ps := ["self", "one", "other"]) fun _ _ _ _ _ _ us hl => match us, hl with | [_, _, _], _ => rfl), .nil, O_Pour_meeting⟩
  have X7 : SH.Cal l.prog w K mg base CX0 _ "cut_between" [] _ := ⟨f9, _, _, _, PySem.W.mg_of X G a9, k9, (F9.binds (ps := ["low", "high"]) fun _ _ _ _ _ _ us hl => match us, hl with | [_, _], _ => rfl), .nil, O_cut_between⟩
  have O_Pour_hold_all := ok_Pour_hold_all (P := l.prog) (w := w) (base := base) F13 T X5 X6 X7 ⟨a13_Pour, i13, k13⟩ (F13.binds (ps := ["self", "low", "high"]) fun _ _ _ _ _ _ us hl => match us, hl with | [_, _, _], _ => rfl)
  have X8 : SH.CalM l.prog w K mg base (L2N.CX l.prog w) _ A.Pour "hold_all" [] _ := ⟨T.cl_Pour, f13, _, _, _, ⟨a13_Pour, i13, k13⟩, (F13.binds (ps := ["self", "low", "high"]) fun _ _ _ _ _ _ us hl => match us, hl with | [_, _, _], _ => rfl), .nil, O_Pour_hold_all⟩
  have O_Pour___init__ := ok_Pour___init__ (P := l.prog) (w := w) (base := base) F14 T X8
  have O_Pour_first := ok_Pour_first (P := l.prog) (w := w) (base := base) F15 T 
  have O_Pour_way_down := ok_Pour_way_down (P := l.prog) (w := w) (base := base) F16 T X7
  have X9 : SH.CalM l.prog w K mg base CX0 _ A.Pour "way_down" [] _ := ⟨T.cl_Pour, f16, _, _, _, ⟨a16_Pour, i16, k16⟩, (F16.binds (ps := ["self", "number"]) fun _ _ _ _ _ _ us hl => match us, hl with | [_, _], _ => rfl), .nil, O_Pour_way_down⟩
  have O_Pour_take := ok_Pour_take (P := l.prog) (w := w) (base := base) F17 T X5 X6 X9 X7
  have O_LastPour_front := ok_LastPour_front (P := l.prog) (w := w) (base := base) F18 T 
  have O_LastPour_goes_on := ok_LastPour_goes_on (P := l.prog) (w := w) (base := base) F19 T X3
  have X10 : SH.CalM l.prog w K mg base (L2N.CX l.prog w) _ A.LastPour "goes_on" [] _ := ⟨T.cl_LastPour, f19, _, _, _, ⟨a19_LastPour, i19, k19⟩, (F19.binds (ps := ["self", "one", "other"]) fun _ _ _ _ _ _ us hl => match us, hl with | [_, _, _], _ => rfl), .nil, O_LastPour_goes_on⟩
  have O_LastPour_meeting := ok_LastPour_meeting (P := l.prog) (w := w) (base := base) F20 T X10
  have X11 : SH.CalM l.prog w K mg base CX0 _ A.LastPour "front" [] _ := ⟨T.cl_LastPour, f18, _, _, _, ⟨a18_LastPour, i18, k18⟩, (F18.binds (ps := ["self", "number", "gone"]) fun _ _ _ _ _ _ us hl => match us, hl with | [_, _, _], _ => rfl), .nil, O_LastPour_front⟩
  have X12 : SH.CalM l.prog w K mg base (L2N.CX l.prog w) _ A.LastPour "meeting" [] _ := ⟨T.cl_LastPour, f20, _, _, _, ⟨a20_LastPour, i20, k20⟩, (F20.binds (ps := ["self", "one", "other"]) fun _ _ _ _ _ _ us hl => match us, hl with | [_, _, _], _ => rfl), .nil, O_LastPour_meeting⟩
  have O_LastPour_hold_all := ok_LastPour_hold_all (P := l.prog) (w := w) (base := base) F21 T X11 X12 X7 ⟨a21_LastPour, i21, k21⟩ (F21.binds (ps := ["self", "low", "high"]) fun _ _ _ _ _ _ us hl => match us, hl with | [_, _, _], _ => rfl)
  have X13 : SH.CalM l.prog w K mg base (L2N.CX l.prog w) _ A.LastPour "hold_all" [] _ := ⟨T.cl_LastPour, f21, _, _, _, ⟨a21_LastPour, i21, k21⟩, (F21.binds (ps := ["self", "low", "high"]) fun _ _ _ _ _ _ us hl => match us, hl with | [_, _, _], _ => rfl), .nil, O_LastPour_hold_all⟩
  have O_LastPour___init__ := ok_LastPour___init__ (P := l.prog) (w := w) (base := base) F22 T X13
  have O_LastPour_first := ok_LastPour_first (P := l.prog) (w := w) (base := base) F23 T 
  have O_LastPour_way_down := ok_LastPour_way_down (P := l.prog) (w := w) (base := base) F24 T X7
  have X14 : SH.CalM l.prog w K mg base CX0 _ A.LastPour "way_down" [] _ := ⟨T.cl_LastPour, f24, _, _, _, ⟨a24_LastPour, i24, k24⟩, (F24.binds (ps := ["self", "number"]) fun _ _ _ _ _ _ us hl => match us, hl with | [_, _], _ => rfl), .nil, O_LastPour_way_down⟩
  have O_LastPour_take := ok_LastPour_take (P := l.prog) (w := w) (base := base) F25 T X11 X12 X14 X7
  have O__law_cell_at := ok__law_cell_at (P := l.prog) (w := w) (base := base) F26 T 
  have O_rest_of_all := ok_rest_of_all (P := l.prog) (w := w) (base := base) F27 T 
  have X15 : SH.CalM l.prog w K mg base CX0 _ A.Asker "many" [] _ := ⟨T.cl_Asker, f7, _, _, _, ⟨a7_Asker, i7, k7⟩, (F7.binds (ps := ["self"]) fun _ _ _ _ _ _ us hl => match us, hl with | [_], _ => rfl), .nil, O_Asker_many⟩
  have X16 : SH.CalM l.prog w K mg base CX0 _ A.LastPour "first" [] _ := ⟨T.cl_LastPour, f23, _, _, _, ⟨a23_LastPour, i23, k23⟩, (F23.binds (ps := ["self"]) fun _ _ _ _ _ _ us hl => match us, hl with | [_], _ => rfl), .nil, O_LastPour_first⟩
  have X17 : SH.CalM l.prog w K mg base (L2N.CX l.prog w) _ A.LastPour "take" [] _ := ⟨T.cl_LastPour, f25, _, _, _, ⟨a25_LastPour, i25, k25⟩, (F25.binds (ps := ["self"]) fun _ _ _ _ _ _ us hl => match us, hl with | [_], _ => rfl), .nil, O_LastPour_take⟩
  have X18 : SH.CalM l.prog w K mg base CX0 _ A.Pour "first" [] _ := ⟨T.cl_Pour, f15, _, _, _, ⟨a15_Pour, i15, k15⟩, (F15.binds (ps := ["self"]) fun _ _ _ _ _ _ us hl => match us, hl with | [_], _ => rfl), .nil, O_Pour_first⟩
  have X19 : SH.CalM l.prog w K mg base (L2N.CX l.prog w) _ A.Pour "take" [] _ := ⟨T.cl_Pour, f17, _, _, _, ⟨a17_Pour, i17, k17⟩, (F17.binds (ps := ["self"]) fun _ _ _ _ _ _ us hl => match us, hl with | [_], _ => rfl), .nil, O_Pour_take⟩
  have X20 : SH.CalC l.prog w K mg base (L2N.CX l.prog w) _ "LastPour" A.LastPour [] _ := ⟨f22, _, _, _, T.g_LastPour, ⟨mk_LastPour, a22_LastPour, i22, kc_LastPour⟩, (F22.binds (ps := ["self", "asker", "pieces"]) fun _ _ _ _ _ _ us hl => match us, hl with | [_, _, _], _ => rfl), .nil, O_LastPour___init__⟩
  have X21 : SH.CalC l.prog w K mg base (L2N.CX l.prog w) _ "Pour" A.Pour [] _ := ⟨f14, _, _, _, T.g_Pour, ⟨mk_Pour, a14_Pour, i14, kc_Pour⟩, (F14.binds (ps := ["self", "asker", "pieces"]) fun _ _ _ _ _ _ us hl => match us, hl with | [_, _, _], _ => rfl), .nil, O_Pour___init__⟩
  have X22 : SH.Cal l.prog w K mg base CX0 _ "rest_of_all" [] _ := ⟨f27, _, _, _, PySem.W.mg_of X G a27, k27, (F27.binds (ps := ["total", "taken", "place"]) fun _ _ _ _ _ _ us hl => match us, hl with | [_, _, _], _ => rfl), .nil, O_rest_of_all⟩
  have O_so_manieth := ok_so_manieth (P := l.prog) (w := w) (base := base) F28 T X15 X16 X17 X18 X19 X20 X21 X22
  have O__law_stream := ok__law_stream (P := l.prog) (w := w) (base := base) F29 T 
  have X23 : SH.Cal l.prog w K mg base CX0 _ "_law_cell_at" [] _ := ⟨f26, _, _, _, PySem.W.mg_of X G a26, k26, (F26.binds (ps := ["_law_script", "_law_k"]) fun _ _ _ _ _ _ us hl => match us, hl with | [_, _], _ => rfl), .nil, O__law_cell_at⟩
  have X24 : SH.Cal l.prog w K mg base CX0 _ "_law_stream" [] _ := ⟨f29, _, _, _, PySem.W.mg_of X G a29, k29, (F29.binds (ps := ["_law_seed", "_law_many_here"]) fun _ _ _ _ _ _ us hl => match us, hl with | [_, _], _ => rfl), .nil, O__law_stream⟩
  have O__law_numbers := ok__law_numbers (P := l.prog) (w := w) (base := base) F30 T X23 X24
  have O__law_row := ok__law_row (P := l.prog) (w := w) (base := base) F31 T 
  have O__law_many := ok__law_many (P := l.prog) (w := w) (base := base) F32 T 
  have O__law_another := ok__law_another (P := l.prog) (w := w) (base := base) F33 T 
  have OH__law_another := okh__law_another (P := l.prog) (w := w) (base := base) F33 T 
  have X25 : SH.CalU l.prog w K mg base _ "_law_another" _ := ⟨f33, _, _, PySem.W.mg_of X G a33, k33, (F33.binds (ps := ["_law_e"]) fun _ _ _ _ _ _ us hl => match us, hl with | [_], _ => rfl), OH__law_another⟩
  have X26 : SH.Cal l.prog w K mg base (L2N.CX l.prog w) _ "so_manieth" [] _ := ⟨f28, _, _, _, PySem.W.mg_of X G a28, k28, (F28.binds (ps := ["asker", "many"]) fun _ _ _ _ _ _ us hl => match us, hl with | [_, _], _ => rfl), .nil, O_so_manieth⟩
  have O__law_tried := ok__law_tried (P := l.prog) (w := w) (base := base) F34 T X25 X26
  have X27 : SH.Cal l.prog w K mg base CX0 _ "_law_teller" [] _ := ⟨f1, _, _, _, PySem.W.mg_of X G a1, k1, (.all fun us hl => match us, hl with | [_], _ => rfl), .nil, O__law_teller⟩
  have X28 : SH.Cal l.prog w K mg base CX0 _ "_law_tried" [] _ := ⟨f34, _, _, _, PySem.W.mg_of X G a34, k34, (F34.binds (ps := ["_law_asker", "_law_many_here"]) fun _ _ _ _ _ _ us hl => match us, hl with | [_, _], _ => rfl), .nil, O__law_tried⟩
  have X29 : SH.CalC l.prog w K mg base CX0 _ "AskedRule" A.AskedRule [] _ := ⟨f3, _, _, _, T.g_AskedRule, ⟨mk_AskedRule, a3_AskedRule, i3, kc_AskedRule⟩, (F3.binds (ps := ["self", "teller"]) fun _ _ _ _ _ _ us hl => match us, hl with | [_, _], _ => rfl), .nil, O_AskedRule___init__⟩
  obtain ⟨dsX30, vdX30, bdX30⟩ := F8.binds1 (ps := ["self", "row", "rule", "most"]) 4 1 (by simp) rfl (fun _ _ _ _ _ _ _ us its hu hi => match us, its, hu, hi with | [_, _, _, _], [_], _, _ => ⟨_, rfl, rfl⟩)
  have X30 : SH.CalC l.prog w K mg base CX0 _ "Asker" A.Asker [] _ := ⟨f8, _, _, _, T.g_Asker, ⟨mk_Asker, a8_Asker, i8, kc_Asker⟩, bdX30, vdX30, O_Asker___init__⟩
  have O__law_no_place := ok__law_no_place (P := l.prog) (w := w) (base := base) F35 T X27 X28 X29 X30
  have X31 : SH.CalM l.prog w K mg base CX0 _ A.Asker "widen" [] _ := ⟨T.cl_Asker, f6, _, _, _, ⟨a6_Asker, i6, k6⟩, (F6.binds (ps := ["self", "more"]) fun _ _ _ _ _ _ us hl => match us, hl with | [_, _], _ => rfl), .nil, O_Asker_widen⟩
  have O__law_stopped := ok__law_stopped (P := l.prog) (w := w) (base := base) F36 T X31 X27 X28 X29 X30
  have X32 : SH.Cal l.prog w K mg base CX0 _ "_law_many" [] _ := ⟨f32, _, _, _, PySem.W.mg_of X G a32, k32, (F32.binds (ps := ["_law_total", "_law_one", "_law_two"]) fun _ _ _ _ _ _ us hl => match us, hl with | [_, _, _], _ => rfl), .nil, O__law_many⟩
  have X33 : SH.Cal l.prog w K mg base CX0 _ "_law_no_place" [] _ := ⟨f35, _, _, _, PySem.W.mg_of X G a35, k35, (F35.binds (ps := ["_law_row_here", "_law_many_here", "_law_most"]) fun _ _ _ _ _ _ us hl => match us, hl with | [_, _, _], _ => rfl), .nil, O__law_no_place⟩
  have X34 : SH.Cal l.prog w K mg base CX0 _ "_law_numbers" [] _ := ⟨f30, _, _, _, PySem.W.mg_of X G a30, k30, (F30.binds (ps := ["_law_script"]) fun _ _ _ _ _ _ us hl => match us, hl with | [_], _ => rfl), .nil, O__law_numbers⟩
  have X35 : SH.Cal l.prog w K mg base CX0 _ "_law_row" [] _ := ⟨f31, _, _, _, PySem.W.mg_of X G a31, k31, (F31.binds (ps := ["_law_numbers_here", "_law_kind"]) fun _ _ _ _ _ _ us hl => match us, hl with | [_, _], _ => rfl), .nil, O__law_row⟩
  have X36 : SH.Cal l.prog w K mg base CX0 _ "_law_stopped" [] _ := ⟨f36, _, _, _, PySem.W.mg_of X G a36, k36, (F36.binds (ps := ["_law_row_here", "_law_many_here", "_law_needed", "_law_most"]) fun _ _ _ _ _ _ us hl => match us, hl with | [_, _, _, _], _ => rfl), .nil, O__law_stopped⟩
  obtain ⟨dsX37, vdX37, bdX37⟩ := F8.binds1 (ps := ["self", "row", "rule", "most"]) 3 0 (by simp) rfl (fun _ _ _ _ _ _ _ us its hu hi => match us, its, hu, hi with | [_, _, _], [_], _, _ => ⟨_, rfl, rfl⟩)
  have X37 : SH.CalC l.prog w K mg base CX0 _ "Asker" A.Asker [.non] _ := ⟨f8, _, _, _, T.g_Asker, ⟨mk_Asker, a8_Asker, i8, kc_Asker⟩, bdX37, vdX37, O_Asker___init__⟩
  have O_law := ok_law (P := l.prog) (w := w) (base := base) F37 T X23 X32 X33 X34 X35 X36 X27 X29 X37 X26
  exact O_law
theorem walk {l : PySem.W.OpenLaw} {q : Program} {loose : List Str} {XP : (Str → Option Value) → Heap → Prop} {YP : World → Heap → Prop} {d : DefRec} {K : Params → PySem.W.Frag} (hn : l.most = some 63) (hdf : d.params.defaults = [])
    (hY : ∀ (w : World) (h : Heap), YP w h → (K w.params).In h)
    (F : ∀ (w : World) (mg : Str → Option Value) (fa : Addr) (h : Heap), YP w h → (K w.params).In h → h.Ns mainGlobals mg → mg d.name = some (.ref fa) → LamX.LawAtS l w (K w.params) CX0 21 63 "_law_script" mg fa h) :
    PySem.W.WalkO q loose XP YP l.row.toRowW d [] (fun f vs => PySem.call f vs) :=
  LamX.walk_ofTs (n := 63) (k := 21) (x := "_law_script") (CX := fun _ => CX0) hn (by decide) hdf ⟨rfl, by decide, by decide⟩ hY F fun _ _ _ _ _ z => z
end Law

open PySem PySem.W PyProof.Rows
set_option maxRecDepth 100000 in
set_option maxHeartbeats 0 in
theorem PySem.Challenge.cw_sorthall_k76_refused_and_stopped_holds : PySem.Challenge.rw_sorthall_k76_refused_and_stopped.Holds := by
  w_on; o_law; k_head; (case hw => w_witness2)
  k_fill
  refine Law.walk (l := PySem.Challenge.rw_sorthall_k76_refused_and_stopped) rfl rfl (fun w h Y => PySem.W.km_in_of Y) ?F
  case F =>
    intro w mg fa h Y KX G hmg
    refine' Law.all_mk KX G hmg ?aC_HallError ?xn_HallError ?kp_HallError ?sb_HallError ?ty_HallError ?e0_HallError ?e1_HallError ?e2_HallError ?e3_HallError ?e4_HallError ?e5_HallError ?e6_HallError ?e7_HallError ?aC_NoRule ?aC_NoPaper ?aC_NoPlace ?xn_NoPlace ?kp_NoPlace ?sb_NoPlace ?ty_NoPlace ?e0_NoPlace ?e1_NoPlace ?e2_NoPlace ?e3_NoPlace ?e4_NoPlace ?e5_NoPlace ?e6_NoPlace ?e7_NoPlace ?aC_NoKey ?aC_NoRow ?aC_NoOrder ?aC_TooFar ?aC_Spent ?xL_Spent ?sa_Spent ?in_Spent ?tI_Spent ?na_Spent_asked ?kp_Spent ?sb_Spent ?ty_Spent ?e0_Spent ?e1_Spent ?e2_Spent ?e3_Spent ?e4_Spent ?e5_Spent ?e6_Spent ?e7_Spent ?aC_Pour ?pg_Pour ?hd_Pour ?po_Pour ?sa_Pour ?mk_Pour ?kc_Pour ?na_Pour_asker ?na_Pour_pieces ?na_Pour_gone ?na_Pour_went_on ?aC_LastPour ?pg_LastPour ?hd_LastPour ?po_LastPour ?sa_LastPour ?mk_LastPour ?kc_LastPour ?na_LastPour_pieces ?na_LastPour_asker ?na_LastPour_gone ?na_LastPour_went_on ?aC_Asker ?pg_Asker ?hd_Asker ?po_Asker ?sa_Asker ?mk_Asker ?kc_Asker ?na_Asker_row ?na_Asker_rule ?na_Asker_most ?na_Asker_asked ?na_Asker_log ?aC_Rule ?pg_Rule ?hd_Rule ?po_Rule ?sa_Rule ?mk_Rule ?kc_Rule ?aC_AskedRule ?pg_AskedRule ?hd_AskedRule ?po_AskedRule ?sa_AskedRule ?mk_AskedRule ?kc_AskedRule ?na_AskedRule_teller ?a1 ?l1 ?lc1 ?lp1 ?hh1 ?np1 ?gp1 ?tp1 ?c1 ?k1 ?i2 ?l2 ?c2 ?k2 ?a3_AskedRule ?i3 ?l3 ?c3 ?k3 ?a4_AskedRule ?i4 ?l4 ?c4 ?k4 ?a5_Asker ?i5 ?l5 ?c5 ?k5 ?a6_Asker ?i6 ?l6 ?c6 ?k6 ?a7_Asker ?i7 ?l7 ?c7 ?k7 ?a8_Asker ?i8 ?l8 ?lt8 ?c8 ?k8 ?a9 ?l9 ?c9 ?k9 ?a10_Pour ?i10 ?l10 ?c10 ?k10 ?a11_Pour ?i11 ?l11 ?c11 ?k11 ?a12_Pour ?i12 ?l12 ?c12 ?k12 ?a13_Pour ?i13 ?l13 ?c13 ?k13 ?a14_Pour ?i14 ?l14 ?c14 ?k14 ?a15_Pour ?i15 ?l15 ?c15 ?k15 ?a16_Pour ?i16 ?l16 ?c16 ?k16 ?a17_Pour ?i17 ?l17 ?c17 ?k17 ?a18_LastPour ?i18 ?l18 ?c18 ?k18 ?a19_LastPour ?i19 ?l19 ?c19 ?k19 ?a20_LastPour ?i20 ?l20 ?c20 ?k20 ?a21_LastPour ?i21 ?l21 ?c21 ?k21 ?a22_LastPour ?i22 ?l22 ?c22 ?k22 ?a23_LastPour ?i23 ?l23 ?c23 ?k23 ?a24_LastPour ?i24 ?l24 ?c24 ?k24 ?a25_LastPour ?i25 ?l25 ?c25 ?k25 ?a26 ?l26 ?c26 ?k26 ?a27 ?l27 ?c27 ?k27 ?a28 ?l28 ?c28 ?k28 ?a29 ?l29 ?c29 ?k29 ?a30 ?l30 ?c30 ?k30 ?a31 ?l31 ?c31 ?k31 ?a32 ?l32 ?c32 ?k32 ?a33 ?l33 ?c33 ?k33 ?a34 ?l34 ?c34 ?k34 ?a35 ?l35 ?c35 ?k35 ?a36 ?l36 ?c36 ?k36 ?a37 ?l37 ?c37 ?k37 ?z_ValueError ?z_sorted ?z_range ?z_len ?z_list ?z_reversed ?z_max ?z_min ?z_isinstance ?xs_Spent_HallError ?xs_NoPlace_HallError ?kits_Spent_ValueError ?kits_Spent_NoPlace ?kits_Spent_Spent ?kits_Spent_NoPaper ?kits_Spent_NoRule ?kits_Spent_NoKey ?kits_Spent_NoRow ?kits_Spent_NoOrder ?kits_Spent_TooFar ?kits_NoPlace_ValueError ?kits_NoPlace_NoPlace ?kits_NoPlace_Spent ?kits_NoPlace_NoPaper ?kits_NoPlace_NoRule ?kits_NoPlace_NoKey ?kits_NoPlace_NoRow ?kits_NoPlace_NoOrder ?kits_NoPlace_TooFar
    (case aC_HallError => k_is); (case xn_HallError => (first | k_is | k_exc)); (case kp_HallError => k_is); (case sb_HallError => k_is); (case ty_HallError => k_is); (case e0_HallError => k_is); (case e1_HallError => k_is); (case e2_HallError => k_is); (case e3_HallError => k_is); (case e4_HallError => k_is); (case e5_HallError => k_is); (case e6_HallError => k_is); (case e7_HallError => k_is); (case aC_NoRule => k_is); (case aC_NoPaper => k_is); (case aC_NoPlace => k_is); (case xn_NoPlace => (first | k_is | k_exc)); (case kp_NoPlace => k_is); (case sb_NoPlace => k_is); (case ty_NoPlace => k_is); (case e0_NoPlace => k_is); (case e1_NoPlace => k_is); (case e2_NoPlace => k_is); (case e3_NoPlace => k_is); (case e4_NoPlace => k_is); (case e5_NoPlace => k_is); (case e6_NoPlace => k_is); (case e7_NoPlace => k_is); (case aC_NoKey => k_is); (case aC_NoRow => k_is); (case aC_NoOrder => k_is); (case aC_TooFar => k_is); (case aC_Spent => k_is); (case xL_Spent => k_is); (case sa_Spent => k_is); (case in_Spent => k_is); (case tI_Spent => k_is); (case na_Spent_asked => k_is); (case kp_Spent => k_is); (case sb_Spent => k_is); (case ty_Spent => k_is); (case e0_Spent => k_is); (case e1_Spent => k_is); (case e2_Spent => k_is); (case e3_Spent => k_is); (case e4_Spent => k_is); (case e5_Spent => k_is); (case e6_Spent => k_is); (case e7_Spent => k_is); (case aC_Pour => k_is); (case pg_Pour => k_is); (case hd_Pour => k_is); (case po_Pour => k_is); (case sa_Pour => k_is); (case mk_Pour => k_is); (case kc_Pour => k_is); (case na_Pour_asker => k_is); (case na_Pour_pieces => k_is); (case na_Pour_gone => k_is); (case na_Pour_went_on => k_is); (case aC_LastPour => k_is); (case pg_LastPour => k_is); (case hd_LastPour => k_is); (case po_LastPour => k_is); (case sa_LastPour => k_is); (case mk_LastPour => k_is); (case kc_LastPour => k_is); (case na_LastPour_pieces => k_is); (case na_LastPour_asker => k_is); (case na_LastPour_gone => k_is); (case na_LastPour_went_on => k_is); (case aC_Asker => k_is); (case pg_Asker => k_is); (case hd_Asker => k_is); (case po_Asker => k_is); (case sa_Asker => k_is); (case mk_Asker => k_is); (case kc_Asker => k_is); (case na_Asker_row => k_is); (case na_Asker_rule => k_is); (case na_Asker_most => k_is); (case na_Asker_asked => k_is); (case na_Asker_log => k_is); (case aC_Rule => k_is); (case pg_Rule => k_is); (case hd_Rule => k_is); (case po_Rule => k_is); (case sa_Rule => k_is); (case mk_Rule => k_is); (case kc_Rule => k_is); (case aC_AskedRule => k_is); (case pg_AskedRule => k_is); (case hd_AskedRule => k_is); (case po_AskedRule => k_is); (case sa_AskedRule => k_is); (case mk_AskedRule => k_is); (case kc_AskedRule => k_is); (case na_AskedRule_teller => k_is); (case a1 => k_is); (case l1 => k_is); (case lc1 => k_is); (case lp1 => rfl); (case hh1 => kernel_rfl); (case np1 => kernel_rfl); (case gp1 => decide); (case tp1 => exact PySem.W.km_tabs_of Y _ (by simp)); (case c1 => k_is); (case k1 => k_is); (case i2 => k_is); (case l2 => k_is); (case c2 => k_is); (case k2 => k_is); (case a3_AskedRule => k_is); (case i3 => k_is); (case l3 => k_is); (case c3 => k_is); (case k3 => k_is); (case a4_AskedRule => k_is); (case i4 => k_is); (case l4 => k_is); (case c4 => k_is); (case k4 => k_is); (case a5_Asker => k_is); (case i5 => k_is); (case l5 => k_is); (case c5 => k_is); (case k5 => k_is); (case a6_Asker => k_is); (case i6 => k_is); (case l6 => k_is); (case c6 => k_is); (case k6 => k_is); (case a7_Asker => k_is); (case i7 => k_is); (case l7 => k_is); (case c7 => k_is); (case k7 => k_is); (case a8_Asker => k_is); (case i8 => k_is); (case l8 => k_is); (case lt8 => k_is); (case c8 => k_is); (case k8 => k_is); (case a9 => k_is); (case l9 => k_is); (case c9 => k_is); (case k9 => k_is); (case a10_Pour => k_is); (case i10 => k_is); (case l10 => k_is); (case c10 => k_is); (case k10 => k_is); (case a11_Pour => k_is); (case i11 => k_is); (case l11 => k_is); (case c11 => k_is); (case k11 => k_is); (case a12_Pour => k_is); (case i12 => k_is); (case l12 => k_is); (case c12 => k_is); (case k12 => k_is); (case a13_Pour => k_is); (case i13 => k_is); (case l13 => k_is); (case c13 => k_is); (case k13 => k_is); (case a14_Pour => k_is); (case i14 => k_is); (case l14 => k_is); (case c14 => k_is); (case k14 => k_is); (case a15_Pour => k_is); (case i15 => k_is); (case l15 => k_is); (case c15 => k_is); (case k15 => k_is); (case a16_Pour => k_is); (case i16 => k_is); (case l16 => k_is); (case c16 => k_is); (case k16 => k_is); (case a17_Pour => k_is); (case i17 => k_is); (case l17 => k_is); (case c17 => k_is); (case k17 => k_is); (case a18_LastPour => k_is); (case i18 => k_is); (case l18 => k_is); (case c18 => k_is); (case k18 => k_is); (case a19_LastPour => k_is); (case i19 => k_is); (case l19 => k_is); (case c19 => k_is); (case k19 => k_is); (case a20_LastPour => k_is); (case i20 => k_is); (case l20 => k_is); (case c20 => k_is); (case k20 => k_is); (case a21_LastPour => k_is); (case i21 => k_is); (case l21 => k_is); (case c21 => k_is); (case k21 => k_is); (case a22_LastPour => k_is); (case i22 => k_is); (case l22 => k_is); (case c22 => k_is); (case k22 => k_is); (case a23_LastPour => k_is); (case i23 => k_is); (case l23 => k_is); (case c23 => k_is); (case k23 => k_is); (case a24_LastPour => k_is); (case i24 => k_is); (case l24 => k_is); (case c24 => k_is); (case k24 => k_is); (case a25_LastPour => k_is); (case i25 => k_is); (case l25 => k_is); (case c25 => k_is); (case k25 => k_is); (case a26 => k_is); (case l26 => k_is); (case c26 => k_is); (case k26 => k_is); (case a27 => k_is); (case l27 => k_is); (case c27 => k_is); (case k27 => k_is); (case a28 => k_is); (case l28 => k_is); (case c28 => k_is); (case k28 => k_is); (case a29 => k_is); (case l29 => k_is); (case c29 => k_is); (case k29 => k_is); (case a30 => k_is); (case l30 => k_is); (case c30 => k_is); (case k30 => k_is); (case a31 => k_is); (case l31 => k_is); (case c31 => k_is); (case k31 => k_is); (case a32 => k_is); (case l32 => k_is); (case c32 => k_is); (case k32 => k_is); (case a33 => k_is); (case l33 => k_is); (case c33 => k_is); (case k33 => k_is); (case a34 => k_is); (case l34 => k_is); (case c34 => k_is); (case k34 => k_is); (case a35 => k_is); (case l35 => k_is); (case c35 => k_is); (case k35 => k_is); (case a36 => k_is); (case l36 => k_is); (case c36 => k_is); (case k36 => k_is); (case a37 => k_is); (case l37 => k_is); (case c37 => k_is); (case k37 => k_is); (case z_ValueError => k_is); (case z_sorted => k_is); (case z_range => k_is); (case z_len => k_is); (case z_list => k_is); (case z_reversed => k_is); (case z_max => k_is); (case z_min => k_is); (case z_isinstance => k_is); (case xs_Spent_HallError => (first | rfl | k_is)); (case xs_NoPlace_HallError => (first | rfl | k_is)); (case kits_Spent_ValueError => (first | k_is | kernel_rfl)); (case kits_Spent_NoPlace => (first | k_is | kernel_rfl)); (case kits_Spent_Spent => (first | k_is | kernel_rfl)); (case kits_Spent_NoPaper => (first | k_is | kernel_rfl)); (case kits_Spent_NoRule => (first | k_is | kernel_rfl)); (case kits_Spent_NoKey => (first | k_is | kernel_rfl)); (case kits_Spent_NoRow => (first | k_is | kernel_rfl)); (case kits_Spent_NoOrder => (first | k_is | kernel_rfl)); (case kits_Spent_TooFar => (first | k_is | kernel_rfl)); (case kits_NoPlace_ValueError => (first | k_is | kernel_rfl)); (case kits_NoPlace_NoPlace => (first | k_is | kernel_rfl)); (case kits_NoPlace_Spent => (first | k_is | kernel_rfl)); (case kits_NoPlace_NoPaper => (first | k_is | kernel_rfl)); (case kits_NoPlace_NoRule => (first | k_is | kernel_rfl)); (case kits_NoPlace_NoKey => (first | k_is | kernel_rfl)); (case kits_NoPlace_NoRow => (first | k_is | kernel_rfl)); (case kits_NoPlace_NoOrder => (first | k_is | kernel_rfl)); (case kits_NoPlace_TooFar => (first | k_is | kernel_rfl))
#print axioms PySem.Challenge.cw_sorthall_k76_refused_and_stopped_holds

