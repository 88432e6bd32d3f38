import PyProof.Rows.All
import Wide.All
import OpenK.AllK
import Wide.FinOn
import HandS.ForMost
import HandS.ForExc
import HandS.Wide
import HandS.WideBits
import HandS.IsInst
import HandS.Conv
import HandS.Walk
import HandS.SortInts
import HandS.SortRule
import HandS.Nested
import HandS.More
import HandS.Defaults
import HandS.EndTab
import HandS.Rev
import HandS.RevTup
import HandS.SortKw
import KE.DataMinMax
import HandS.Dict
import HandS.Style
import KE.DataCmp
import KE.KDictCopyH
import HandS.MakeKw
import HandS.CallLocal
import HandS.SetFor
import HandS.Strs
import HandS.CallSlots
import HandS.ExcIs
import HandS.ExcInit
import HandS.StrMore
import HandS.Zip
import HandS.ExcField
import KE.KExcIs
import HandS.ExcInitHot
import HandS.ExcValue
import PySem.Challenge.RW_sorthall_k38_whole_reach
set_option Elab.async false
set_option linter.all false
set_option maxRecDepth 100000
set_option maxHeartbeats 4000000
/-! SHA: steps of the heap, rules that look at the values themselves, readings one by one -/
namespace SH
open PySem PySem.Spec PyProof.Rows L2

/-! ### what a heap becomes -/
/-- what never changes -/
def Fix : HO → Prop
  | .tup _ => True
  | .ext _ => True
  | .frz _ _ => True
  | _ => False
/-- H' has all that H has, but what stands at M may be another (no tuple, no function, no cell) -/
structure Stp (M : List Addr) (H H' : Hp) : Prop where
  same : ∀ b o, H b = some o → (b ∉ M ∨ Fix o) → H' b = some o
  dom : ∀ b, H' b = none → H b = none
theorem Stp.refl (M : List Addr) (H : Hp) : Stp M H H := ⟨fun _ _ h _ => h, fun _ h => h⟩
theorem Stp.mono {M M' : List Addr} {H H' : Hp} (s : Stp M H H') (h : ∀ b ∈ M, b ∈ M') : Stp M' H H' := ⟨fun b o e n => s.same b o e (n.imp (fun n z => n (h b z)) id), s.dom⟩
theorem Stp.trans {M : List Addr} {H H1 H2 : Hp} (a : Stp M H H1) (b : Stp M H1 H2) : Stp M H H2 := ⟨fun c o e n => b.same c o (a.same c o e n) n, fun c h => a.dom c (b.dom c h)⟩
/-- what the second changes is new, or the first one's -/
theorem Stp.then {M M' : List Addr} {H H1 H2 : Hp} (a : Stp M H H1) (b : Stp M' H1 H2) (h : ∀ m ∈ M', m ∈ M ∨ H m = none) : Stp M H H2 :=
  ⟨fun c o e n => b.same c o (a.same c o e n) (n.imp (fun n z => (h c z).elim n fun q => (by rw [q] at e; cases e)) id), fun c h => a.dom c (b.dom c h)⟩
theorem Stp.then0 {M : List Addr} {H H1 H2 : Hp} (a : Stp M H H1) (b : Stp [] H1 H2) : Stp M H H2 := a.then b (by simp)
theorem Stp.new {M : List Addr} {H H1 : Hp} {p : Addr} {o : HO} (a : Stp M H H1) (h : H1 p = none) : Stp M H (upd H1 p o) :=
  ⟨fun c u e n => by have q := a.same c u e n; rw [upd_ne (ne_of_none q h)]; exact q, fun c q => a.dom c (by
    by_cases z : c = p
    · subst z; exact h
    · rw [upd_ne z] at q; exact q)⟩
theorem Stp.putM {M : List Addr} {H H1 : Hp} {p : Addr} {o o1 : HO} (a : Stp M H H1) (h : p ∈ M) (h1 : H1 p = some o1) (nf : ¬ Fix o1) : Stp M H (upd H1 p o) :=
  ⟨fun c u e n => by
    by_cases z : c = p
    · subst z
      rcases n with n | n
      · exact (n h).elim
      · have q := a.same c u e (.inr n)
        rw [h1] at q; cases q; exact (nf n).elim
    · rw [upd_ne z]; exact a.same c u e n, fun c q => a.dom c (by
    by_cases z : c = p
    · subst z; rw [upd_same] at q; cases q
    · rw [upd_ne z] at q; exact q)⟩
theorem Stp.putN {M : List Addr} {H H1 : Hp} {p : Addr} {o : HO} (a : Stp M H H1) (h : H p = none) : Stp M H (upd H1 p o) :=
  ⟨fun c u e n => by
    rw [upd_ne (fun z => by subst z; rw [h] at e; cases e)]
    exact a.same c u e n, fun c q => a.dom c (by
    by_cases z : c = p
    · subst z; rw [upd_same] at q; cases q
    · rw [upd_ne z] at q; exact q)⟩
theorem Stp.free {M : List Addr} {H H' : Hp} {p : Addr} (s : Stp M H H') (h : H' p = none) : H p = none := s.dom p h
theorem Stp.keep {M : List Addr} {H H' : Hp} {p : Addr} {o : HO} (s : Stp M H H') (h : H p = some o) (n : p ∉ M) : H' p = some o := s.same p o h (.inl n)
theorem Stp.keep0 {H H' : Hp} {p : Addr} {o : HO} (s : Stp [] H H') (h : H p = some o) : H' p = some o := s.same p o h (.inl (by simp))
theorem Stp.fix {M : List Addr} {H H' : Hp} {p : Addr} {o : HO} (s : Stp M H H') (h : H p = some o) (n : Fix o) : H' p = some o := s.same p o h (.inr n)
theorem Stp.tup {M : List Addr} {H H' : Hp} {p : Addr} {xs : List V} (s : Stp M H H') (h : H p = some (.tup xs)) : H' p = some (.tup xs) := s.fix h True.intro
theorem Stp.keep1 {m : Addr} {H H' : Hp} {p : Addr} {o : HO} (s : Stp [m] H H') (h : H p = some o) (n : p ≠ m) : H' p = some o := s.same p o h (.inl (by simpa using n))
theorem Stp.rd {M : List Addr} {H H' : Hp} {a : Addr} {u : HO} (s : Stp M H H') (h : Rd H a u) (n : a ∉ M) : Rd H' a u := by
  rcases h with h | ⟨o, h⟩
  · exact .inl (s.same _ _ h (.inl n))
  · exact .inr ⟨o, s.same _ _ h (.inr True.intro)⟩
theorem Stp.sql {K : PySem.W.Frag} {M : List Addr} {H H' : Hp} {a : Addr} {xs : List V} (s : Stp M H H') (h : SqL K H a xs) (n : a ∉ M) : SqL K H' a xs := by
  rcases h with h | h
  · exact .inl (s.rd h n)
  · exact .inr h
theorem Stp.sqt {K : PySem.W.Frag} {M : List Addr} {H H' : Hp} {a : Addr} {xs : List V} (s : Stp M H H') (h : SqT K H a xs) (n : a ∉ M) : SqT K H' a xs := by
  rcases h with h | h
  · exact .inl (s.rd h n)
  · exact .inr h
theorem Stp.sqtM {K : PySem.W.Frag} {M : List Addr} {H H' : Hp} {a : Addr} {xs : List V} (s : Stp M H H') (h : SqT K H a xs) : SqT K H' a xs := by
  rcases h with (h | ⟨o, h⟩) | h
  · exact .inl (.inl (s.fix h True.intro))
  · exact .inl (.inr ⟨o, s.fix h True.intro⟩)
  · exact .inr h
theorem Stp.sql1 {K : PySem.W.Frag} {m : Addr} {H H' : Hp} {a : Addr} {xs : List V} (s : Stp [m] H H') (h : SqL K H a xs) (n : a ≠ m) : SqL K H' a xs := s.sql h (by simpa using n)
theorem Stp.sql0 {K : PySem.W.Frag} {H H' : Hp} {a : Addr} {xs : List V} (s : Stp [] H H') (h : SqL K H a xs) : SqL K H' a xs := s.sql h (by simp)
theorem Stp.sqt0 {K : PySem.W.Frag} {H H' : Hp} {a : Addr} {xs : List V} (s : Stp [] H H') (h : SqT K H a xs) : SqT K H' a xs := s.sqt h (by simp)
theorem Stp.not {M : List Addr} {H H' : Hp} {p : Addr} (s : Stp M H H') (h : H' p = none) (hm : ∀ m ∈ M, H m ≠ none) : p ∉ M := fun z => hm p z (s.dom p h)
theorem upd_old {H : Hp} {a p : Addr} {o u : HO} (h : H a = some o) (hp : H p = none) : upd H p u a = some o := by rw [upd_ne (ne_of_none h hp)]; exact h
theorem upd_far {H : Hp} {a p : Addr} {o : Option HO} {u : HO} (n : a ≠ p) (h : H a = o) : upd H p u a = o := by rw [upd_ne n]; exact h
theorem upd_free {H : Hp} {a p : Addr} {u : HO} (h : upd H p u a = none) : H a = none ∧ a ≠ p := by
  by_cases z : a = p
  · subst z; rw [upd_same] at h; cases h
  · rw [upd_ne z] at h; exact ⟨h, z⟩
theorem sql_upd {K : PySem.W.Frag} {H : Hp} {a p : Addr} {xs : List V} {u : HO} (h : SqL K H a xs) (hp : H p = none) : SqL K (upd H p u) a xs := (Stp.refl [] H |>.new hp).sql h (by simp)
theorem sqt_upd {K : PySem.W.Frag} {H : Hp} {a p : Addr} {xs : List V} {u : HO} (h : SqT K H a xs) (hp : H p = none) : SqT K (upd H p u) a xs := (Stp.refl [] H |>.new hp).sqt h (by simp)
theorem sql_far {K : PySem.W.Frag} {H : Hp} {a p : Addr} {xs : List V} {u : HO} (h : SqL K H a xs) (n : a ≠ p) : SqL K (upd H p u) a xs := by
  rcases h with (h | ⟨o, h⟩) | h
  · exact .inl (.inl (upd_far n h))
  · exact .inl (.inr ⟨o, upd_far n h⟩)
  · exact .inr h
theorem sqt_far {K : PySem.W.Frag} {H : Hp} {a p : Addr} {xs : List V} {u : HO} (h : SqT K H a xs) (n : a ≠ p) : SqT K (upd H p u) a xs := by
  rcases h with (h | ⟨o, h⟩) | h
  · exact .inl (.inl (upd_far n h))
  · exact .inl (.inr ⟨o, upd_far n h⟩)
  · exact .inr h

/-! ### the slots -/
theorem set_z {x y : Option V} {xs : L2.St} : (x :: xs).set 0 y = y :: xs := rfl
theorem set_s {x y : Option V} {xs ys : L2.St} {n : Nat} (h : xs.set n y = ys) : (x :: xs).set (n + 1) y = x :: ys := by subst h; rfl
theorem get_z {x : V} {xs : L2.St} : (some x :: xs)[0]? = some (some x) := rfl
theorem get_s {x : Option V} {xs : L2.St} {n : Nat} {v : V} (h : xs[n]? = some (some v)) : (x :: xs)[n + 1]? = some (some v) := h

/-! ### two-place operations by the values -/
/-- the ways of + -/
def aAdd (K : PySem.W.Frag) : R2 := fun x y H Q => match x, y with
  | .int i, .int j => Q (.int (i + j)) H
  | .str a, .str b => a.length + b.length ≤ sizeLine ∧ Q (.str (a ++ b)) H
  | .ref a, .ref b => (∃ xs ys, H a = some (.lst xs) ∧ H b = some (.lst ys) ∧ xs.length + ys.length ≤ sizeLine ∧ ∀ p, H p = none → Q (.ref p) (upd H p (.lst (xs ++ ys)))) ∨ rCatT K (.ref a) (.ref b) H Q
  | _, _ => False
def aSub : R2 := fun x y H Q => match x, y with
  | .int i, .int j => Q (.int (i - j)) H
  | _, _ => False
def aMul : R2 := fun x y H Q => match x, y with
  | .int i, .int j => IntMulOk i j ∧ Q (.int (i * j)) H
  | .str a, .int k => PySem.MulOk a k ∧ Q (.str (PySem.Txt.mul a k)) H
  | .ref a, .int k => ∃ xs, H a = some (.lst xs) ∧ -(2 ^ 63) ≤ k ∧ k < 2 ^ 63 ∧ xs.length * k.toNat ≤ sizeLine ∧ ∀ p, H p = none → Q (.ref p) (upd H p (.lst ((List.replicate k.toNat xs).flatten)))
  | _, _ => False
def aDiv : R2 := fun x y H Q => match x, y with
  | .int i, .int j => 0 < j ∧ Builtin.divisionGoesByPylong i j = false ∧ Q (.int (i / j)) H
  | _, _ => False
def aMod : R2 := fun x y H Q => match x, y with
  | .int i, .int j => 0 < j ∧ Q (.int (i % j)) H
  | _, _ => False
def aPow : R2 := fun x y H Q => match x, y with
  | .int i, .int j => CPow i j ∧ Q (.int (i ^ j.toNat)) H
  | _, _ => False
def aShl : R2 := fun x y H Q => match x, y with
  | .int i, .int j => CShl i j ∧ Q (.int (i * 2 ^ j.toNat)) H
  | _, _ => False
def aShr : R2 := fun x y H Q => match x, y with
  | .int i, .int j => 0 ≤ j ∧ Q (.int (i / 2 ^ j.toNat)) H
  | _, _ => False
def aAnd : R2 := fun x y H Q => match x, y with
  | .int i, .int j => Q (.int (Builtin.bitAnd i j)) H
  | _, _ => False
def aLt (K : PySem.W.Frag) : R2 := fun x y H Q => match x, y with
  | .int i, .int j => Q (.bl (decide (i < j))) H
  | .str i, .str j => Q (.bl (decide (i.cps.toList < j.cps.toList))) H
  | .ref a, .ref b => rLtT K (.ref a) (.ref b) H Q
  | _, _ => False
def aLe : R2 := fun x y H Q => match x, y with
  | .int i, .int j => Q (.bl (decide (i ≤ j))) H
  | _, _ => False
def aGt : R2 := fun x y H Q => match x, y with
  | .int i, .int j => Q (.bl (decide (j < i))) H
  | _, _ => False
def aGe : R2 := fun x y H Q => match x, y with
  | .int i, .int j => Q (.bl (decide (j ≤ i))) H
  | _, _ => False
def aEq (K : PySem.W.Frag) : R2 := fun x y H Q => (scal x y = true ∧ Q (.bl (decide (x = y))) H) ∨ rEqD K x y H Q
def aNe (K : PySem.W.Frag) : R2 := fun x y H Q => (scal x y = true ∧ Q (.bl (!decide (x = y))) H) ∨ rNeD K x y H Q
def aIsN : R2 := fun x y H Q => y = .non ∧ Q (.bl (decide (x = .non))) H
def aNotN : R2 := fun x y H Q => y = .non ∧ Q (.bl (!decide (x = .non))) H

section
variable {X : Cx}
theorem oAdd : OpR X (binaryOp .Add) (aAdd X.K) := by
  intro pins s σ H x y v u Q I rx ry h
  cases x <;> cases y <;> first | exact False.elim h | skip
  · exact op_add pins s σ H _ _ v u Q I rx ry ⟨_, _, rfl, rfl, h⟩
  · exact op_add_str pins s σ H _ _ v u Q I rx ry ⟨_, _, rfl, rfl, h.1, h.2⟩
  · rcases h with ⟨xs, ys, h1, h2, h3, h4⟩ | h
    · exact op_cat pins s σ H _ _ v u Q I rx ry ⟨_, _, xs, ys, rfl, rfl, h1, h2, h3, h4⟩
    · exact op_catT pins s σ H _ _ v u Q I rx ry h
theorem oSub : OpR X (binaryOp .Sub) aSub := by
  intro pins s σ H x y v u Q I rx ry h
  cases x <;> cases y <;> first | exact False.elim h | skip
  exact op_sub pins s σ H _ _ v u Q I rx ry ⟨_, _, rfl, rfl, h⟩
theorem oMul : OpR X (binaryOp .Mult) aMul := by
  intro pins s σ H x y v u Q I rx ry h
  cases x <;> cases y <;> first | exact False.elim h | skip
  · obtain ⟨t, rfl⟩ := rx
    obtain ⟨t', rfl⟩ := ry
    exact mul_int ⟨.int _, H, I.tok _, ⟨_, rfl⟩, h.2⟩ h.1
  · obtain ⟨t, rfl⟩ := rx
    obtain ⟨t', rfl⟩ := ry
    exact PySem.SB.mul h.1 fun t' k => ⟨.str _, H, I.tok _, ⟨_, rfl⟩, h.2⟩
  · obtain ⟨xs, h1, h2, h3, h4, h5⟩ := h
    exact op_rep pins s σ H _ _ v u Q I rx ry ⟨_, _, xs, rfl, rfl, h1, h2, h3, h4, h5⟩
theorem oDiv : OpR X (binaryOp .FloorDiv) aDiv := by
  intro pins s σ H x y v u Q I rx ry h
  cases x <;> cases y <;> first | exact False.elim h | skip
  obtain ⟨t, rfl⟩ := rx
  obtain ⟨t', rfl⟩ := ry
  obtain ⟨h0, h1, q⟩ := h
  exact floordiv_int (by omega) (by rw [Int.fdiv_eq_ediv_of_nonneg _ (by omega)]; exact ⟨.int _, H, I.tok _, ⟨_, rfl⟩, q⟩) (.inl h1)
theorem oMod : OpR X (binaryOp .Mod) aMod := by
  intro pins s σ H x y v u Q I rx ry h
  cases x <;> cases y <;> first | exact False.elim h | skip
  exact op_mod pins s σ H _ _ v u Q I rx ry ⟨_, _, rfl, rfl, h⟩
theorem oPow : OpR X (binaryOp .Pow) aPow := by
  intro pins s σ H x y v u Q I rx ry h
  cases x <;> cases y <;> first | exact False.elim h | skip
  exact op_pow pins s σ H _ _ v u Q I rx ry ⟨_, _, rfl, rfl, h⟩
theorem oShl : OpR X (binaryOp .LShift) aShl := by
  intro pins s σ H x y v u Q I rx ry h
  cases x <;> cases y <;> first | exact False.elim h | skip
  exact op_shlW pins s σ H _ _ v u Q I rx ry ⟨_, _, rfl, rfl, h⟩
theorem oShr : OpR X (binaryOp .RShift) aShr := by
  intro pins s σ H x y v u Q I rx ry h
  cases x <;> cases y <;> first | exact False.elim h | skip
  exact op_shr pins s σ H _ _ v u Q I rx ry ⟨_, _, rfl, rfl, h⟩
theorem oAnd : OpR X (binaryOp .BitAnd) aAnd := by
  intro pins s σ H x y v u Q I rx ry h
  cases x <;> cases y <;> first | exact False.elim h | skip
  exact op_and pins s σ H _ _ v u Q I rx ry ⟨_, _, rfl, rfl, h⟩
theorem oLt (hu : X.A.units < cLine) : OpR X (compareOp .Lt) (aLt X.K) := by
  intro pins s σ H x y v u Q I rx ry h
  cases x <;> cases y <;> first | exact False.elim h | skip
  · exact op_lt pins s σ H _ _ v u Q I rx ry ⟨_, _, rfl, rfl, h⟩
  · exact op_lt_str pins s σ H _ _ v u Q I rx ry ⟨_, _, rfl, rfl, h⟩
  · exact op_ltT hu pins s σ H _ _ v u Q I rx ry h
theorem oLe : OpR X (compareOp .LtE) aLe := by
  intro pins s σ H x y v u Q I rx ry h
  cases x <;> cases y <;> first | exact False.elim h | skip
  exact op_le pins s σ H _ _ v u Q I rx ry ⟨_, _, rfl, rfl, h⟩
theorem oGt : OpR X (compareOp .Gt) aGt := by
  intro pins s σ H x y v u Q I rx ry h
  cases x <;> cases y <;> first | exact False.elim h | skip
  exact op_gt pins s σ H _ _ v u Q I rx ry ⟨_, _, rfl, rfl, h⟩
theorem oGe : OpR X (compareOp .GtE) aGe := by
  intro pins s σ H x y v u Q I rx ry h
  cases x <;> cases y <;> first | exact False.elim h | skip
  exact op_ge pins s σ H _ _ v u Q I rx ry ⟨_, _, rfl, rfl, h⟩
theorem oEq (hu : X.A.units + 64 < cLine) : OpR X (compareOp .Eq) (aEq X.K) := op_eq.or (op_eqD hu)
theorem oNe (hu : X.A.units + 64 < cLine) : OpR X (compareOp .NotEq) (aNe X.K) := op_ne.or (op_neD hu)
theorem oIsN : OpR X (compareOp .Is) aIsN := op_isN
theorem oNotN : OpR X (compareOp .IsNot) aNotN := op_notN
theorem ipAdd : PIp X .Add (fun x y H Q => match x, y with
  | .int i, .int j => Q (.int (i + j)) H
  | _, _ => False) := by
  intro pins s σ H x y v u Q I rx ry h
  cases x <;> cases y <;> first | exact False.elim h | skip
  exact ip_add pins s σ H _ _ v u Q I rx ry ⟨_, _, rfl, rfl, h⟩
theorem ipSub : PIp X .Sub (fun x y H Q => match x, y with
  | .int i, .int j => Q (.int (i - j)) H
  | _, _ => False) := by
  intro pins s σ H x y v u Q I rx ry h
  cases x <;> cases y <;> first | exact False.elim h | skip
  exact ip_sub pins s σ H _ _ v u Q I rx ry ⟨_, _, rfl, rfl, h⟩
end
end SH

set_option Elab.async false
set_option linter.all false
set_option maxRecDepth 100000
set_option maxHeartbeats 4000000
/-! SHB: readings, one lemma a word -/
namespace SH
open PySem PySem.Spec PyProof.Rows L2

section
variable {K : PySem.W.Frag} {D : Ends} {σ σ' : L2.St} {H : Hp} {Q : VK} {QA : List V → Hp → Prop} {QT : Bool → Hp → Prop} {QO : Option Int → Hp → Prop} {QG : L2.St → Hp → Prop} {i j : Nat} {v x y : V} {vs : List V} {ta tb tc te : TE} {t u tt : TT} {tr as : TA} {t1 t2 : TS} {g : TG} {gs : TGs} {r r' : R2} {b : Bool} {A B : Prop}

/-! the start -/
theorem st_c {x : Str} {N : List Str} {v : V} {vs : List V} {τ : L2.St} (h : L2.start N vs = τ) : L2.start (x :: N) (v :: vs) = some v :: τ := by
  rw [← h]; show _ :: (_ ++ List.replicate (N.length + 1 - (vs.length + 1)) none) = _; rw [Nat.add_sub_add_right]; rfl
theorem st_n {x : Str} {N : List Str} {τ : L2.St} (h : L2.start N [] = τ) : L2.start (x :: N) [] = none :: τ := by rw [← h]; rfl
theorem st_z : L2.start [] [] = [] := rfl
theorem r_start {N : List Str} {t : TS} (e : L2.start N vs = σ) (h : t D σ H) : t D (L2.start N vs) H := by rw [e]; exact h

theorem wp_z {f : Str × Nat → Nat} : wipe σ (List.map f []) = σ := rfl
theorem wp_s {a : Str} {n : Nat} {l : List (Str × Nat)} {τ τ' : L2.St} (h : wipe σ (l.map (fun x => x.2)) = τ) (e : τ.set n none = τ') : wipe σ (((a, n) :: l).map (fun x => x.2)) = τ' := by
  show (wipe σ (l.map (fun x => x.2))).set n none = τ'
  rw [h, e]
theorem r_gnw {ws : List Nat} {τ : L2.St} (e : wipe σ ws = τ) (h : gName i v τ H QG) : gName i v (wipe σ ws) H QG := by rw [e]; exact h
theorem r_gtw {ws : List Nat} {n : Nat} {τ : L2.St} (e : wipe σ ws = τ) (h : gTup K n gs v τ H QG) : gTup K n gs v (wipe σ ws) H QG := by rw [e]; exact h
theorem r_wp {ws : List Nat} {τ : L2.St} (e : wipe σ ws = wipe τ ws) (h : A) : wipe σ ws = wipe τ ws ∧ A := ⟨e, h⟩

/-! statements -/
theorem r_seq (h : t1 { D with nx := t2 D } σ H) : tSeq t1 t2 D σ H := h
theorem r_next (h : D.nx σ H) : tNext D σ H := h
theorem r_nx (e : σ.set i (some v) = σ') (h : D.nx σ' H) : D.nx (σ.set i (some v)) H := by rw [e]; exact h
theorem r_asg (h : te σ H fun x H1 => g x σ H1 D.nx) : tAsg te g D σ H := h
theorem r_gname (e : σ.set i (some v) = σ') (h : QG σ' H) : gName i v σ H QG := by subst e; exact h
theorem r_aug {rd : TIp} (hx : σ[i]? = some (some x)) (h : te σ H fun y H1 => rd x y H1 fun z H2 => D.nx (σ.set i (some z)) H2) : tAug i te rd D σ H := ⟨x, hx, h⟩
theorem r_drop (h : te σ H fun _ H1 => D.nx σ H1) : tDrop te D σ H := h
theorem r_ret (h : te σ H D.rt) : tRet te D σ H := h
theorem r_retN (h : D.rt .non H) : tRetN D σ H := h
theorem r_ifS (h : tt σ H fun b H1 => if b = true then t1 D σ H1 else t2 D σ H1) : tIfS tt t1 t2 D σ H := h
theorem r_brk (h : D.bk σ H) : tBreak D σ H := h
theorem r_cont (h : D.ct σ H) : tCont D σ H := h
theorem r_gtup {n : Nat} {a : Addr} {xs : List V} (hq : SqT K H a xs) (hl : xs.length = n) (h : gs xs σ H QG) : gTup K n gs (.ref a) σ H QG := ⟨a, xs, rfl, hq, hl, h⟩
theorem r_glst {n : Nat} {a : Addr} {xs : List V} (hq : SqL K H a xs) (hl : xs.length = n) (h : gs xs σ H QG) : gLst K n gs (.ref a) σ H QG := ⟨a, xs, rfl, hq, hl, h⟩
theorem r_gcons (h : g v σ H fun σ' H' => gs vs σ' H' QG) : gCons g gs (v :: vs) σ H QG := ⟨v, vs, rfl, h⟩
theorem r_gnil (h : QG σ H) : gNil [] σ H QG := ⟨rfl, h⟩
theorem r_gsub {to ti : TE} {ts : TSet} (h : to σ H fun o H1 => ti σ H1 fun i H2 => ts o i v H2 fun H3 => QG σ H3) : gSub to ti ts v σ H QG := h

/-! expressions -/
theorem r_var (h : σ[i]? = some (some v)) (k : Q v H) : tVar i σ H Q := ⟨v, h, k⟩
theorem r_c (k : Q v H) : tC v σ H Q := k
theorem r_op (h : ta σ H fun x H1 => tb σ H1 fun y H2 => r x y H2 Q) : tOp r ta tb σ H Q := h
theorem r_un {ru : V → Hp → VK → Prop} (h : ta σ H fun x H1 => ru x H1 Q) : tUn ru ta σ H Q := h
theorem r_neg {n : Int} (k : Q (.int (-n)) H) : rU (fun i => .int (-i)) (.int n) H Q := ⟨n, rfl, k⟩
theorem r_if (h : t σ H fun c H1 => if c = true then ta σ H1 Q else tb σ H1 Q) : tIf t ta tb σ H Q := h
theorem r_nil (h : QA [] H) : tNil σ H QA := h
theorem r_cons (h : ta σ H fun x H1 => tr σ H1 fun xs H2 => QA (x :: xs) H2) : tCons ta tr σ H QA := h
def kTup (Q : VK) : List V → Hp → Prop := fun xs H1 => xs.length ≤ sizeLine ∧ ∀ p, H1 p = none → Q (.ref p) (upd H1 p (.tup xs))
def kLst (Q : VK) : List V → Hp → Prop := fun xs H1 => xs.length ≤ sizeLine ∧ ∀ p, H1 p = none → Q (.ref p) (upd H1 p (.lst xs))
theorem r_tup (h : as σ H (kTup Q)) : tTup as σ H Q := h
theorem r_lst (h : as σ H (kLst Q)) : tLst as σ H Q := h
theorem v_tup (hl : vs.length ≤ 1000) (h : ∀ p, H p = none → Q (.ref p) (upd H p (.tup vs))) : kTup Q vs H := ⟨Nat.le_trans hl (by decide), h⟩
theorem v_lst (hl : vs.length ≤ 1000) (h : ∀ p, H p = none → Q (.ref p) (upd H p (.lst vs))) : kLst Q vs H := ⟨Nat.le_trans hl (by decide), h⟩
theorem v_tup2 (h : ∀ p, H p = none → Q (.ref p) (upd H p (.tup [x, y]))) : kTup Q [x, y] H := v_tup (by simp) h
theorem v_tup3 (h : ∀ p, H p = none → Q (.ref p) (upd H p (.tup [x, y, v]))) : kTup Q [x, y, v] H := v_tup (by simp) h
theorem v_lst0 (h : ∀ p, H p = none → Q (.ref p) (upd H p (.lst []))) : kLst Q [] H := v_lst (by simp) h
theorem v_lst1 (h : ∀ p, H p = none → Q (.ref p) (upd H p (.lst [x]))) : kLst Q [x] H := v_lst (by simp) h
theorem v_lst2 (h : ∀ p, H p = none → Q (.ref p) (upd H p (.lst [x, y]))) : kLst Q [x, y] H := v_lst (by simp) h
theorem v_lst3 (h : ∀ p, H p = none → Q (.ref p) (upd H p (.lst [x, y, v]))) : kLst Q [x, y, v] H := v_lst (by simp) h
theorem v_lst4 {z : V} (h : ∀ p, H p = none → Q (.ref p) (upd H p (.lst [x, y, v, z]))) : kLst Q [x, y, v, z] H := v_lst (by simp) h
theorem r_len0 {n : Nat} (h : n ≤ 1000) : n ≤ sizeLine := Nat.le_trans h (by decide)
theorem r_call {sp : Sp} {dvs : List V} {E : XK} (h : as σ H fun vs H1 => sp (vs ++ dvs) H1 Q E) : tCall sp dvs E as σ H Q := h
theorem r_cb {rc : List V → Hp → VK → Prop} (h : as σ H fun vs H1 => rc vs H1 Q) : tCB rc as σ H Q := h
theorem r_andV (h : ta σ H fun x H1 => ∃ c, x = .bl c ∧ if c = true then tb σ H1 Q else Q (.bl false) H1) : tAndV ta tb σ H Q := h
theorem r_orV (h : ta σ H fun x H1 => ∃ c, x = .bl c ∧ if c = true then Q (.bl true) H1 else tb σ H1 Q) : tOrV ta tb σ H Q := h
theorem r_notV (h : ta σ H fun x H1 => ∃ c, x = .bl c ∧ Q (.bl (!c)) H1) : tNotV ta σ H Q := h
theorem r_bl {P : Bool → Prop} (h : P b) : ∃ c, V.bl b = .bl c ∧ P c := ⟨b, rfl, h⟩
theorem r_test (h : te σ H fun x H1 => ∃ k, x = .bl k ∧ QT k H1) : tTest te σ H QT := h
theorem r_B (h : te σ H fun x H1 => ∃ k, x = .bl k ∧ QT k H1) : tB te σ H QT := h
theorem r_and (h : t σ H fun c H1 => if c = true then u σ H1 QT else QT false H1) : tAnd t u σ H QT := h
theorem r_or (h : t σ H fun c H1 => if c = true then QT true H1 else u σ H1 QT) : tOr t u σ H QT := h
theorem r_not (h : t σ H fun c H1 => QT (!c) H1) : tNot t σ H QT := h
theorem r_yes (h : QT true H) : tYes σ H QT := h
theorem r_nopart (h : QO none H) : tNoPart σ H QO := h
theorem r_part (h : te σ H fun x H1 => ∃ i, x = .int i ∧ QO (some i) H1) : tPart te σ H QO := h
theorem r_int {P : Int → Prop} {n : Int} (h : P n) : ∃ i, V.int n = .int i ∧ P i := ⟨n, rfl, h⟩
theorem r_sl {rs : V → Option Int → Option Int → Hp → VK → Prop} {tl th : TO} (h : te σ H fun x H1 => tl σ H1 fun l H2 => th σ H2 fun u H3 => rs x l u H3 Q) : tSl rs te tl th σ H Q := h
theorem r_chain (h : ta σ H fun x H1 => tb σ H1 fun y H2 => r x y H2 fun z H3 => ∃ k, z = .bl k ∧ (if k = true then tc σ H3 fun w' H4 => r' y w' H4 Q else Q (.bl false) H3)) : tChain r r' ta tb tc σ H Q := h
theorem r_bm {T : String} {rb : V → List V → Hp → VK → Prop} (h : te σ H fun x H1 => tyV K T x H1 ∧ as σ H1 fun xs H2 => rb x xs H2 Q) : tBM K T rb te as σ H Q := h
theorem r_bm0 {T : String} {rb : V → List V → Hp → VK → Prop} (h : te σ H fun x H1 => tyV K T x H1 ∧ rb x [] H1 Q) : tBM0 K T rb te σ H Q := h

/-! values -/
theorem v_addI {n m : Int} (h : Q (.int (n + m)) H) : aAdd K (.int n) (.int m) H Q := h
theorem v_addL {a c : Addr} {xs ys : List V} (h1 : H a = some (.lst xs)) (h2 : H c = some (.lst ys)) (h3 : xs.length + ys.length ≤ sizeLine) (h : ∀ p, H p = none → Q (.ref p) (upd H p (.lst (xs ++ ys)))) : aAdd K (.ref a) (.ref c) H Q := .inl ⟨xs, ys, h1, h2, h3, h⟩
theorem v_subI {n m : Int} (h : Q (.int (n - m)) H) : aSub (.int n) (.int m) H Q := h
theorem v_mulI {n m : Int} (h0 : IntMulOk n m) (h : Q (.int (n * m)) H) : aMul (.int n) (.int m) H Q := ⟨h0, h⟩
theorem v_mulL {a : Addr} {k : Int} {xs : List V} (h1 : H a = some (.lst xs)) (h2 : -(2 ^ 63) ≤ k ∧ k < 2 ^ 63) (h3 : xs.length * k.toNat ≤ sizeLine) (h : ∀ p, H p = none → Q (.ref p) (upd H p (.lst ((List.replicate k.toNat xs).flatten)))) : aMul (.ref a) (.int k) H Q := ⟨xs, h1, h2.1, h2.2, h3, h⟩
theorem v_div {n m : Int} (h0 : 0 < m) (h1 : Builtin.divisionGoesByPylong n m = false) (h : Q (.int (n / m)) H) : aDiv (.int n) (.int m) H Q := ⟨h0, h1, h⟩
theorem v_divS {n m : Int} (h0 : 0 < m) (h1 : m < 1073741824) (h : Q (.int (n / m)) H) : aDiv (.int n) (.int m) H Q := ⟨h0, PyProof.noPylong_small (by omega), h⟩
theorem v_divW {n m : Int} (h0 : 0 < m) (h1 : m.natAbs.log2 < 9000) (h : Q (.int (n / m)) H) : aDiv (.int n) (.int m) H Q := ⟨h0, PyProof.noPylong_of_log2 h1, h⟩
theorem v_mod {n m : Int} (h0 : 0 < m) (h : Q (.int (n % m)) H) : aMod (.int n) (.int m) H Q := ⟨h0, h⟩
theorem v_pow {n m : Int} (h0 : CPow n m) (h : Q (.int (n ^ m.toNat)) H) : aPow (.int n) (.int m) H Q := ⟨h0, h⟩
theorem v_shl {n m : Int} (h0 : CShl n m) (h : Q (.int (n * 2 ^ m.toNat)) H) : aShl (.int n) (.int m) H Q := ⟨h0, h⟩
theorem v_shr {n m : Int} (h0 : 0 ≤ m) (h : Q (.int (n / 2 ^ m.toNat)) H) : aShr (.int n) (.int m) H Q := ⟨h0, h⟩
theorem v_and {n m : Int} (h : Q (.int (Builtin.bitAnd n m)) H) : aAnd (.int n) (.int m) H Q := h
theorem v_ltI {n m : Int} (h : Q (.bl (decide (n < m))) H) : aLt K (.int n) (.int m) H Q := h
theorem v_ltT {a c : Addr} {ns ms : List Int} (h1 : SqT K H a (ns.map V.int)) (h2 : SqT K H c (ms.map V.int)) (h : Q (.bl (HT.lexLt ns ms)) H) : aLt K (.ref a) (.ref c) H Q := ⟨a, c, ns, ms, rfl, rfl, h1, h2, h⟩
theorem v_leI {n m : Int} (h : Q (.bl (decide (n ≤ m))) H) : aLe (.int n) (.int m) H Q := h
theorem v_gtI {n m : Int} (h : Q (.bl (decide (m < n))) H) : aGt (.int n) (.int m) H Q := h
theorem v_geI {n m : Int} (h : Q (.bl (decide (m ≤ n))) H) : aGe (.int n) (.int m) H Q := h
theorem dec_i {n m : Int} : decide (V.int n = V.int m) = decide (n = m) := by simp
theorem v_eqI {n m : Int} (h : Q (.bl (decide (n = m))) H) : aEq K (.int n) (.int m) H Q := .inl ⟨rfl, by rw [dec_i]; exact h⟩
theorem v_neI {n m : Int} (h : Q (.bl (!decide (n = m))) H) : aNe K (.int n) (.int m) H Q := .inl ⟨rfl, by rw [dec_i]; exact h⟩
theorem v_eqB {n m : Bool} (h : Q (.bl (decide (n = m))) H) : aEq K (.bl n) (.bl m) H Q := .inl ⟨rfl, by rw [show decide (V.bl n = V.bl m) = decide (n = m) by simp]; exact h⟩
theorem v_neB {n m : Bool} (h : Q (.bl (!decide (n = m))) H) : aNe K (.bl n) (.bl m) H Q := .inl ⟨rfl, by rw [show decide (V.bl n = V.bl m) = decide (n = m) by simp]; exact h⟩
theorem v_eqS {n m : Str} (h : Q (.bl (decide (n = m))) H) : aEq K (.str n) (.str m) H Q := .inl ⟨rfl, by rw [show decide (V.str n = V.str m) = decide (n = m) by simp]; exact h⟩
theorem v_neS {n m : Str} (h : Q (.bl (!decide (n = m))) H) : aNe K (.str n) (.str m) H Q := .inl ⟨rfl, by rw [show decide (V.str n = V.str m) = decide (n = m) by simp]; exact h⟩
theorem v_eqO (hs : scal x y = true) (h : Q (.bl (decide (x = y))) H) : aEq K x y H Q := .inl ⟨hs, h⟩
theorem v_neO (hs : scal x y = true) (h : Q (.bl (!decide (x = y))) H) : aNe K x y H Q := .inl ⟨hs, h⟩
theorem v_eqD {d e : PyData} (h1 : Dp K H x d) (h2 : Dp K H y e) (h3 : SeqAt.shaped d = true) (h4 : SeqAt.shaped e = true) (h : Q (.bl (PyData.eqv d e)) H) : aEq K x y H Q := .inr ⟨d, e, h1, h2, h3, h4, h⟩
theorem v_neD {d e : PyData} (h1 : Dp K H x d) (h2 : Dp K H y e) (h3 : SeqAt.shaped d = true) (h4 : SeqAt.shaped e = true) (h : Q (.bl (!PyData.eqv d e)) H) : aNe K x y H Q := .inr ⟨d, e, h1, h2, h3, h4, h⟩
theorem v_isN (h : Q (.bl (decide (x = .non))) H) : aIsN x .non H Q := ⟨rfl, h⟩
theorem v_notN (h : Q (.bl (!decide (x = .non))) H) : aNotN x .non H Q := ⟨rfl, h⟩
theorem v_ipAdd {n m : Int} (h : Q (.int (n + m)) H) : (fun (x y : V) (H : Hp) (Q : VK) => match x, y with | .int i, .int j => Q (.int (i + j)) H | _, _ => False) (.int n) (.int m) H Q := h
def aIpAdd : TIp := fun x y H Q => match x, y with
  | .int i, .int j => Q (.int (i + j)) H
  | _, _ => False
def aIpSub : TIp := fun x y H Q => match x, y with
  | .int i, .int j => Q (.int (i - j)) H
  | _, _ => False
theorem ip_add' {X : Cx} : PIp X .Add aIpAdd := ipAdd
theorem ip_sub' {X : Cx} : PIp X .Sub aIpSub := ipSub
theorem v_ipA {n m : Int} (h : Q (.int (n + m)) H) : aIpAdd (.int n) (.int m) H Q := h
theorem v_ipS {n m : Int} (h : Q (.int (n - m)) H) : aIpSub (.int n) (.int m) H Q := h

/-! ways -/
theorem r_T (h : A) : if true = true then A else B := by rw [if_pos rfl]; exact h
theorem r_F (h : B) : if false = true then A else B := by rw [if_neg Bool.false_ne_true]; exact h
theorem r_nT (h : B) : if (!true) = true then A else B := by rw [if_neg (by decide)]; exact h
theorem r_nF (h : A) : if (!false) = true then A else B := by rw [if_pos (by decide)]; exact h
theorem r_w {c : Prop} [Decidable c] (h1 : c → A) (h2 : ¬ c → B) : if decide c = true then A else B := by
  by_cases h : c
  · rw [decide_eq_true h, if_pos rfl]; exact h1 h
  · rw [decide_eq_false h, if_neg Bool.false_ne_true]; exact h2 h
theorem r_nw {c : Prop} [Decidable c] (h1 : ¬ c → A) (h2 : c → B) : if (!decide c) = true then A else B := by
  by_cases h : c
  · rw [decide_eq_true h]; exact r_nT (h2 h)
  · rw [decide_eq_false h]; exact r_nF (h1 h)
theorem r_b (h1 : b = true → A) (h2 : b = false → B) : if b = true then A else B := by
  cases b with
  | true => exact r_T (h1 rfl)
  | false => exact r_F (h2 rfl)
theorem r_nb (h1 : b = false → A) (h2 : b = true → B) : if (!b) = true then A else B := by
  cases b with
  | true => exact r_nT (h2 rfl)
  | false => exact r_nF (h1 rfl)
theorem r_wT {c : Prop} [Decidable c] (hc : c) (h : A) : if decide c = true then A else B := r_w (fun _ => h) fun n => (n hc).elim
theorem r_wF {c : Prop} [Decidable c] (hc : ¬ c) (h : B) : if decide c = true then A else B := r_w (fun n => (hc n).elim) fun _ => h
theorem r_nwT {c : Prop} [Decidable c] (hc : ¬ c) (h : A) : if (!decide c) = true then A else B := r_nw (fun _ => h) fun n => (hc n).elim
theorem r_nwF {c : Prop} [Decidable c] (hc : c) (h : B) : if (!decide c) = true then A else B := r_nw (fun n => (n hc).elim) fun _ => h

/-! loops -/
/-- while: W by a measure; the body is read for the next turn -/
theorem r_while {c : TT} (W : Nat → L2.St → Hp → Prop) (h0 : ∃ m, W m σ H)
    (hs : ∀ m σ H, W m σ H → c σ H fun b H1 => if b = true then ∃ N : L2.St → Hp → Prop, (∀ σ' H', N σ' H' → ∃ m', m' < m ∧ W m' σ' H') ∧ t1 { D with nx := N, ct := N, bk := D.nx } σ H1 else D.nx σ H1) : tWhile c t1 D σ H := ⟨W, h0, hs⟩
theorem r_next_turn {W : Nat → L2.St → Hp → Prop} {m : Nat} {P : (L2.St → Hp → Prop) → Prop} (h : P (fun σ' H' => ∃ m', m' < m ∧ W m' σ' H')) : ∃ N : L2.St → Hp → Prop, (∀ σ' H', N σ' H' → ∃ m', m' < m ∧ W m' σ' H') ∧ P N := ⟨_, fun _ _ h => h, h⟩
theorem r_rng1 {J : It → Hp → Prop} {n : Int} (h0 : -(2 ^ 62) ≤ n ∧ n < 2 ^ 62) (h : J (Itr 0 n.toNat) H) (ha : as σ H = fun QA => QA [.int n] H) : iRng1 as σ H J := by
  unfold iRng1
  rw [ha]
  exact ⟨n, rfl, h0.1, h0.2, h⟩
end

/-! ### defs by their names -/
/-- the module's name x holds a def that keeps sp; dvs: its defaults -/
structure Cal (P : Program) (w : World) (K : PySem.W.Frag) (mg : Str → Option Value) (base : Heap) (CX : CXT) (k : Nat) (x : Str) (dvs : List V) (sp : Sp) : Prop where
  ex : ∃ (f : Addr) (fd : FuncData) (ps : List Str) (ds : List Value), mg x = some (.ref f) ∧ PySem.W.keepIn K (.ref f) = true ∧ Binds K fd ps ds ∧ Vals dvs ds ∧ FnOk P w K mg base CX k f fd ps sp
/-- the class at C has a method m that keeps sp -/
structure CalM (P : Program) (w : World) (K : PySem.W.Frag) (mg : Str → Option Value) (base : Heap) (CX : CXT) (k : Nat) (C : Addr) (m : Str) (dvs : List V) (sp : Sp) : Prop where
  cl : Cls K C
  ex : ∃ (f : Addr) (fd : FuncData) (ps : List Str) (ds : List Value), Meth K C m f ∧ Binds K fd ps ds ∧ Vals dvs ds ∧ FnOk P w K mg base CX k f fd ps sp
/-- the name x holds the class at C, made by an __init__ that keeps sp -/
structure CalC (P : Program) (w : World) (K : PySem.W.Frag) (mg : Str → Option Value) (base : Heap) (CX : CXT) (k : Nat) (x : Str) (C : Addr) (dvs : List V) (sp : Sp) : Prop where
  ex : ∃ (f : Addr) (fd : FuncData) (ps : List Str) (ds : List Value), mg x = some (.ref C) ∧ Mk K C f ∧ Binds K fd ps ds ∧ Vals dvs ds ∧ FnOk P w K mg base CX k f fd ps sp
section
variable {X : Cx} {CX : CXT} {k j : Nat} {C : Addr} {sp : Sp} {dvs : List V} {E : XK} {x m : Str} {p pos apos : Pos} {e o : Expr} {es : List Expr} {ta : TE} {t : TA}
theorem pe_callF (c : Cal X.prog X.w X.K X.mg X.base CX j x dvs sp) (hr : Room k X.A) (hg : Gl X x) (hx : Passes CX X E) (ha : PA X (e :: es) t) (hk : j ≤ k := by decide)
    (hdb : (x == ("__debug__" : Str)) = false := by decide) (he : starEach (e :: es) X.env = (false, eval e X.env) :: starEach es X.env := by rfl) (hpl : (backTo pos (starEach es X.env)).any (·.1) = false := by rfl) :
    PE X (.Call (.Name x p) (e :: es) [] pos) (tCall sp dvs E t) := by
  obtain ⟨f, fd, ps, ds, h1, h2, h3, h4, h5⟩ := c.ex
  exact pe_call h5 (hr.mono hk) hg h1 h2 h3 h4 hx ha hdb he hpl
theorem pe_callF0 (c : Cal X.prog X.w X.K X.mg X.base CX j x dvs sp) (hr : Room k X.A) (hg : Gl X x) (hx : Passes CX X E) (hk : j ≤ k := by decide)
    (hdb : (x == ("__debug__" : Str)) = false := by decide) : PE X (.Call (.Name x p) [] [] pos) (tCall sp dvs E tNil) := by
  obtain ⟨f, fd, ps, ds, h1, h2, h3, h4, h5⟩ := c.ex
  exact pe_call0 h5 (hr.mono hk) hg h1 h2 h3 h4 hx hdb
theorem pe_methF {pl : Sem Bool} (he : PE X o ta) (c : CalM X.prog X.w X.K X.mg X.base CX j C m dvs sp) (hr : Room k X.A) (hx : Passes CX X E) (ha : PA X (e :: es) t) (hk : j ≤ k := by decide)
    (hst : starEach (e :: es) X.env = (false, eval e X.env) :: starEach es X.env := by rfl) (hpl : (backTo pos (starEach es X.env)).any (·.1) = false := by rfl)
    (ht : eval (.Call (.Attribute o m apos) (e :: es) [] pos) X.env = (do
      let ov ← eval o X.env
      standAt apos.atName
      let (f, first) ← holding [ov] (getMethod ov m pl)
      callWith pos f first (backTo pos (starEach (e :: es) X.env)) (backToKw pos (keywordEach [] X.env))) := by rfl) :
    PE X (.Call (.Attribute o m apos) (e :: es) [] pos) (tMeth C m sp dvs E ta t) := by
  obtain ⟨f, fd, ps, ds, h1, h3, h4, h5⟩ := c.ex
  exact pe_meth he c.cl h1 h5 (hr.mono hk) h3 h4 hx ha hst hpl ht
theorem pe_methF0 {pl : Sem Bool} (he : PE X o ta) (c : CalM X.prog X.w X.K X.mg X.base CX j C m dvs sp) (hr : Room k X.A) (hx : Passes CX X E) (hk : j ≤ k := by decide)
    (ht : eval (.Call (.Attribute o m apos) [] [] pos) X.env = (do
      let ov ← eval o X.env
      standAt apos.atName
      let (f, first) ← holding [ov] (getMethod ov m pl)
      callWith pos f first (backTo pos (starEach [] X.env)) (backToKw pos (keywordEach [] X.env))) := by rfl) :
    PE X (.Call (.Attribute o m apos) [] [] pos) (tMeth C m sp dvs E ta tNil) := by
  obtain ⟨f, fd, ps, ds, h1, h3, h4, h5⟩ := c.ex
  exact pe_meth0 he c.cl h1 h5 (hr.mono hk) h3 h4 hx ht
theorem pe_makeF (c : CalC X.prog X.w X.K X.mg X.base CX j x C dvs sp) (hr : Room k X.A) (hg : Gl X x) (hx : Passes CX X E) (ha : PA X (e :: es) t) (hk : j + 1 ≤ k := by decide)
    (hdb : (x == ("__debug__" : Str)) = false := by decide) (he : starEach (e :: es) X.env = (false, eval e X.env) :: starEach es X.env := by rfl) (hpl : (backTo pos (starEach es X.env)).any (·.1) = false := by rfl) :
    PE X (.Call (.Name x p) (e :: es) [] pos) (tMake C sp dvs E t) := by
  obtain ⟨f, fd, ps, ds, h1, h2, h3, h4, h5⟩ := c.ex
  exact pe_make h2 h5 (hr.mono hk) hg h1 h3 h4 hx ha hdb he hpl
theorem pe_makeF0 (c : CalC X.prog X.w X.K X.mg X.base CX j x C dvs sp) (hr : Room k X.A) (hg : Gl X x) (hx : Passes CX X E) (hk : j + 1 ≤ k := by decide)
    (hdb : (x == ("__debug__" : Str)) = false := by decide) : PE X (.Call (.Name x p) [] [] pos) (tMake C sp dvs E tNil) := by
  obtain ⟨f, fd, ps, ds, h1, h2, h3, h4, h5⟩ := c.ex
  exact pe_make0 h2 h5 (hr.mono hk) hg h1 h3 h4 hx hdb
end
/-- a walked thing in a for, in a comprehension -/
theorem r_for {wi : TI} {g : TG} {tb : TS} {D : Ends} {σ : L2.St} {H : Hp} (h : wi σ H fun J H1 => ∃ W : Nat → Nat → L2.St → Hp → Prop, (∃ m, W 0 m σ H1) ∧ ∀ i m σ H, W i m σ H →
  (J.stop i H ∧ D.nx σ H) ∨ (J.go i H ∧ ∃ N : L2.St → Hp → Prop, (∀ σ' H', N σ' H' → ∃ m', m' < m ∧ W (i + 1) m' σ' H') ∧ ∀ x H', J.yld i H x H' → g x σ H' fun σ2 H2 => tb { D with nx := N, ct := N, bk := D.nx } σ2 H2)) : tFor wi g tb D σ H := h
theorem r_lc {wi : TI} {g : TG} {tt : TT} {te : TE} {vs : List Nat} {σ : L2.St} {H : Hp} {Q : VK} (h : wi σ H fun J H1 => ∀ D, H1 D = none → ∃ W : Nat → Nat → Hp → Prop, (∃ m, W 0 m (upd H1 D (.lst []))) ∧ ∀ i m H, W i m H →
  (J.stop i H ∧ Q (.ref D) H) ∨ (J.go i H ∧ ∃ Nx : Hp → Prop, (∀ H', Nx H' → ∃ m', m' < m ∧ W (i + 1) m' H') ∧ ∀ x H', J.yld i H x H' → g x (wipe σ vs) H' fun σ2 H2 => wipe σ2 vs = wipe σ vs ∧ tt σ2 H2 fun b H3 =>
    if b = true then te σ2 H3 fun y H4 => ∃ acc, H4 D = some (.lst acc) ∧ acc.length < sizeLine ∧ Nx (upd H4 D (.lst (acc ++ [y]))) else Nx H3)) : tLc wi g tt te vs σ H Q := h
section
variable {K : PySem.W.Frag} {tl : TE} {as : TA} {σ : L2.St} {H : Hp} {R : It → Hp → Prop}
def kList (K : PySem.W.Frag) (R : It → Hp → Prop) : V → Hp → Prop := fun x H1 => ∃ a, x = .ref a ∧ (∃ xs, SqL K H1 a xs) ∧ R (Itl K a) H1
def kTupI (K : PySem.W.Frag) (R : It → Hp → Prop) : V → Hp → Prop := fun x H1 => ∃ a, x = .ref a ∧ (∃ xs, SqT K H1 a xs) ∧ R (Itt K a) H1
def kRng1 (R : It → Hp → Prop) : List V → Hp → Prop := fun vs H1 => ∃ j : Int, vs = [.int j] ∧ -(2 ^ 62) ≤ j ∧ j < 2 ^ 62 ∧ R (Itr 0 j.toNat) H1
def kRng2 (R : It → Hp → Prop) : List V → Hp → Prop := fun vs H1 => ∃ i j : Int, vs = [.int i, .int j] ∧ (-(2 ^ 62) ≤ i ∧ i < 2 ^ 62 ∧ -(2 ^ 62) ≤ j ∧ j < 2 ^ 62) ∧ R (Itr i (j - i).toNat) H1
def kRng3 (R : It → Hp → Prop) : List V → Hp → Prop := fun vs H1 => ∃ (i j c : Int) (n : Nat), vs = [.int i, .int j, .int c] ∧ RgC i j c n ∧ R (Itc i c n) H1
def kEnum (K : PySem.W.Frag) (R : It → Hp → Prop) : List V → Hp → Prop := fun vs H1 => ∃ a xs, vs = [.ref a] ∧ SqL K H1 a xs ∧ R (Ite K a) H1
def kZip (K : PySem.W.Frag) (R : It → Hp → Prop) : List V → Hp → Prop := fun vs H1 => ∃ a b xs ys, vs = [.ref a, .ref b] ∧ SqL K H1 a xs ∧ SqL K H1 b ys ∧ R (Itz K a b) H1
def kRev (K : PySem.W.Frag) (R : It → Hp → Prop) : List V → Hp → Prop := fun vs H1 => ∃ (a : Addr) (xs : List V), vs = [.ref a] ∧ SqL K H1 a xs ∧ R (Itv K a xs.length) H1
theorem r_iList (h : tl σ H (kList K R)) : iList K tl σ H R := h
theorem r_iTup (h : tl σ H (kTupI K R)) : iTup K tl σ H R := h
theorem r_iRng1 (h : as σ H (kRng1 R)) : iRng1 as σ H R := h
theorem r_iRng2 (h : as σ H (kRng2 R)) : iRng2 as σ H R := h
theorem r_iRng3 (h : as σ H (kRng3 R)) : iRng3 as σ H R := h
theorem r_iEnum (h : as σ H (kEnum K R)) : iEnum K as σ H R := h
theorem r_iZip (h : as σ H (kZip K R)) : iZip K as σ H R := h
theorem r_iRev (h : as σ H (kRev K R)) : iRev K as σ H R := h
theorem v_iList {a : Addr} {xs : List V} (h : SqL K H a xs) (k : R (Itl K a) H) : kList K R (.ref a) H := ⟨a, rfl, ⟨xs, h⟩, k⟩
theorem v_iTup {a : Addr} {xs : List V} (h : SqT K H a xs) (k : R (Itt K a) H) : kTupI K R (.ref a) H := ⟨a, rfl, ⟨xs, h⟩, k⟩
theorem v_rng1 {n : Int} (h0 : -(2 ^ 62) ≤ n ∧ n < 2 ^ 62) (k : R (Itr 0 n.toNat) H) : kRng1 R [.int n] H := ⟨n, rfl, h0.1, h0.2, k⟩
theorem v_rng2 {n m : Int} (h0 : -(2 ^ 62) ≤ n ∧ n < 2 ^ 62 ∧ -(2 ^ 62) ≤ m ∧ m < 2 ^ 62) (k : R (Itr n (m - n).toNat) H) : kRng2 R [.int n, .int m] H := ⟨n, m, rfl, h0, k⟩
theorem v_rng3 {i j c : Int} {n : Nat} (h0 : RgC i j c n) (k : R (Itc i c n) H) : kRng3 R [.int i, .int j, .int c] H := ⟨i, j, c, n, rfl, h0, k⟩
theorem v_enum {a : Addr} {xs : List V} (h : SqL K H a xs) (k : R (Ite K a) H) : kEnum K R [.ref a] H := ⟨a, xs, rfl, h, k⟩
theorem v_zip {a b : Addr} {xs ys : List V} (h : SqL K H a xs) (h2 : SqL K H b ys) (k : R (Itz K a b) H) : kZip K R [.ref a, .ref b] H := ⟨a, b, xs, ys, rfl, h, h2, k⟩
theorem v_rev1 {a : Addr} {xs : List V} (h : SqL K H a xs) (k : R (Itv K a xs.length) H) : kRev K R [.ref a] H := ⟨a, xs, rfl, h, k⟩
end
end SH


set_option Elab.async false
set_option linter.all false
set_option maxRecDepth 100000
set_option maxHeartbeats 4000000
/-! SHC: lengths, places, fields, constants -/
namespace SH
open PySem PySem.Spec PyProof.Rows L2

def Sq (K : PySem.W.Frag) (H : Hp) (a : Addr) (xs : List V) : Prop := SqL K H a xs ∨ SqT K H a xs
def aLen (K : PySem.W.Frag) : List V → Hp → VK → Prop := fun vs H Q => match vs with
  | [.ref p] => ∃ xs, Sq K H p xs ∧ Q (.int xs.length) H
  | [.str y] => y.length ≤ sizeLine ∧ Q (.int y.length) H
  | _ => False
def aIx (K : PySem.W.Frag) : R2 := fun x y H Q => match x, y with
  | .ref p, .int i => ∃ xs v, Sq K H p xs ∧ atI xs i = some v ∧ Q v H
  | .str z, .int i => ∃ c, z.length ≤ sizeLine ∧ atI z.cps.toList i = some c ∧ Q (.str ⟨#[c]⟩) H
  | _, _ => False
section
variable {X : Cx} {o e value : Expr} {f : Str} {pos tpos pos' : Pos} {ta tv : TE} {C : Addr}
theorem cLen : CallR X (.builtin "len") (aLen X.K) := by
  intro pins s σ H xs us Q I r h
  match xs, r, h with
  | [], _, h => exact False.elim h
  | [.ref p], r, h =>
    obtain ⟨ys, hq, q⟩ := h
    exact call_len pins s σ H _ us Q I r ⟨.ref p, ys.length, rfl, hq.elim (fun z => .inl ⟨ys, z, rfl⟩) fun z => .inr ⟨ys, z, rfl⟩, q⟩
  | [.str y], r, h => exact call_len pins s σ H _ us Q I r ⟨.str y, y.length, rfl, ⟨h.1, rfl⟩, h.2⟩
  | [.non], _, h => exact False.elim h
  | [.bl _], _, h => exact False.elim h
  | [.int _], _, h => exact False.elim h
  | [.byt _], _, h => exact False.elim h
  | [.flt _], _, h => exact False.elim h
  | [.ty _], _, h => exact False.elim h
  | _ :: _ :: _, _, h => revert h; intro h; simp [aLen] at h
theorem ixA : IxR X (aIx X.K) := by
  intro value slice pins s σ H x y v u Q I rx ry h hs
  cases x <;> cases y <;> first | exact False.elim h | skip
  · obtain ⟨c, h1, h2, q⟩ := h
    exact ix_str value slice pins s σ H _ _ v u Q I rx ry ⟨_, _, c, rfl, rfl, h1, h2, q⟩ hs
  · obtain ⟨xs, w, hq, h2, q⟩ := h
    rcases hq with hq | hq
    · exact ix_list value slice pins s σ H _ _ v u Q I rx ry ⟨_, xs, _, w, rfl, rfl, hq, h2, q⟩ hs
    · exact ix_tup value slice pins s σ H _ _ v u Q I rx ry ⟨_, xs, _, w, rfl, rfl, hq, h2, q⟩ hs
/-- e.f, the class known -/
def tFldF (C : Addr) (ta : TE) (f : Str) : TE := fun σ H Q => ta σ H fun x H1 => ∃ a dx fs v, x = .ref a ∧ H1 a = some (.ins C dx fs) ∧ fs.lookup f = some v ∧ Q v H1
theorem pe_fldF (cl : Cls X.K C) (na : NoAttr X.K C f) (he : PE X e ta) (hb : attributeBase e f X.env (eval e X.env) = eval e X.env := by rfl) : PE X (.Attribute e f pos) (tFldF C ta f) := by
  refine ⟨fun pins s σ H Q I h => ?_⟩
  refine attr_of hb (thn (he.run pins s σ H _ I h) fun u s1 ⟨x, H1, I1, rx, a, dx, fs, v, ex, ea, l, q⟩ => ?_)
  subst ex
  obtain rfl : u = Value.ref a := rx
  exact getattr_ok I1 ea cl na l fun u' s2 I2 ru => ⟨v, H1, I2, ru, q⟩
def sFldF (C : Addr) (ta tv : TE) (f : Str) : TS := fun D σ H => tv σ H fun y H1 => ta σ H1 fun x H2 => ∃ a dx fs, x = .ref a ∧ H2 a = some (.ins C dx fs) ∧ fs.length < 1000 ∧ D.nx σ (upd H2 a (.ins C dx (putF f y fs)))
theorem ps_fldF (cl : Cls X.K C) (na : NoAttr X.K C f) (ha : PE X o ta) (hv : PE X value tv) (hs : swapsWith value (some (.Attribute o f pos')) pos.line X.env = pure false) : PS X (.Assign [.Attribute o f pos'] value pos) (sFldF C ta tv f) := by
  refine ⟨fun pins s σ H D I h => ?_⟩
  refine plainObj_wpAny_Assign_Attribute (thn (hv.run pins s σ H _ I h) fun u s1 ⟨y, H1, I1, ry, q⟩ => thn (ha.run pins s1 σ H1 _ I1 q) fun ov s2 ⟨x, H2, I2, rx, a, dx, fs, ex, ea, l, q2⟩ => ?_) hs
  subst ex
  obtain rfl : ov = Value.ref a := rx
  exact setattr_ok I2 ea cl na l ry fun s3 I3 => ⟨σ, _, I3, q2⟩
def sFldAugF (C : Addr) (ta tv : TE) (rd : V → V → Hp → VK → Prop) (f : Str) : TS := fun D σ H => ta σ H fun x H1 => ∃ a dx fs v, x = .ref a ∧ H1 a = some (.ins C dx fs) ∧ fs.lookup f = some v ∧
  tv σ H1 fun y H2 => rd v y H2 fun z H3 => ∃ dx' fs', H3 a = some (.ins C dx' fs') ∧ fs'.length < 1000 ∧ D.nx σ (upd H3 a (.ins C dx' (putF f z fs')))
theorem ps_fldaugF {op : Operator} {rd : V → V → Hp → VK → Prop} (cl : Cls X.K C) (na : NoAttr X.K C f) (ha : PE X o ta) (hv : PE X value tv) (hop : InOp X op rd) : PS X (.AugAssign (.Attribute o f tpos) op value pos) (sFldAugF C ta tv rd f) := by
  refine ⟨fun pins s σ H D I h => ?_⟩
  refine wpAny_AugAssign_AttributeAny (thn (ha.run pins s σ H _ I h) fun ov s1 ⟨x, H1, I1, rx, a, dx, fs, v, ex, ea, l, q⟩ => ?_)
  subst ex
  obtain rfl : ov = Value.ref a := rx
  refine getattr_ok I1 ea cl na l fun u s2 I2 ru => thn (hv.run pins s2 σ H1 _ I2 q) fun w3 s3 ⟨y, H2, I3, ry, q3⟩ => thn (hop pins s3 σ H2 v y u w3 _ I3 ru ry q3) fun w4 s4 ⟨z, H3, I4, rz, dx', fs', ea', l', q4⟩ => ?_
  exact setattr_ok I4 ea' cl na l' rz fun s5 I5 => ⟨σ, _, I5, q4⟩
theorem in_add' : InOp X .Add aIpAdd := ip_add'
theorem in_sub' : InOp X .Sub aIpSub := ip_sub'
/-- a module's constant that is an int -/
theorem pe_k {x : Str} {v : V} (hm : ∃ u, X.mg x = some u ∧ RelV v u) (hg : Gl X x := by rfl) (hd : (x == ("__debug__" : Str)) = false := by decide) : PE X (.Name x pos) (tC v) := by
  obtain ⟨u, h1, h2⟩ := hm
  exact pe_glob hg h1 h2 hd
/-- xs[i], for xs[i] op= e -/
def aGetL (K : PySem.W.Frag) : V → V → Hp → VK → Prop := fun o i H Q => ∃ p xs k v, o = .ref p ∧ i = .int k ∧ H p = some (.lst xs) ∧ 0 ≤ k ∧ k < 2 ^ 63 ∧ xs[k.toNat]? = some v ∧ Q v H
theorem getL : PGet X (aGetL X.K) := by
  intro pins s σ H o i ov iv Q I ro ri h
  obtain ⟨p, xs, k, v, rfl, rfl, hp, h0, h1, hv, q⟩ := h
  cases ro
  obtain ⟨t, rfl⟩ := ri
  obtain ⟨its, r, pl, hz⟩ := I.list (SqL.of (K := X.K) hp)
  obtain ⟨w, ew, rw'⟩ := r.get hv
  exact wpAny_getItem_list pl.isList h0 h1 (by simpa using ew) ⟨v, H, I, rw', q⟩
end
section
variable {K : PySem.W.Frag} {H : Hp} {Q : VK} {x y v : V} {a p dx C : Addr} {fs : List (Str × V)} {f : Str} {xs : List V} {i : Int} {n : Nat} {ta tv : TE} {σ : L2.St} {D : Ends}
theorem v_lenL (h : SqL K H p xs) (k : Q (.int xs.length) H) : aLen K [.ref p] H Q := ⟨xs, .inl h, k⟩
theorem v_lenLm {α : Type} {f : α → V} {ns : List α} (h : SqL K H p (ns.map f)) (k : Q (.int ns.length) H) : aLen K [.ref p] H Q := ⟨_, .inl h, by rw [List.length_map]; exact k⟩
theorem v_lenTm {α : Type} {f : α → V} {ns : List α} (h : SqT K H p (ns.map f)) (k : Q (.int ns.length) H) : aLen K [.ref p] H Q := ⟨_, .inr h, by rw [List.length_map]; exact k⟩
theorem v_lenT (h : SqT K H p xs) (k : Q (.int xs.length) H) : aLen K [.ref p] H Q := ⟨xs, .inr h, k⟩
theorem v_ixL (h : SqL K H p xs) (ha : atI xs i = some v) (k : Q v H) : aIx K (.ref p) (.int i) H Q := ⟨xs, v, .inl h, ha, k⟩
theorem v_ixT (h : SqT K H p xs) (ha : atI xs i = some v) (k : Q v H) : aIx K (.ref p) (.int i) H Q := ⟨xs, v, .inr h, ha, k⟩
/-- at a place n -/
theorem v_ixLn (h : SqL K H p xs) (e : i = (n : Int)) (ha : xs[n]? = some v) (k : Q v H) : aIx K (.ref p) (.int i) H Q := ⟨xs, v, .inl h, by rw [e]; exact atI_nat ha, k⟩
theorem v_ixTn (h : SqT K H p xs) (e : i = (n : Int)) (ha : xs[n]? = some v) (k : Q v H) : aIx K (.ref p) (.int i) H Q := ⟨xs, v, .inr h, by rw [e]; exact atI_nat ha, k⟩
def kFld (C : Addr) (f : Str) (Q : VK) : VK := fun x H1 => ∃ a dx fs v, x = .ref a ∧ H1 a = some (.ins C dx fs) ∧ fs.lookup f = some v ∧ Q v H1
theorem r_fldF (h : ta σ H (kFld C f Q)) : tFldF C ta f σ H Q := h
theorem v_fld (h : H a = some (.ins C dx fs)) (l : fs.lookup f = some v) (k : Q v H) : kFld C f Q (.ref a) H := ⟨a, dx, fs, v, rfl, h, l, k⟩
def kSfld (C : Addr) (f : Str) (y : V) (R : Hp → Prop) : VK := fun x H2 => ∃ a dx fs, x = .ref a ∧ H2 a = some (.ins C dx fs) ∧ fs.length < 1000 ∧ R (upd H2 a (.ins C dx (putF f y fs)))
theorem r_sfldF (h : tv σ H fun y H1 => ta σ H1 (kSfld C f y (D.nx σ))) : sFldF C ta tv f D σ H := h
theorem v_sfld {fs' : List (Str × V)} {R : Hp → Prop} (h : H a = some (.ins C dx fs)) (l : fs.length < 1000) (e : putF f y fs = fs') (k : R (upd H a (.ins C dx fs'))) : kSfld C f y R (.ref a) H := ⟨a, dx, fs, rfl, h, l, by rw [e]; exact k⟩
def kAug1 (C : Addr) (f : Str) (R : V → Addr → Hp → Prop) : VK := fun x H1 => ∃ a dx fs v, x = .ref a ∧ H1 a = some (.ins C dx fs) ∧ fs.lookup f = some v ∧ R v a H1
def kAug2 (C : Addr) (f : Str) (a : Addr) (R : Hp → Prop) : VK := fun z H3 => ∃ dx' fs', H3 a = some (.ins C dx' fs') ∧ fs'.length < 1000 ∧ R (upd H3 a (.ins C dx' (putF f z fs')))
theorem r_sfldAugF {rd : V → V → Hp → VK → Prop} (h : ta σ H (kAug1 C f fun v a H1 => tv σ H1 fun y H2 => rd v y H2 (kAug2 C f a (D.nx σ)))) : sFldAugF C ta tv rd f D σ H := h
theorem v_aug1 {R : V → Addr → Hp → Prop} (h : H a = some (.ins C dx fs)) (l : fs.lookup f = some v) (k : R v a H) : kAug1 C f R (.ref a) H := ⟨a, dx, fs, v, rfl, h, l, k⟩
theorem v_aug2 {fs' : List (Str × V)} {R : Hp → Prop} (h : H a = some (.ins C dx fs)) (l : fs.length < 1000) (e : putF f y fs = fs') (k : R (upd H a (.ins C dx fs'))) : kAug2 C f a R y H := ⟨dx, fs, h, l, by rw [e]; exact k⟩
theorem v_getL (h : H p = some (.lst xs)) (e : i = (n : Int)) (hn : n < 1000000) (ha : xs[n]? = some v) (k : Q v H) : aGetL K (.ref p) (.int i) H Q := ⟨p, xs, i, v, rfl, rfl, h, by omega, by omega, by rw [e]; exact ha, k⟩
theorem ixN_n {m n : Nat} (h : n < m) : ixN m (n : Int) = some n := by
  unfold ixN
  rw [if_pos (by omega), if_pos (by omega)]
  simp
theorem v_setL {P : Hp → Prop} (h : H p = some (.lst xs)) (e : i = (n : Int)) (hn : n < xs.length) (k : P (upd H p (.lst (xs.set n v)))) : rSetL (.ref p) (.int i) v H P := ⟨p, xs, i, n, rfl, rfl, h, by rw [e]; exact ixN_n hn, k⟩
theorem v_append {P : Hp → Prop} (h : H p = some (.lst xs)) (hn : xs.length < 1000000) (k : P (upd H p (.lst (xs ++ [v])))) : tyV K "list" (.ref p) H ∧ rAppend (.ref p) [v] H (fun _ H' => P H') := ⟨.inl ⟨rfl, xs, SqL.of h⟩, p, xs, v, rfl, rfl, h, Nat.lt_trans hn (by decide), k⟩
theorem ty_list (h : H p = some (.lst xs)) : tyV K "list" (.ref p) H := .inl ⟨rfl, xs, SqL.of h⟩
theorem v_app (h : H p = some (.lst xs)) (hn : xs.length < 1000000) (k : Q .non (upd H p (.lst (xs ++ [v])))) : rAppend (.ref p) [v] H Q := ⟨p, xs, v, rfl, rfl, h, Nat.lt_trans hn (by decide), k⟩
theorem v_ext {b : Addr} {ys : List V} (h : H p = some (.lst xs)) (h2 : H b = some (.lst ys)) (hn : xs.length + ys.length ≤ 1000000) (k : Q .non (upd H p (.lst (xs ++ ys)))) : rExtend (.ref p) [.ref b] H Q := ⟨p, b, xs, ys, rfl, rfl, h, h2, Nat.le_trans hn (by decide), k⟩
theorem v_rev (h : H p = some (.lst xs)) (k : Q .non (upd H p (.lst xs.reverse))) : rReverse (.ref p) [] H Q := ⟨p, xs, rfl, rfl, h, k⟩
theorem v_clear (h : H p = some (.lst xs)) (k : Q .non (upd H p (.lst []))) : rClear (.ref p) [] H Q := ⟨p, xs, rfl, rfl, h, k⟩
theorem v_pop (h : H p = some (.lst xs)) (hv : xs[xs.length - 1]? = some v) (k : Q v (upd H p (.lst xs.dropLast))) : rPop (.ref p) [] H Q := ⟨p, xs, v, rfl, rfl, h, hv, k⟩
theorem v_slL {lo hi : Option Int} (h : SqL K H p xs) (k : ∀ q, H q = none → Q (.ref q) (upd H q (.lst (cutV xs lo hi)))) : rSlL K (.ref p) lo hi H Q := ⟨p, xs, rfl, h, k⟩
theorem v_listL (h : SqL K H p xs) (k : ∀ l, H l = none → Q (.ref l) (upd H l (.lst xs))) : ∃ p' ys, [V.ref p] = [.ref p'] ∧ (SqL K H p' ys ∨ SqT K H p' ys) ∧ ∀ l, H l = none → Q (.ref l) (upd H l (.lst ys)) := ⟨p, xs, rfl, .inl h, k⟩
theorem v_listT (h : SqT K H p xs) (k : ∀ l, H l = none → Q (.ref l) (upd H l (.lst xs))) : ∃ p' ys, [V.ref p] = [.ref p'] ∧ (SqL K H p' ys ∨ SqT K H p' ys) ∧ ∀ l, H l = none → Q (.ref l) (upd H l (.lst ys)) := ⟨p, xs, rfl, .inr h, k⟩
theorem v_sum {ns : List Int} (h : SqL K H p (ns.map V.int)) (k : Q (.int ns.sum) H) : rSum K [.ref p] H Q := ⟨p, ns, rfl, h, k⟩
theorem v_isi {c : V} {t u : Value} {b : Bool} (h1 : ClsV c u) (h2 : TyX K H x t) (h3 : PySem.W.kitOne K t u = some b) (k : Q (.bl b) H) : rIsi K [x, c] H Q := ⟨x, c, t, u, b, rfl, h1, h2, h3, k⟩
theorem v_max2 {n m : Int} (k : Q (.int (if m > n then m else n)) H) : ∃ i j, [V.int n, V.int m] = [.int i, .int j] ∧ Q (.int (if j > i then j else i)) H := ⟨n, m, rfl, k⟩
theorem v_min2 {n m : Int} (k : Q (.int (if m < n then m else n)) H) : ∃ i j, [V.int n, V.int m] = [.int i, .int j] ∧ Q (.int (if j < i then j else i)) H := ⟨n, m, rfl, k⟩
theorem v_bits {n : Int} (k : Q (.int (Builtin.Int.intBits n : Nat)) H) : ∃ i, V.int n = .int i ∧ Q (.int (Builtin.Int.intBits i : Nat)) H := ⟨n, rfl, k⟩
theorem r_bits (h : ta σ H fun x H1 => ∃ i, x = .int i ∧ Q (.int (Builtin.Int.intBits i : Nat)) H1) : tBits ta σ H Q := h
end

/-- 10 ** 60 -/
def big60 : Int := 10 ^ 60
theorem big60_pos : 0 < big60 := by unfold big60; decide
theorem big60_lt : big60 < 2 ^ 200 := by unfold big60; decide +kernel
section
variable {K : PySem.W.Frag} {H : Hp} {Q : VK} {x : V}
theorem v_pow60 (k : Q (.int big60) H) : aPow (.int 10) (.int 60) H Q := ⟨⟨by decide, by decide, by decide⟩, k⟩
theorem v_isiIT {n : Int} (k : Q (.bl true) H) : rIsi K [.int n, .ty "int"] H Q := ⟨.int n, .ty "int", .type "int", .type "int", true, rfl, .ty _, .base (.int n), by rfl, k⟩
theorem v_isiIB {n : Int} (k : Q (.bl false) H) : rIsi K [.int n, .ty "bool"] H Q := ⟨.int n, .ty "bool", .type "int", .type "bool", false, rfl, .ty _, .base (.int n), by rfl, k⟩
end
theorem map_at {α : Type} {f : α → V} {ns : List α} {i : Nat} {x : V} (h : (ns.map f)[i]? = some x) : ∃ n, ns[i]? = some n ∧ x = f n := by
  rw [List.getElem?_map] at h
  cases e : ns[i]? with
  | none => rw [e] at h; cases h
  | some n => rw [e] at h; exact ⟨n, rfl, (Option.some.inj h).symm⟩
/-- a cut of any list -/
def cutL {α : Type} (xs : List α) (lo hi : Option Int) : List α := (xs.drop (HT.sIx xs.length 0 lo)).take (HT.sIx xs.length xs.length hi - HT.sIx xs.length 0 lo)
theorem cut_map {α : Type} (f : α → V) (ns : List α) (lo hi : Option Int) : cutV (ns.map f) lo hi = (cutL ns lo hi).map f := by
  unfold cutV cutL
  rw [List.length_map, List.map_take, List.map_drop]
theorem cutL_mem {α : Type} {xs : List α} {lo hi : Option Int} {x : α} (h : x ∈ cutL xs lo hi) : x ∈ xs := List.mem_of_mem_drop (List.mem_of_mem_take h)
theorem cutL_len {α : Type} (xs : List α) (lo hi : Option Int) : (cutL xs lo hi).length ≤ xs.length := by
  unfold cutL
  rw [List.length_take, List.length_drop]
  omega
theorem cutL_upto {α : Type} (xs : List α) (k : Nat) : cutL xs none (some (k : Int)) = xs.take k := by
  unfold cutL
  rw [HT.sIx_none, HT.sIx_nat, List.drop_zero, Nat.sub_zero, List.take_eq_take_iff]
  omega
theorem cutL_from {α : Type} (xs : List α) (k : Nat) : cutL xs (some (k : Int)) none = xs.drop k := by
  unfold cutL
  rw [HT.sIx_none, HT.sIx_nat]
  by_cases h : k ≤ xs.length
  · rw [Nat.min_eq_left h, List.take_of_length_le (by rw [List.length_drop]; omega)]
  · have e1 : min k xs.length = xs.length := by omega
    rw [e1, List.drop_length, List.drop_of_length_le (by omega), List.take_nil]
theorem cutL_span {α : Type} (xs : List α) (i j : Nat) : cutL xs (some (i : Int)) (some (j : Int)) = (xs.drop i).take (j - i) := by
  unfold cutL
  rw [HT.sIx_nat, HT.sIx_nat]
  by_cases h : i ≤ xs.length
  · rw [Nat.min_eq_left h]
    by_cases h2 : j ≤ xs.length
    · rw [Nat.min_eq_left h2]
    · rw [Nat.min_eq_right (by omega), List.take_of_length_le (by rw [List.length_drop]; omega), List.take_of_length_le (by rw [List.length_drop]; omega)]
  · have e1 : min i xs.length = xs.length := by omega
    rw [e1, List.drop_length, List.drop_of_length_le (by omega), List.take_nil, List.take_nil]
/-- what a law is asked: the script's ints in, True out -/
def lawSp (K : PySem.W.Frag) : Sp := fun vs H Q _ => ∃ (a : Addr) (ns : List Int), vs = [.ref a] ∧ SqL K H a (ns.map V.int) ∧ ns.length ≤ 63 ∧ ∀ H', Q (.bl true) H'
end SH

set_option Elab.async false
set_option linter.all false
set_option maxRecDepth 100000
set_option maxHeartbeats 4000000
/-! SHD: functions that are made by a def and handed out -/
namespace SH
open PySem PySem.Spec PyProof.Rows L2 NdefX LamX

/-- the cell at c holds v -/
def cellO (c : Addr) (v : V) : HO := .ext fun h => ∃ u, L2.RelV v u ∧ h.IsCell c (some u)
theorem cellO_ok {P : Program} {w : World} {H : Hp} {h : Heap} {c : Addr} {v : V} {u : Value} (r : L2.RelV v u) (e : h.IsCell c (some u)) : ObjOk P w H h c (cellO c v) := by
  refine ⟨⟨u, r, e⟩, ?_, fun h1 h2 ⟨u', r', o, ho, hd⟩ st => ⟨u', r', o, st o ho, hd⟩⟩
  obtain ⟨o, ho, _⟩ := e
  exact ⟨o, ho⟩
theorem cellO_at {P : Program} {w : World} {H : Hp} {h : Heap} {c : Addr} {v : V} (hok : HOk P w H h) (e : H c = some (cellO c v)) : ∃ u, L2.RelV v u ∧ h.IsCell c (some u) := (hok c _ e).1
/-- at f stands a function of the text st, made in the def of the name before it; its captured names fr hold ws -/
structure Clo (H : Hp) (f : Addr) (st : Stmt) (name qual : Str) (fr : List Str) (ws : List V) (cl : List (Str × Addr)) (c' : Addr) : Prop where
  fn : H f = some (FnO f (NF.of st name qual cl c'))
  code : H c' = some (CodeO c' qual)
  len : ws.length = fr.length
  cells : ∀ y c, (y, c) ∈ cl → ∃ v, H c = some (cellO c v)
  inj : ∀ x y c, cl.lookup x = some c → cl.lookup y = some c → x = y
  has : ∀ (i : Nat) (y : Str), fr[i]? = some y → ∃ c v, cl.lookup y = some c ∧ ws[i]? = some v ∧ H c = some (cellO c v)
theorem Clo.step {M : List Addr} {H H' : Hp} {f : Addr} {st : Stmt} {name qual : Str} {fr : List Str} {ws : List V} {cl : List (Str × Addr)} {c' : Addr} (c : Clo H f st name qual fr ws cl c') (s : Stp M H H') : Clo H' f st name qual fr ws cl c' := by
  refine ⟨s.fix c.fn True.intro, s.fix c.code True.intro, c.len, fun y a e => ?_, c.inj, fun i y e => ?_⟩
  · obtain ⟨v, h⟩ := c.cells y a e
    exact ⟨v, s.fix h True.intro⟩
  · obtain ⟨a, v, h1, h2, h3⟩ := c.has i y e
    exact ⟨a, v, h1, h2, s.fix h3 True.intro⟩

/-- the cells of a list tracked too -/
def track (cl : List (Str × Addr)) (val : Addr → HO) (H : Hp) : Hp := fun b => match H b with
  | some o => some o
  | none => if b ∈ cl.map (·.2) then some (val b) else none
theorem track_some {cl : List (Str × Addr)} {val : Addr → HO} {H : Hp} {b : Addr} {o : HO} (h : H b = some o) : track cl val H b = some o := by
  unfold track; rw [h]
theorem track_cell {cl : List (Str × Addr)} {val : Addr → HO} {H : Hp} {b : Addr} (h : H b = none) (m : b ∈ cl.map (·.2)) : track cl val H b = some (val b) := by
  unfold track; rw [h]; exact if_pos m
theorem track_out {cl : List (Str × Addr)} {val : Addr → HO} {H : Hp} {b : Addr} (m : b ∉ cl.map (·.2)) : track cl val H b = H b := by
  unfold track
  cases h : H b with
  | some o => rfl
  | none => exact if_neg m
theorem track_none {cl : List (Str × Addr)} {val : Addr → HO} {H : Hp} {b : Addr} (h : track cl val H b = none) : H b = none ∧ b ∉ cl.map (·.2) := by
  unfold track at h
  cases e : H b with
  | some o => rw [e] at h; cases h
  | none =>
    rw [e] at h
    refine ⟨rfl, fun m => ?_⟩
    have h : (if b ∈ cl.map (·.2) then some (val b) else none) = none := h
    rw [if_pos m] at h
    cases h
theorem track_ok {P : Program} {w : World} {H : Hp} {h : Heap} {cl : List (Str × Addr)} {val : Addr → HO} (hok : HOk P w H h) (hv : ∀ b ∈ cl.map (·.2), H b = none → ObjOk P w (track cl val H) h b (val b)) : HOk P w (track cl val H) h := fun b o e => by
  cases q : H b with
  | some u =>
    rw [track_some q] at e
    cases e
    exact (hok b o q).stay (fun _ _ _ z => z) (fun c z => track_some z) fun c xs z => track_some z
  | none =>
    by_cases m : b ∈ cl.map (·.2)
    · rw [track_cell q m] at e
      cases e
      exact hv b m q
    · rw [track_out m, q] at e; cases e

/-- the body of a def that makes a function and hands it out has come to its end -/
def Made (X : Cx) (σ : L2.St) (H : Hp) (T : List NTab) (i : Nat) (st : Stmt) (nm : Str) : Flow → Shared → Prop := fun fl s' => ∃ f' c' H1, Inv X [] (σ.set i (some (.ref f'))) H1 s' ∧ fl = .ret (.ref f') ∧ ExtN H H1 ∧ (∀ b, H1 b = Option.none → H b = Option.none) ∧ TabsN T H1 ∧ H f' = none ∧
  H1 f' = some (FnO f' (NF.of st nm (X.env.qual ++ nm) (cloFrom X.env.cells (C8.fnScope st).names []) c')) ∧ H1 c' = some (CodeO c' (X.env.qual ++ nm))
theorem mk_body {X : Cx} {σ : L2.St} {H : Hp} {s : Shared} {c P' : Addr} {nm : Str} {pos pos2 pos3 : Pos} {T : List NTab} {nmf : Nat → Nat → Str} {i : Nat} {st : Stmt} (I : Inv X [] σ H s)
    (hst : st = .FunctionDef nm (C8.fnArgs st) (C8.fnBody st) [] none [] (C8.fnScope st) none nm pos)
    (TB : TabB X.base X.mg c P') (hcode : X.env.code = .ref c) (hm : (P', nmf) ∈ T) (hn : nmf pos.line pos.col = X.env.qual ++ nm) (hu : ∀ p ∈ T, p.1 = P' → p.2 = nmf)
    (hfree : ∀ y ∈ (C8.fnScope st).names, y.2 = .free → X.env.scope.names.lookup y.1 = some .cell)
    (hd0 : (C8.fnArgs st).defaults = []) (hk0 : (C8.fnArgs st).kw_defaults = []) (ha : annTrees (C8.fnArgs st) none X.env = []) (hN : X.N.Nodup) (hf : X.fn nm = true ∨ X.env.scope.names.lookup nm = some .local)
    (hi : X.N[i]? = some nm) (hx : X.env.scope.names.lookup nm = some .local) (hdb : (nm == ("__debug__" : Str)) = false) (hcb : (nm == ("__classdict__" : Str)) = false) (hT : TabsN T H) :
    wpAny (model X.prog X.w) X.A (execs [st, .Return (some (.Name nm pos3)) pos2] X.env) (Made X σ H T i st nm) X.xe s := by
  have first := ps_ndefMS (X := X) (i := i) (T := T) (nm := nmf) (P := P') (c := c) hst TB hcode hm hn hu (fun y hy e => .inl (hfree y hy e)) hd0 hk0 ha hN hi (.inl hx) hf
  refine wpAny_execs_cons (thn (first.run [] s σ H ⟨fun σ1 H1 => ∃ f' c', σ1 = σ.set i (some (.ref f')) ∧ ExtN H H1 ∧ (∀ b, H1 b = Option.none → H b = Option.none) ∧ TabsN T H1 ∧ H f' = none ∧
      H1 f' = some (FnO f' (NF.of st nm (X.env.qual ++ nm) (cloFrom X.env.cells (C8.fnScope st).names []) c')) ∧ H1 c' = some (CodeO c' (X.env.qual ++ nm)), fun _ _ => False, fun _ _ => False, fun _ _ => False⟩ I
        ⟨hT, fun f' c' H1 e n t z e1 e2 => ⟨f', c', rfl, e, n, t, z, e1, e2⟩⟩) fun fl s2 q => ?_)
  cases fl with
  | next =>
    obtain ⟨σ1, H1, I1, f', c', rfl, e1, e2, e3, e4, e5, e6⟩ := q
    have hv : (σ.set i (some (V.ref f')))[i]? = some (some (.ref f')) := by
      have hlt : i < X.N.length := (List.getElem?_eq_some_iff.mp hi).1
      rw [List.getElem?_set_self (by rw [I.len]; exact hlt)]
    refine wpAny_execs_cons (wpAny_Return_some (pos := pos2) (thn ((pe_var (X := X) (pos := pos3) hi (.inl hx) hdb hcb).run [] s2 _ H1 (fun v H2 => v = .ref f' ∧ H2 = H1) I1 ⟨.ref f', hv, rfl, rfl⟩) fun u s3 q3 => ?_))
    obtain ⟨v, H2, I2, r2, ev, eH⟩ := q3
    subst ev
    subst eH
    obtain rfl : u = Value.ref f' := r2
    exact ⟨f', c', _, I2, rfl, e1, e2, e3, e4, e5, e6⟩
  | ret v => obtain ⟨_, _, _, _, _, z⟩ := q; exact z.elim
  | brk => obtain ⟨_, _, _, z⟩ := q; exact z.elim
  | cont => obtain ⟨_, _, _, z⟩ := q; exact z.elim
section
variable {P : Program} {w : World} {K : PySem.W.Frag} {mg : Str → Option Value} {base : Heap} {CX : CXT}

/-- a def that makes a function of its parameters and hands it out -/
theorem maker {k : Nat} {f c P' : Addr} {name qual nm : Str} {params : Arguments} {body : List Stmt} {scope : Scope} {dV kV doc pm ct oc : Value} {an od : Option Addr} {pos pos2 pos3 : Pos}
    {osl : Array (Option Value)} {N ps fr : List Str} {sp : Sp} {T : List NTab} {nmf : Nat → Nat → Str} {i : Nat} {st : Stmt} {ix : List Nat} (lk : K.lookup f = some ⟨oc, od, .func (PySem.W.fnOf name qual params body scope dV kV doc pm an (.ref c) ct), osl⟩) (hcd : PySem.W.codeIn K (.ref c) qual = true) (S : FnScope N ps scope)
    (hst : st = .FunctionDef nm (C8.fnArgs st) (C8.fnBody st) [] none [] (C8.fnScope st) none nm pos)
    (hbody : body = [st, .Return (some (.Name nm pos3)) pos2])
    (TB : TabB base mg c P') (hm : (P', nmf) ∈ T) (hn : nmf pos.line pos.col = (qual ++ ".<locals>.") ++ nm) (hu : ∀ p ∈ T, p.1 = P' → p.2 = nmf) (hq : ∀ n g, (envOfC qual scope n g (.ref c)).qual = qual ++ ".<locals>.")
    (hfree : ∀ y ∈ (C8.fnScope st).names, y.2 = .free → scope.names.lookup y.1 = some .cell) (hfr : ∀ y ∈ fr, (y, NameKind.free) ∈ (C8.fnScope st).names) (hfr2 : ∀ y ∈ (C8.fnScope st).names, y.2 = .free → y.1 ∈ fr)
    (hd0 : (C8.fnArgs st).defaults = []) (hk0 : (C8.fnArgs st).kw_defaults = []) (ha : ∀ env, annTrees (C8.fnArgs st) none env = [])
    (hi : N[i]? = some nm) (hx : scope.names.lookup nm = some .local) (hip : ps.length ≤ i) (hdb : (nm == ("__debug__" : Str)) = false) (hcb : (nm == ("__classdict__" : Str)) = false)
    (hix : ix.map (fun j => ps[j]?) = fr.map some)
    (len : ∀ vs H Q E, sp vs H Q E → vs.length = ps.length)
    (hsp : ∀ vs H Q E, sp vs H Q E → TabsN T H ∧ ∀ (f' : Addr) (H' : Hp) (cl : List (Str × Addr)) (c' : Addr), ExtN H H' → (∀ b, H' b = Option.none → H b = Option.none) → TabsN T H' → H f' = none → Clo H' f' st nm ((qual ++ ".<locals>.") ++ nm) fr (ix.map fun j => vs.getD j .non) cl c' → Q (.ref f') H') :
    FnOk P w K mg base CX (k + 1) f (PySem.W.fnOf name qual params body scope dV kV doc pm an (.ref c) ct) ps sp := by
  refine ⟨len, fun A outer s H args us vs Q E hr e0 hb r hs => ?_⟩
  have hl := len _ _ _ _ hs
  have KX : K.In s.heap := e0.mod.kin.keeps fun b o e => (e0.bs b o e).1
  have lim : s.heap.NoLimit := e0.mod.nolimit.keeps fun b o e => (e0.bs b o e).1
  have hkind : ∀ y ∈ ps.zip us, scope.names.lookup y.1 = some .local ∨ (scope.names.lookup y.1 = some .cell ∧ ((cellsFrom (s.heap.objs.size + 1) scope.names []).lookup y.1).isSome = true) := fun ⟨n, v⟩ hy => by
    rcases S.par n (List.of_mem_zip hy).1 with q | q
    · exact .inl q
    · exact .inr ⟨q, PySem.W.cellsFrom_some _ _ _ (.inl q)⟩
  refine codeAny_call_function hr.depth (KX _ _ lk) rfl S.co S.gen rfl (PySem.W.codeRec_of KX hcd) (hb _ _ _ _ ?_)
  refine wpAny_newFunctionEnv_cells S.kind hkind fun env he s1 x => ?_
  subst he
  refine ⟨lim.keeps x.toInCall.keep, codeAny_func ?_⟩
  obtain ⟨hT, hend⟩ := hsp vs H Q E hs
  have I : Inv (cxOf CX P w K mg base N qual scope f (.ref c) A outer s H E) [] (L2.start N vs) H s1 := inv_start S hr.hd e0 hl r x
  have X0 : (cxOf CX P w K mg base N qual scope f (.ref c) A outer s H E).env.qual = qual ++ ".<locals>." := hq _ _
  have B := mk_body (X := cxOf CX P w K mg base N qual scope f (.ref c) A outer s H E) (pos2 := pos2) (pos3 := pos3) I hst TB rfl hm (by rw [X0]; exact hn) hu hfree hd0 hk0 (ha _) S.nd (.inl rfl) hi hx hdb hcb hT
  rw [← hbody] at B
  refine wpAny_mono B (fun fl s' hs => ?_) fun e s' hs => hs
  obtain ⟨f', c', H1, J, rfl, e1, e2, e3, e4, e5, e6⟩ := hs
  rw [X0] at e5 e6
  generalize hcl : cloFrom (cxOf CX P w K mg base N qual scope f (.ref c) A outer s H E).env.cells (C8.fnScope st).names [] = cl at e5
  have hcells : ∀ y ∈ (C8.fnScope st).names, y.2 = .free → ∃ a, (cxOf CX P w K mg base N qual scope f (.ref c) A outer s H E).env.cells.lookup y.1 = some a := fun y hy e => J.ok.has _ (.inl (hfree y hy e))
  have clm : ∀ y a, cl.lookup y = some a → (cxOf CX P w K mg base N qual scope f (.ref c) A outer s H E).env.cells.lookup y = some a := fun y a e => clo_cm hcells (by rw [hcl]; exact e)
  have clf : ∀ y a, (y, a) ∈ cl → y ∈ fr ∧ cl.lookup y = some a := fun y a m => by
    rw [← hcl] at m
    rcases cloFrom_mem m with z | ⟨z1, z2⟩
    · cases z
    · obtain ⟨a1, h1⟩ := hcells _ z1 rfl
      have h1 : (cxOf CX P w K mg base N qual scope f (.ref c) A outer s H E).env.cells.lookup y = some a1 := h1
      have h2 := clo_has hcells z1 h1
      rw [hcl] at h2
      have e : a = a1 := by rw [z2, h1]; rfl
      rw [e]
      exact ⟨hfr2 _ z1 rfl, h2⟩
  -- what each captured name holds
  have val : ∀ y ∈ fr, ∃ a v u, cl.lookup y = some a ∧ L2.RelV v u ∧ s'.heap.IsCell a (some u) ∧ ∀ m : Nat, fr[m]? = some y → (ix.map fun j => vs.getD j .non)[m]? = some v := by
    intro y hy
    obtain ⟨m, hm'⟩ := List.mem_iff_getElem?.mp hy
    have q : (ix.map fun j => ps[j]?)[m]? = some (some y) := by rw [hix, List.getElem?_map, hm']; rfl
    rw [List.getElem?_map] at q
    cases ej : ix[m]? with
    | none => rw [ej] at q; cases q
    | some j =>
      rw [ej] at q
      have hj : ps[j]? = some y := Option.some.inj q
      have hjl : j < ps.length := (List.getElem?_eq_some_iff.mp hj).1
      have hNj : N[j]? = some y := by
        rw [← hj, ← S.pre, List.getElem?_take_of_lt hjl]
      obtain ⟨v, hv⟩ : ∃ v, vs[j]? = some v := ⟨vs[j]'(by omega), by simp [show j < vs.length by omega]⟩
      have hs : ((L2.start N vs).set i (some (V.ref f')))[j]? = some (some v) := by
        rw [List.getElem?_set_ne (by omega)]
        unfold L2.start
        rw [List.getElem?_append_left (by rw [List.length_map]; omega), List.getElem?_map, hv] <;> rfl
      have kc : scope.names.lookup y = some .cell := hfree _ (hfr y hy) rfl
      obtain ⟨mm, hn2, hl2⟩ := J.loc
      obtain ⟨u, ru, lk2⟩ := hl2 j y v hNj hs (.inr (.inl kc))
      rcases lk2 with ⟨z, _⟩ | ⟨_, a, ha2, hcell⟩
      · have z' : scope.names.lookup y = some .local := z
        rw [kc] at z'; cases z'
      · have h2 := clo_has hcells (hfr y hy) ha2
        rw [hcl] at h2
        refine ⟨a, v, u, h2, ru, hcell, fun m' hm2 => ?_⟩
        -- any place of y
        have q2 : (ix.map fun j => ps[j]?)[m']? = some (some y) := by rw [hix, List.getElem?_map, hm2]; rfl
        rw [List.getElem?_map] at q2
        cases ej2 : ix[m']? with
        | none => rw [ej2] at q2; cases q2
        | some j2 =>
          rw [ej2] at q2
          have hj2 : ps[j2]? = some y := Option.some.inj q2
          have ndP : ps.Nodup := by rw [← S.pre]; exact S.nd.sublist (List.take_sublist _ _)
          have : j2 = j := L2.nodup_ix ndP hj2 hj
          subst this
          rw [List.getElem?_map, ej2]
          show some (vs.getD j2 .non) = some v
          rw [List.getD_eq_getElem?_getD, hv] <;> rfl
  let pick : Addr → HO := fun a => cellO a (match cl.find? (fun p => p.2 == a) with | some p => (match fr.findIdx? (fun z => z == p.1) with | some m => (ix.map fun j => vs.getD j .non).getD m .non | none => .non) | none => .non)
  have pick_of : ∀ y a, cl.lookup y = some a → ∀ v, (∀ m : Nat, fr[m]? = some y → (ix.map fun j => vs.getD j .non)[m]? = some v) → y ∈ fr → pick a = cellO a v := by
    intro y a hya v hv hy
    show cellO a _ = cellO a v
    have hmem : (y, a) ∈ cl := PySem.mem_of_lookup hya
    cases ef : cl.find? (fun p => p.2 == a) with
    | none =>
      have := List.find?_eq_none.mp ef (y, a) hmem
      simp at this
    | some p =>
      have hp1 := List.find?_some ef
      have hp2 := List.mem_of_find?_eq_some ef
      have e1 : p.2 = a := by simpa using hp1
      obtain ⟨hpf, hpl⟩ := clf p.1 p.2 hp2
      rw [e1] at hpl
      have ey : p.1 = y := J.ok.inj _ _ _ (clm _ _ hpl) (clm _ _ hya)
      show cellO a (match fr.findIdx? (fun z => z == p.1) with | some m => (ix.map fun j => vs.getD j .non).getD m .non | none => .non) = cellO a v
      rw [ey]
      cases ei : fr.findIdx? (fun z => z == y) with
      | none =>
        have := List.findIdx?_eq_none_iff.mp ei y hy
        simp at this
      | some m =>
        obtain ⟨hm1, hm2, _⟩ := List.findIdx?_eq_some_iff_getElem.mp ei
        have e2 : fr[m] = y := by simpa using hm2
        have := hv m (by rw [List.getElem?_eq_getElem hm1, e2])
        show cellO a ((ix.map fun j => vs.getD j .non).getD m .non) = cellO a v
        rw [List.getD_eq_getElem?_getD, this] <;> rfl
  have offc : ∀ a, a ∈ cl.map (·.2) → H1 a = none ∧ s.heap.objs.size ≤ a := fun a m => by
    obtain ⟨p, hp, rfl⟩ := List.mem_map.mp m
    obtain ⟨_, h2⟩ := clf p.1 p.2 hp
    exact ⟨J.freeC _ _ (clm _ _ h2), J.ok.cab _ _ rfl (clm _ _ h2)⟩
  have hok2 : HOk P w (track cl pick H1) s'.heap := track_ok J.hok fun a m _ => by
    obtain ⟨p, hp, rfl⟩ := List.mem_map.mp m
    obtain ⟨hy, h2⟩ := clf p.1 p.2 hp
    obtain ⟨a', v, u, h3, h4, h5, h6⟩ := val p.1 hy
    rw [h2] at h3
    cases h3
    rw [pick_of _ _ h2 v h6 hy]
    exact cellO_ok h4 h5
  have un2 : Un (frs outer) [] H (track cl pick H1) s.heap s'.heap := by
    have u := J.base
    refine ⟨u.keep, u.slot, fun b o q n hb => ?_, u.there, fun b xs q => track_some (u.tups b xs q), fun b o xs q => track_some (u.frzs b o xs q), fun b xs q => ?_⟩
    · rw [track_out fun m => absurd (Heap.lt_size q) (Nat.not_lt.mpr (offc b m).2)]
      exact u.free b o q n hb
    · obtain ⟨more, h2⟩ := u.tbls b xs q
      exact ⟨more, track_some h2⟩
  refine ⟨.ref f', track cl pick H1, J.os, J.bare, un2, hok2, rfl, hend f' _ cl c' (fun b o q n => track_some (e1 b o q n)) (fun b q => e2 b (track_none q).1) (e3.ext fun b o q => track_some q) e4 ?_⟩
  refine ⟨track_some e5, track_some e6, ?_, fun y a e => ?_, fun x y a h1 h2 => J.ok.inj _ _ _ (clm _ _ h1) (clm _ _ h2), fun m y e => ?_⟩
  · have := congrArg List.length hix
    rw [List.length_map, List.length_map] at this
    rw [List.length_map]; exact this
  · have m : a ∈ cl.map (·.2) := List.mem_map.mpr ⟨(y, a), e, rfl⟩
    exact ⟨_, track_cell (offc a m).1 m⟩
  · have hy := List.mem_of_getElem? e
    obtain ⟨a, v, u, h3, h4, h5, h6⟩ := val y hy
    have m' : a ∈ cl.map (·.2) := List.mem_map.mpr ⟨(y, a), PySem.mem_of_lookup h3, rfl⟩
    refine ⟨a, v, h3, h6 m e, ?_⟩
    rw [track_cell (offc a m').1 m', pick_of _ _ h3 v h6 hy]

/-! ### such a function called -/
def untrack (cl : List (Str × Addr)) (H : Hp) : Hp := fun b => if b ∈ cl.map (·.2) then none else H b
def retrack (cl : List (Str × Addr)) (H H' : Hp) : Hp := fun b => match H' b with
  | some o => some o
  | none => if b ∈ cl.map (·.2) then H b else none
theorem retrack_some {cl : List (Str × Addr)} {H H' : Hp} {b : Addr} {o : HO} (h : H' b = some o) : retrack cl H H' b = some o := by unfold retrack; rw [h]
theorem retrack_cell {cl : List (Str × Addr)} {H H' : Hp} {b : Addr} (h : H' b = none) (m : b ∈ cl.map (·.2)) : retrack cl H H' b = H b := by unfold retrack; rw [h]; exact if_pos m
theorem retrack_out {cl : List (Str × Addr)} {H H' : Hp} {b : Addr} (m : b ∉ cl.map (·.2)) : retrack cl H H' b = H' b := by
  unfold retrack
  cases h : H' b with
  | some o => rfl
  | none => exact if_neg m
theorem untrack_out {cl : List (Str × Addr)} {H : Hp} {b : Addr} (m : b ∉ cl.map (·.2)) : untrack cl H b = H b := if_neg m
theorem untrack_in {cl : List (Str × Addr)} {H : Hp} {b : Addr} (m : b ∈ cl.map (·.2)) : untrack cl H b = none := if_pos m
theorem untrack_some {cl : List (Str × Addr)} {H : Hp} {b : Addr} {o : HO} (h : untrack cl H b = some o) : b ∉ cl.map (·.2) ∧ H b = some o := by
  unfold untrack at h
  by_cases m : b ∈ cl.map (·.2)
  · rw [if_pos m] at h; cases h
  · rw [if_neg m] at h; exact ⟨m, h⟩
/-- no function, no cell -/
def Low : HO → Prop
  | .ext _ => False
  | _ => True
/-- what such a function promises; fin hands its end back to the caller's heap -/
structure COk (P : Program) (w : World) (K : PySem.W.Frag) (mg : Str → Option Value) (base : Heap) (CX : CXT) (k : Nat) (st : Stmt) (nm qual : Str) (ps fr : List Str) (sp : List V → Sp) : Prop where
  len : ∀ ws vs H Q E, sp ws vs H Q E → vs.length = ps.length
  run : ∀ (A : Around) (outer : List Env) (s : Shared) (H : Hp) (us : List Value) (vs : List V) (f : Addr) (cl : List (Str × Addr)) (c' : Addr) (ws : List V) (Q : VK) (E : XK), Room k A → Env0 P w K mg base A outer s H → Clo H f st nm qual fr ws cl c' → Vals vs us → sp ws vs H Q E →
    codeAny (model P w) A (.call (.ref f) ⟨us, []⟩) (CR CX0 outer P w H s Q E) s
theorem clo_mem {H : Hp} {f : Addr} {st : Stmt} {nm qual : Str} {fr : List Str} {ws : List V} {cl : List (Str × Addr)} {c' : Addr} (C : Clo H f st nm qual fr ws cl c') {b : Addr} (m : b ∈ cl.map (·.2)) : ∃ v, H b = some (cellO b v) := by
  obtain ⟨p, hp, rfl⟩ := List.mem_map.mp m
  exact C.cells p.1 p.2 hp
theorem cok_of {k : Nat} {st : Stmt} {nm qual : Str} {N ps fr : List Str} {sp : List V → Sp} (S : NScope N ps fr (C8.fnScope st))
    (hb : ∀ (cl : List (Str × Addr)) (c' : Addr) (doc pm ctv : Value) (us : List Value), us.length = ps.length → bindArgs ((NF.of st nm qual cl c').fd doc pm ctv) ⟨us, []⟩ = pure (ps.zip us)) (len : ∀ ws vs H Q E, sp ws vs H Q E → vs.length = ps.length)
    (hbody : ∀ (A : Around) (outer : List Env) (s : Shared) (f : Addr) (cl : List (Str × Addr)) (c' : Addr) (H H0 : Hp) (vs : List V) (ws : List V) (Q Q0 : VK) (E : XK), Room k (A.deeper (envF (NF.of st nm qual cl c') f s.heap.objs.size)) → sp ws vs H Q E → ws.length = fr.length →
      (∀ b o, H b = some o → Low o → H0 b = some o) → (∀ (v : V) (M : List Addr) (H2 : Hp), Stp M H0 H2 → (∀ H', Stp M H H' → (∀ b o, H2 b = some o → H' b = some o) → Q v H') → Q0 v H2) →
      ∃ t, PSs (ncx CX0 P w K mg base N (NF.of st nm qual cl c') f A outer s H0 E) (C8.fnBody st) t ∧ t { nx := fun _ H' => Q0 .non H', rt := Q0 } (startF N vs (ws.map some)) H0) :
    COk P w K mg base CX (k + 1) st nm qual ps fr sp := by
  refine ⟨len, fun A outer s H us vs f cl c' ws Q E hr e0 C r hsp => ?_⟩
  have cellN : ∀ b, b ∈ cl.map (·.2) → ∃ v, H b = some (cellO b v) := fun b m => clo_mem C m
  have lo : ∀ b o, H b = some o → (∀ v, o ≠ cellO b v) → untrack cl H b = some o := fun b o e n => by
    rw [untrack_out fun m => ?_]
    · exact e
    · obtain ⟨v, hv⟩ := cellN b m
      rw [e] at hv
      exact n v (Option.some.inj hv)
  have nf : untrack cl H f = some (FnO f (NF.of st nm qual cl c')) := by
    have ho := fnO_at e0.hok C.fn
    rw [untrack_out fun m => ?_]
    · exact C.fn
    · obtain ⟨v, hv⟩ := cellN f m
      obtain ⟨u, _, o, h1, h2⟩ := cellO_at e0.hok hv
      obtain ⟨od, sl, doc, pm, ctv, h3⟩ := ho
      rw [h1] at h3
      cases h3
      cases h2
  have nc : untrack cl H c' = some (CodeO c' qual) := by
    have ho := codeO_at e0.hok C.code
    rw [untrack_out fun m => ?_]
    · exact C.code
    · obtain ⟨v, hv⟩ := cellN c' m
      obtain ⟨u, _, o, h1, h2⟩ := cellO_at e0.hok hv
      obtain ⟨c2, oc, vs2, t, e1, h3, h4, _⟩ := ho
      cases e1
      rw [h1] at h3
      cases h3
      rw [h2] at h4
      cases h4
  have hok0 : HOk P w (untrack cl H) s.heap := fun b o e => by
    obtain ⟨m, e⟩ := untrack_some e
    refine (e0.hok b o e).stay (fun _ _ _ z => z) (fun d z => lo d _ z fun v q => ?_) fun d xs z => lo d _ z fun v q => ?_
    · cases q
    · cases q
  have env0 : Env0 P w K mg base A outer s (untrack cl H) := ⟨e0.frames, e0.mod, fun b o e => ⟨(e0.bs b o e).1, by
      unfold untrack
      split
      · rfl
      · exact (e0.bs b o e).2⟩, e0.bsz, e0.funs, fun b hb => by
      unfold untrack
      split
      · rfl
      · exact e0.frf b hb, hok0, e0.bare⟩
  have cells : CellsAt cl fr (ws.map some) s.heap (untrack cl H) := by
    refine ⟨by rw [List.length_map]; exact C.len, fun y a e => ?_, C.inj, fun i y e => ?_⟩
    · have m : a ∈ cl.map (·.2) := List.mem_map.mpr ⟨(y, a), PySem.mem_of_lookup e, rfl⟩
      obtain ⟨v, hv⟩ := cellN a m
      obtain ⟨u, _, z⟩ := cellO_at e0.hok hv
      exact ⟨untrack_in m, _, z⟩
    · obtain ⟨a, v, h1, h2, h3⟩ := C.has i y e
      refine ⟨a, h1, fun v' e' => ?_⟩
      rw [List.getElem?_map, h2] at e'
      cases e'
      exact cellO_at e0.hok h3
  let Q0 : VK := fun v H2 => (∀ b ∈ cl.map (·.2), H2 b = none) → Q v (retrack cl H H2)
  have nok : NOk P w K mg base CX0 (k + 1) f (NF.of st nm qual cl c') ps fr (fun ws' vs' H' Q' E' => ws' = ws.map some ∧ vs' = vs ∧ H' = untrack cl H ∧ Q' = Q0 ∧ E' = E) := by
    refine nok_of S (hb cl c') (fun _ _ _ _ _ h => by obtain ⟨_, rfl, _⟩ := h; exact len _ _ _ _ _ hsp) fun A1 outer1 s1 H1 vs1 ws1 Q1 E1 hr1 hf hc hl h => ?_
    obtain ⟨rfl, rfl, rfl, rfl, rfl⟩ := h
    refine hbody A1 outer1 s1 f cl c' H _ vs1 ws Q Q0 E1 hr1 hsp C.len (fun b o e n => lo b o e fun v q => ?_) fun v M H2 st2 hq hc2 => ?_
    · subst q; exact n
    · refine hq _ ⟨fun b o e n => ?_, fun b e => ?_⟩ fun b o e => retrack_some e
      · by_cases m : b ∈ cl.map (·.2)
        · rw [retrack_cell (hc2 b m) m]; exact e
        · exact retrack_some (st2.same b o (by rw [untrack_out m]; exact e) n)
      · by_cases m : b ∈ cl.map (·.2)
        · rw [retrack_cell (hc2 b m) m] at e; exact e
        · rw [retrack_out m] at e
          have := st2.dom b e
          rw [untrack_out m] at this
          exact this
  refine codeAny_mono (nok.run A outer s _ us vs _ Q0 E hr env0 nf nc cells r ⟨rfl, rfl, rfl, rfl, rfl⟩) fun rr s' hq => ?_
  cases rr with
  | error e => exact hq
  | ok fl =>
    cases fl with
    | next => exact hq
    | brk => exact hq
    | cont => exact hq
    | ret u =>
      obtain ⟨v, H2, os, bare, un, hok2, rv, q⟩ := hq
      have cellAt : ∀ b, b ∈ cl.map (·.2) → ∃ v u o, H b = some (cellO b v) ∧ L2.RelV v u ∧ s.heap.get? b = some o ∧ o.data = .cell (some u) ∧ untrack cl H b = none := fun b m => by
        obtain ⟨v, hv⟩ := cellN b m
        obtain ⟨u, h1, o, h2, h3⟩ := cellO_at e0.hok hv
        exact ⟨v, u, o, hv, h1, h2, h3, untrack_in m⟩
      have free2 : ∀ b ∈ cl.map (·.2), H2 b = none := fun b m => by
        obtain ⟨v, u, o, h1, h2, h3, h4, h5⟩ := cellAt b m
        exact un.free b o h3 h5 (by simp)
      refine ⟨v, retrack cl H H2, os, bare, ?_, ?_, rv, q free2⟩
      · have un0 : ∀ b, H b = none → untrack cl H b = none := fun b e => by
          unfold untrack
          split
          · rfl
          · exact e
        refine ⟨fun b o e n hb hx => un.keep b o e (un0 b n) hb hx, fun b o e n hb hx => un.slot b o e (un0 b n) hb hx, fun b o e n hx => ?_, un.there, fun b xs e => ?_, fun b o xs e => ?_, fun b xs e => ?_⟩
        · have m : b ∉ cl.map (·.2) := fun m => by
            obtain ⟨v, hv⟩ := cellN b m
            rw [n] at hv; cases hv
          rw [retrack_out m]
          exact un.free b o e (un0 b n) hx
        · exact retrack_some (un.tups b xs (lo b _ e fun v q => by cases q))
        · exact retrack_some (un.frzs b o xs (lo b _ e fun v q => by cases q))
        · obtain ⟨more, h2⟩ := un.tbls b xs (lo b _ e fun v q => by cases q)
          exact ⟨more, retrack_some h2⟩
      · intro b o e
        cases q2 : H2 b with
        | some u2 =>
          rw [retrack_some q2] at e
          cases e
          exact (hok2 b o q2).stay (fun _ _ _ z => z) (fun d z => retrack_some z) fun d xs z => retrack_some z
        | none =>
          by_cases m : b ∈ cl.map (·.2)
          · rw [retrack_cell q2 m] at e
            obtain ⟨v, u, o1, h1, h2, h3, h4, h5⟩ := cellAt b m
            rw [h1] at e
            cases e
            obtain ⟨sl, h6⟩ := un.any h3 h5 (by simp)
            exact cellO_ok h2 ⟨_, h6, h4⟩
          · rw [retrack_out m, q2] at e; cases e

/-- functions that a name may hold, by what they promise -/
structure TelOk (P : Program) (w : World) (K : PySem.W.Frag) (mg : Str → Option Value) (base : Heap) (k : Nat) (at_ : Addr → Hp → Prop) (sp : Addr → Sp) : Prop where
  fn : ∀ (H : Hp) (h : Heap) (f : Addr), HOk P w H h → at_ f H → PySem.W.FnAt f h
  ok : ∀ f vs H Q E, sp f vs H Q E → at_ f H
  run : ∀ (A : Around) (outer : List Env) (s : Shared) (H : Hp) (us : List Value) (vs : List V) (f : Addr) (Q : VK) (E : XK), Room k A → Env0 P w K mg base A outer s H → Vals vs us → sp f vs H Q E →
    codeAny (model P w) A (.call (.ref f) ⟨us, []⟩) (CR CX0 outer P w H s Q E) s
theorem COk.tel {k : Nat} {st : Stmt} {nm qual : Str} {ps fr : List Str} {sp : List V → Sp} (c : COk P w K mg base CX k st nm qual ps fr sp) :
    TelOk P w K mg base k (fun f H => ∃ ws cl c', Clo H f st nm qual fr ws cl c') (fun f vs H Q E => ∃ ws cl c', Clo H f st nm qual fr ws cl c' ∧ sp ws vs H Q E) := by
  refine ⟨fun H h f hok ⟨ws, cl, c', C⟩ => ?_, fun f vs H Q E ⟨ws, cl, c', C, _⟩ => ⟨ws, cl, c', C⟩, fun A outer s H us vs f Q E hr e0 r ⟨ws, cl, c', C, q⟩ => c.run A outer s H us vs f cl c' ws Q E hr e0 C r q⟩
  obtain ⟨od, sl, doc, pm, ctv, ho⟩ := fnO_at hok C.fn
  exact ⟨_, od, _, sl, ho⟩
theorem TelOk.or {k : Nat} {a1 a2 : Addr → Hp → Prop} {s1 s2 : Addr → Sp} (t1 : TelOk P w K mg base k a1 s1) (t2 : TelOk P w K mg base k a2 s2) :
    TelOk P w K mg base k (fun f H => a1 f H ∨ a2 f H) (fun f vs H Q E => s1 f vs H Q E ∨ s2 f vs H Q E) :=
  ⟨fun H h f hok a => a.elim (t1.fn H h f hok) (t2.fn H h f hok), fun f vs H Q E q => q.imp (t1.ok f vs H Q E) (t2.ok f vs H Q E), fun A outer s H us vs f Q E hr e0 r q => q.elim (t1.run A outer s H us vs f Q E hr e0 r) (t2.run A outer s H us vs f Q E hr e0 r)⟩
end
/-- f(..), f a local name -/
def tTel (i : Nat) (at_ : Addr → Hp → Prop) (sp : Addr → Sp) (t : TA) : TE := fun σ H Q => ∃ f, σ[i]? = some (some (.ref f)) ∧ at_ f H ∧ t σ H fun vs H1 => sp f vs H1 Q (fun _ _ _ => False)
section
variable {X : Cx} {k j i : Nat} {at_ : Addr → Hp → Prop} {sp : Addr → Sp} {t : TA} {x : Str} {e : Expr} {es : List Expr} {p pos : Pos}
theorem pe_callTel (c : TelOk X.prog X.w X.K X.mg X.base j at_ sp) (hr : Room k X.A) (hN : X.N[i]? = some x) (hv : Vis X.env.scope x) (ha : PA X (e :: es) t) (hk : j ≤ k := by decide)
    (hd : (x == ("__debug__" : Str)) = false := by decide) (hcd : (x == ("__classdict__" : Str)) = false := by decide)
    (he : starEach (e :: es) X.env = (false, eval e X.env) :: starEach es X.env := by rfl) (hpl : (backTo pos (starEach es X.env)).any (·.1) = false := by rfl) :
    PE X (.Call (.Name x p) (e :: es) [] pos) (tTel i at_ sp t) := by
  refine ⟨fun pins s σ H Q I h => ?_⟩
  obtain ⟨f, hs, hf, ht⟩ := h
  refine wpAny_Call_Name_kw (thn ((pe_var (pos := p) hN hv hd hcd).run pins s σ H (fun v H1 => v = .ref f ∧ H1 = H) I ⟨.ref f, hs, rfl, rfl⟩) fun u s1 ⟨v, H1, I1, r1, q1⟩ => ?_)
  obtain ⟨ev, eH⟩ := q1
  subst ev
  subst eH
  obtain rfl : u = Value.ref f := r1
  refine PySem.W.callWith_F (first := []) (c.fn H1 s1.heap f I1.hok hf) (thn (ha.run pos pins s1 σ H1 _ I1 ht) fun us s2 ⟨vs, H2, I2, r, q⟩ => ⟨c.fn H2 s2.heap f I2.hok (c.ok f vs H2 _ _ q), ?_⟩) he hpl
  show wpAny _ _ (call (.ref f) us) _ _ _
  refine wpAny_call (codeAny_mono (c.run X.A X.stack s2 H2 us vs f Q _ (hr.mono hk) I2.env0 r q) fun r s' hq => ?_)
  cases r with
  | error e => exact hq.elim
  | ok fl =>
    cases fl with
    | ret u => exact I2.after hq
    | next => exact False.elim hq
    | brk => exact False.elim hq
    | cont => exact False.elim hq
theorem r_tel {σ : L2.St} {H : Hp} {Q : VK} {f : Addr} (hs : σ[i]? = some (some (.ref f))) (h : at_ f H) (k : t σ H fun vs H1 => sp f vs H1 Q (fun _ _ _ => False)) : tTel i at_ sp t σ H Q := ⟨f, hs, h, k⟩
end
end SH

set_option Elab.async false
set_option linter.all false
set_option maxRecDepth 100000
set_option maxHeartbeats 4000000
/-! SHE: data, and what == tells of it -/
namespace SH
open PySem PySem.Spec PyProof.Rows L2

/-- Lean values that stand in the heap as data; n: how deep -/
class Enc (α : Type) where
  dec : DecidableEq α
  d : α → PyData
  n : Nat
  lay : ∀ x, (d x).canLay0 = true
  deep : ∀ x, (d x).depth ≤ n
  eqv : ∀ x y, PyData.eqv (d x) (d y) = @decide (x = y) (dec x y)
/-- a tuple of one kind of things -/
structure Tu (α : Type) where
  l : List α
theorem Enc.deepAll {α : Type} [Enc α] : ∀ xs : List α, PyData.depthAll (xs.map Enc.d) ≤ Enc.n α
  | [] => by simp [PyData.depthAll]
  | x :: xs => by
    have h1 := Enc.deep x
    have h2 := Enc.deepAll xs
    simp only [List.map_cons, PyData.depthAll]
    omega
theorem Enc.layAll {α : Type} [Enc α] : ∀ xs : List α, PyData.canLayAll0 (xs.map Enc.d) = true
  | [] => by simp [PyData.canLayAll0]
  | x :: xs => by simp only [List.map_cons, PyData.canLayAll0, Enc.lay x, Enc.layAll xs, Bool.and_self]
theorem Enc.eqvAll {α : Type} [Enc α] : ∀ xs ys : List α, PyData.eqvAll (xs.map Enc.d) (ys.map Enc.d) = @decide (xs = ys) (@instDecidableEqList α Enc.dec xs ys)
  | [], [] => by simp [PyData.eqvAll]
  | x :: xs, [] => by simp [PyData.eqvAll]
  | [], y :: ys => by simp [PyData.eqvAll]
  | x :: xs, y :: ys => by
    rw [List.map_cons, List.map_cons, show PyData.eqvAll (Enc.d x :: xs.map Enc.d) (Enc.d y :: ys.map Enc.d) = (PyData.eqv (Enc.d x) (Enc.d y) && PyData.eqvAll (xs.map Enc.d) (ys.map Enc.d)) by simp only [PyData.eqvAll], Enc.eqv, Enc.eqvAll xs ys]
    have : ∀ (A B C : Prop) (a : Decidable A) (b : Decidable B) (c : Decidable C), (C ↔ A ∧ B) → (@decide A a && @decide B b) = @decide C c := by
      intro A B C a b c h
      by_cases ha : A <;> by_cases hb : B <;> simp [ha, hb, h]
    exact this _ _ _ _ _ _ (by simp)
instance : Enc Int := ⟨inferInstance, .int, 0, fun _ => by simp [PyData.canLay0], fun _ => by simp [PyData.depth], fun x y => by by_cases h : x = y <;> simp [PyData.eqv, h]⟩
instance : Enc Bool := ⟨inferInstance, .bool, 0, fun _ => by simp [PyData.canLay0], fun _ => by simp [PyData.depth], fun x y => by by_cases h : x = y <;> simp [PyData.eqv, h]⟩
instance : Enc Nat := ⟨inferInstance, fun n => .int n, 0, fun _ => by simp [PyData.canLay0], fun _ => by simp [PyData.depth], fun x y => by
  rw [show PyData.eqv (.int (x : Int)) (.int (y : Int)) = ((x : Int) == (y : Int)) by simp only [PyData.eqv]]
  by_cases h : x = y
  · subst h; simp
  · rw [decide_eq_false h]
    exact beq_eq_false_iff_ne.mpr (by omega)⟩
instance {α : Type} [e : Enc α] : Enc (List α) := ⟨@instDecidableEqList α e.dec, fun xs => .list (xs.map Enc.d), Enc.n α + 1, fun xs => by simp only [PyData.canLay0]; exact Enc.layAll xs,
  fun xs => by simp only [PyData.depth]; exact Nat.succ_le_succ (Enc.deepAll xs), fun xs ys => by simp only [PyData.eqv]; exact Enc.eqvAll xs ys⟩
instance {α : Type} [e : Enc α] : Enc (Tu α) := ⟨fun a b => @decidable_of_iff _ (a.l = b.l) (by cases a; cases b; simp) (@instDecidableEqList α e.dec a.l b.l), fun xs => .tuple (xs.l.map Enc.d), Enc.n α + 1, fun xs => by simp only [PyData.canLay0]; exact Enc.layAll xs.l,
  fun xs => by simp only [PyData.depth]; exact Nat.succ_le_succ (Enc.deepAll xs.l), fun xs ys => by
    simp only [PyData.eqv]
    rw [Enc.eqvAll xs.l ys.l]
    cases xs; cases ys
    simp⟩
instance {α β : Type} [e : Enc α] [f : Enc β] : Enc (α × β) := ⟨@instDecidableEqProd α β e.dec f.dec, fun x => .tuple [Enc.d x.1, Enc.d x.2], max (Enc.n α) (Enc.n β) + 1,
  fun x => by simp only [PyData.canLay0, PyData.canLayAll0, Enc.lay]; rfl,
  fun x => by
    have h1 := Enc.deep x.1
    have h2 := Enc.deep x.2
    simp only [PyData.depth, PyData.depthAll]; omega, fun x y => by
    simp only [PyData.eqv, PyData.eqvAll, Enc.eqv, Bool.and_true]
    obtain ⟨a, b⟩ := x
    obtain ⟨c, d⟩ := y
    by_cases ha : a = c <;> by_cases hb : b = d <;> simp [ha, hb]⟩
/-- three in a tuple -/
structure T3 (α β γ : Type) where
  a : α
  b : β
  c : γ
deriving DecidableEq
instance {α β γ : Type} [e : Enc α] [f : Enc β] [g : Enc γ] : Enc (T3 α β γ) := ⟨@instDecidableEqT3 α β γ e.dec f.dec g.dec, fun x => .tuple [Enc.d x.a, Enc.d x.b, Enc.d x.c], max (Enc.n α) (max (Enc.n β) (Enc.n γ)) + 1,
  fun x => by simp only [PyData.canLay0, PyData.canLayAll0, Enc.lay]; rfl,
  fun x => by
    have h1 := Enc.deep x.a
    have h2 := Enc.deep x.b
    have h3 := Enc.deep x.c
    simp only [PyData.depth, PyData.depthAll]; omega, fun x y => by
    simp only [PyData.eqv, PyData.eqvAll, Enc.eqv, Bool.and_true]
    obtain ⟨a, b, c⟩ := x
    obtain ⟨a', b', c'⟩ := y
    by_cases ha : a = a' <;> by_cases hb : b = b' <;> by_cases hc : c = c' <;> simp [ha, hb, hc]⟩

/-- a text of plain signs -/
abbrev SOk := { s : Str // PyData.canLay0 (.str s) = true }
instance : Enc SOk := ⟨inferInstance, fun s => .str s.1, 0, fun s => s.2, fun _ => by simp [PyData.depth], fun x y => by
  rw [show PyData.eqv (.str x.1) (.str y.1) = (x.1 == y.1) by simp only [PyData.eqv]]
  by_cases h : x = y
  · subst h; simp
  · rw [decide_eq_false h]
    exact beq_eq_false_iff_ne.mpr fun z => h (Subtype.ext z)⟩

mutual
theorem dp_stp {K : PySem.W.Frag} {H H' : Hp} (S : Stp [] H H') : ∀ (d : PyData) (v : V), Dp K H v d → Dp K H' v d
  | .none, _, h => by cases h; exact .non
  | .bool _, _, h => by cases h; exact .bl _
  | .int _, _, h => by cases h; exact .int _
  | .str _, _, h => by cases h; exact .str _
  | .list ds, _, h => by
    cases h with
    | lst hs ha => exact .lst (S.sql0 hs) (dp_stpAll S ds _ ha)
  | .tuple ds, _, h => by
    cases h with
    | tup hs ha => exact .tup (S.sqt0 hs) (dp_stpAll S ds _ ha)
  | .dict _, _, h => by cases h
theorem dp_stpAll {K : PySem.W.Frag} {H H' : Hp} (S : Stp [] H H') : ∀ (ds : List PyData) (vs : List V), DpAll K H vs ds → DpAll K H' vs ds
  | [], _, h => by cases h; exact .nil
  | d :: ds, _, h => by
    cases h with
    | cons h1 h2 => exact .cons (dp_stp S d _ h1) (dp_stpAll S ds _ h2)
end

mutual
/-- no list in it -/
def noL : PyData → Bool
  | .none | .bool _ | .int _ | .str _ => true
  | .tuple xs => noLs xs
  | .list _ => false
  | .dict _ => false
def noLs : List PyData → Bool
  | [] => true
  | x :: xs => noL x && noLs xs
end
mutual
theorem dp_stpM {K : PySem.W.Frag} {M : List Addr} {H H' : Hp} (S : Stp M H H') : ∀ (d : PyData) (v : V), noL d = true → Dp K H v d → Dp K H' v d
  | .none, _, _, h => by cases h; exact .non
  | .bool _, _, _, h => by cases h; exact .bl _
  | .int _, _, _, h => by cases h; exact .int _
  | .str _, _, _, h => by cases h; exact .str _
  | .list _, _, n, _ => by simp [noL] at n
  | .tuple ds, _, n, h => by
    cases h with
    | tup hs ha => exact .tup (S.sqtM hs) (dp_stpMs S ds _ (by simpa [noL] using n) ha)
  | .dict _, _, _, h => by cases h
theorem dp_stpMs {K : PySem.W.Frag} {M : List Addr} {H H' : Hp} (S : Stp M H H') : ∀ (ds : List PyData) (vs : List V), noLs ds = true → DpAll K H vs ds → DpAll K H' vs ds
  | [], _, _, h => by cases h; exact .nil
  | d :: ds, _, n, h => by
    have n' : noL d = true ∧ noLs ds = true := by simpa [noLs] using n
    cases h with
    | cons h1 h2 => exact .cons (dp_stpM S d _ n'.1 h1) (dp_stpMs S ds _ n'.2 h2)
end
class Flat (α : Type) [Enc α] : Prop where
  fl : ∀ x : α, noL (Enc.d x) = true
instance : Flat Int := ⟨fun _ => by simp [Enc.d, noL]⟩
instance : Flat Nat := ⟨fun _ => by simp [Enc.d, noL]⟩
instance : Flat Bool := ⟨fun _ => by simp [Enc.d, noL]⟩
instance : Flat SOk := ⟨fun _ => by simp [Enc.d, noL]⟩
instance {α β : Type} [Enc α] [Enc β] [Flat α] [Flat β] : Flat (α × β) := ⟨fun x => by simp only [Enc.d, noL, noLs, Flat.fl]; rfl⟩
instance {α β γ : Type} [Enc α] [Enc β] [Enc γ] [Flat α] [Flat β] [Flat γ] : Flat (T3 α β γ) := ⟨fun x => by simp only [Enc.d, noL, noLs, Flat.fl]; rfl⟩
theorem noLs_map {α : Type} [Enc α] [Flat α] : ∀ xs : List α, noLs (xs.map Enc.d) = true
  | [] => by simp [noLs]
  | x :: xs => by simp only [List.map_cons, noLs, Flat.fl, noLs_map xs, Bool.and_self]
instance {α : Type} [Enc α] [Flat α] : Flat (Tu α) := ⟨fun x => by simp only [Enc.d, noL]; exact noLs_map x.l⟩

/-- v is x, in the heap H -/
def Is {α : Type} [Enc α] (K : PySem.W.Frag) (H : Hp) (v : V) (x : α) : Prop := Dp K H v (Enc.d x)
def IsL {α : Type} [Enc α] (K : PySem.W.Frag) (H : Hp) (vs : List V) (xs : List α) : Prop := DpAll K H vs (xs.map Enc.d)
section
variable {K : PySem.W.Frag} {H H' : Hp} {α β γ : Type} [Enc α] [Enc β] [Enc γ] {p : Addr} {vs : List V} {xs : List α} {v u t : V} {x y : α} {b : β} {c : γ} {Q : VK}
theorem is_int {n : Int} : Is K H (.int n) n := .int n
theorem is_nat {n : Nat} : Is K H (.int n) n := .int n
theorem is_str {s : Str} (h : PyData.canLay0 (.str s) = true) : Is K H (.str s) (⟨s, h⟩ : SOk) := .str s
theorem is_stp (S : Stp [] H H') (h : Is K H v x) : Is K H' v x := dp_stp S _ _ h
theorem isl_stp (S : Stp [] H H') (h : IsL K H vs xs) : IsL K H' vs xs := dp_stpAll S _ _ h
theorem is_stpM [Flat α] {M : List Addr} (S : Stp M H H') (h : Is K H v x) : Is K H' v x := dp_stpM S _ _ (Flat.fl x) h
theorem isl_stpM [Flat α] {M : List Addr} (S : Stp M H H') (h : IsL K H vs xs) : IsL K H' vs xs := dp_stpMs S _ _ (noLs_map xs) h
theorem is_bl {b : Bool} : Is K H (.bl b) b := .bl b
theorem is_lst (h : SqL K H p vs) (k : IsL K H vs xs) : Is K H (.ref p) xs := .lst h k
theorem is_tu (h : SqT K H p vs) (k : IsL K H vs xs) : Is K H (.ref p) (Tu.mk xs) := .tup h k
theorem is_pr (h : SqT K H p [v, u]) (k : Is K H v x) (l : Is K H u b) : Is K H (.ref p) (x, b) := .tup h (.cons k (.cons l .nil))
theorem is_t3 (h : SqT K H p [v, u, t]) (k : Is K H v x) (l : Is K H u b) (m : Is K H t c) : Is K H (.ref p) (T3.mk x b c) := .tup h (.cons k (.cons l (.cons m .nil)))
theorem isl_nil : IsL K H [] ([] : List α) := .nil
theorem isl_cons (h : Is K H v x) (k : IsL K H vs xs) : IsL K H (v :: vs) (x :: xs) := .cons h k
theorem isl_map {f : α → V} (h : ∀ x ∈ xs, Is K H (f x) x) : IsL K H (xs.map f) xs := by
  induction xs with
  | nil => exact .nil
  | cons x xs ih => exact .cons (h x (by simp)) (ih fun y hy => h y (by simp [hy]))
theorem isl_map2 {β : Type} {l : List β} {f : β → V} {g : β → α} (h : ∀ b ∈ l, Is K H (f b) (g b)) : IsL K H (l.map f) (l.map g) := by
  induction l with
  | nil => exact .nil
  | cons x xs ih => exact .cons (h x (by simp)) (ih fun y hy => h y (by simp [hy]))
theorem isl_ints {ns : List Int} : IsL K H (ns.map V.int) ns := isl_map fun _ _ => is_int
theorem isl_nats {ns : List Nat} : IsL K H (ns.map fun n : Nat => V.int n) ns := isl_map fun _ _ => is_nat
theorem isl_bls {ns : List Bool} : IsL K H (ns.map V.bl) ns := isl_map fun _ _ => is_bl
theorem isl_app {vs' : List V} {xs' : List α} (h : IsL K H vs xs) (k : IsL K H vs' xs') : IsL K H (vs ++ vs') (xs ++ xs') := by
  induction vs generalizing xs with
  | nil => cases xs with
    | nil => exact k
    | cons x xs => cases h
  | cons v vs ih => cases xs with
    | nil => cases h
    | cons x xs => cases h with | cons h1 h2 => exact .cons h1 (ih (xs := xs) h2)
theorem isl_len (h : IsL K H vs xs) : vs.length = xs.length := by
  induction vs generalizing xs with
  | nil => cases xs with
    | nil => rfl
    | cons x xs => cases h
  | cons v vs ih => cases xs with
    | nil => cases h
    | cons x xs => cases h with | cons h1 h2 => simp [ih (xs := xs) h2]
theorem isl_at {i : Nat} {v : V} (h : IsL K H vs xs) (e : vs[i]? = some v) : ∃ x, xs[i]? = some x ∧ Is K H v x := by
  induction vs generalizing xs i with
  | nil => cases e
  | cons w vs ih => cases xs with
    | nil => cases h
    | cons x xs => cases h with | cons h1 h2 => cases i with
      | zero => cases e; exact ⟨x, rfl, h1⟩
      | succ i => exact ih (xs := xs) h2 e
theorem isl_get {i : Nat} {x : α} (h : IsL K H vs xs) (e : xs[i]? = some x) : ∃ v, vs[i]? = some v ∧ Is K H v x := by
  induction vs generalizing xs i with
  | nil => cases xs with
    | nil => cases e
    | cons x xs => cases h
  | cons w vs ih => cases xs with
    | nil => cases h
    | cons y xs => cases h with | cons h1 h2 => cases i with
      | zero => cases e; exact ⟨w, rfl, h1⟩
      | succ i => exact ih (xs := xs) h2 e
theorem is_shaped (hn : Enc.n α ≤ 64) : SeqAt.shaped (Enc.d x) = true := by
  unfold SeqAt.shaped
  rw [Enc.lay]
  exact decide_eq_true (Nat.le_trans (Enc.deep x) hn)
theorem v_eqE (h1 : Is K H v x) (h2 : Is K H u y) (k : Q (.bl (@decide (x = y) (Enc.dec x y))) H) (hn : Enc.n α ≤ 64 := by decide) : aEq K v u H Q :=
  v_eqD h1 h2 (is_shaped hn) (is_shaped hn) (by rw [Enc.eqv]; exact k)
theorem v_neE (h1 : Is K H v x) (h2 : Is K H u y) (k : Q (.bl (!@decide (x = y) (Enc.dec x y))) H) (hn : Enc.n α ≤ 64 := by decide) : aNe K v u H Q :=
  v_neD h1 h2 (is_shaped hn) (is_shaped hn) (by rw [Enc.eqv]; exact k)
theorem v_eqL {ns ms : List Int} {q : Addr} (h1 : SqL K H p (ns.map V.int)) (h2 : SqL K H q (ms.map V.int)) (k : Q (.bl (decide (ns = ms))) H) : aEq K (.ref p) (.ref q) H Q :=
  v_eqE (is_lst h1 isl_ints) (is_lst h2 isl_ints) (by rw [show @decide (ns = ms) (Enc.dec ns ms) = decide (ns = ms) by congr]; exact k)
theorem v_neL {ns ms : List Int} {q : Addr} (h1 : SqL K H p (ns.map V.int)) (h2 : SqL K H q (ms.map V.int)) (k : Q (.bl (!decide (ns = ms))) H) : aNe K (.ref p) (.ref q) H Q :=
  v_neE (is_lst h1 isl_ints) (is_lst h2 isl_ints) (by rw [show @decide (ns = ms) (Enc.dec ns ms) = decide (ns = ms) by congr]; exact k)
theorem v_neL0 {ns : List Int} {q : Addr} (h1 : SqL K H p (ns.map V.int)) (h2 : SqL K H q []) (k : Q (.bl (!decide (ns = []))) H) : aNe K (.ref p) (.ref q) H Q := v_neL (ms := []) h1 h2 k
theorem v_ixLast {ys : List V} (h : SqL K H p (ys ++ [v])) (k : Q v H) : aIx K (.ref p) (.int (-1)) H Q := ⟨_, v, .inl h, atI_last ys v, k⟩
theorem v_neN0 {ns : List Nat} {q : Addr} (h1 : SqL K H p (ns.map fun n : Nat => V.int n)) (h2 : SqL K H q []) (k : Q (.bl (!decide (ns = []))) H) : aNe K (.ref p) (.ref q) H Q :=
  v_neE (y := []) (is_lst h1 isl_nats) (is_lst h2 isl_nil) (by rw [show @decide (ns = []) (Enc.dec ns []) = decide (ns = []) by congr]; exact k)
theorem v_ixMod {vs : List V} {c : Int} {m : Nat} (h : SqL K H p vs) (hl : vs.length = m) (hm : 0 < m) (k : ∀ v ∈ vs, Q v H) : aIx K (.ref p) (.int (c % (m : Int))) H Q := by
  have h0 := Int.emod_nonneg c (show (m : Int) ≠ 0 by omega)
  have h1 := Int.emod_lt_of_pos c (show (0 : Int) < m by omega)
  have e : c % (m : Int) = ((c % (m : Int)).toNat : Int) := by omega
  have hlt : (c % (m : Int)).toNat < vs.length := by omega
  exact v_ixLn h e (List.getElem?_eq_getElem hlt) (k _ (List.getElem_mem hlt))
theorem v_ixAny {vs : List V} {i : Int} {n : Nat} (h : SqL K H p vs) (e : i = n) (hn : n < vs.length) (k : ∀ v ∈ vs, Q v H) : aIx K (.ref p) (.int i) H Q := v_ixLn h e (List.getElem?_eq_getElem hn) (k _ (List.getElem_mem hn))
/-- all are ints -/
def Ints (vs : List V) : Prop := ∀ v ∈ vs, ∃ n : Int, v = .int n
theorem ints_nil : Ints [] := fun _ h => by cases h
theorem ints_cons {n : Int} {vs : List V} (h : Ints vs) : Ints (.int n :: vs) := fun v hv => by
  rcases List.mem_cons.mp hv with rfl | hv
  · exact ⟨n, rfl⟩
  · exact h v hv
/-- a place of a list of ints -/
def getE (es : List Int) (i : Nat) : Int := es.getD i 0
theorem getE_at {es : List Int} {i : Nat} (h : i < es.length) : (es.map V.int)[i]? = some (V.int (getE es i)) := by simp [getE, h]
theorem getE_app {es : List Int} {i : Nat} {y : Int} (h : i < es.length) : getE (es ++ [y]) i = getE es i := by simp [getE, List.getElem?_append, h]
theorem getE_last {es : List Int} {i : Nat} {y : Int} (h : es.length = i) : getE (es ++ [y]) i = y := by subst h; simp [getE]
theorem v_ixE {es : List Int} {i : Int} {n : Nat} (h : SqL K H p (es.map V.int)) (e : i = n) (hn : n < es.length) (k : Q (.int (getE es n)) H) : aIx K (.ref p) (.int i) H Q := v_ixLn h e (getE_at hn) k
theorem v_ixTE {es : List Int} {i : Int} {n : Nat} (h : SqT K H p (es.map V.int)) (e : i = n) (hn : n < es.length) (k : Q (.int (getE es n)) H) : aIx K (.ref p) (.int i) H Q := v_ixTn h e (getE_at hn) k
theorem v_ixEl {es : List Int} {n : Nat} (h : SqL K H p (es.map V.int)) (e : es.length = n + 1) (k : Q (.int (getE es n)) H) : aIx K (.ref p) (.int (-1)) H Q := by
  rcases List.eq_nil_or_concat es with z | ⟨ys, y, z⟩
  · subst z; cases e
  · have hz : es = ys ++ [y] := by simpa using z
    subst hz
    rw [List.map_append] at h
    have hl : ys.length = n := by simpa using e
    rw [getE_last hl] at k
    exact v_ixLast h k
theorem v_eqLL {ns ms : List Int} {q : Addr} (h1 : SqL K H p (ns.map V.int)) (h2 : SqL K H q (ms.map V.int)) (e : ns = ms) (k : Q (.bl true) H) : aEq K (.ref p) (.ref q) H Q := v_eqL h1 h2 (by rw [decide_eq_true e]; exact k)
theorem v_lenQ {n : Nat} (h : SqL K H p vs) (e : vs.length = n) (k : Q (.int n) H) : aLen K [.ref p] H Q := ⟨_, .inl h, by rw [e]; exact k⟩
theorem v_lenU {n : Nat} (h : SqT K H p vs) (e : vs.length = n) (k : Q (.int n) H) : aLen K [.ref p] H Q := ⟨_, .inr h, by rw [e]; exact k⟩
/-- tuple(xs) -/
theorem v_tuL (h : SqL K H p vs) (k : ∀ l, H l = none → Q (.ref l) (upd H l (.tup vs))) : ∃ p' ys, [V.ref p] = [.ref p'] ∧ ((SqL K H p' ys ∧ ∀ l, H l = none → Q (.ref l) (upd H l (.tup ys))) ∨ (SqT K H p' ys ∧ Q (.ref p') H)) := ⟨p, vs, rfl, .inl ⟨h, k⟩⟩
/-- xs.pop(i) -/
theorem v_popAt {i : Int} {n : Nat} (h : H p = some (.lst vs)) (e : i = n) (hn : n < 1000000) (hv : vs[n]? = some v) (k : Q v (upd H p (.lst (vs.eraseIdx n)))) : rPopAt (.ref p) [.int i] H Q := by
  refine ⟨p, vs, i, n, v, rfl, rfl, h, by omega, by omega, ?_, hv, k⟩
  subst e
  exact (ixN_seq (ixN_n (List.getElem?_eq_some_iff.mp hv).1)).1
/-- sorted(xs), ints -/
theorem v_sortI {ns : List Int} (h : SqL K H p (ns.map V.int)) (k : ∀ (ns' : List Int) (q : Addr), ns'.Perm ns → ns'.Pairwise (· ≤ ·) → H q = none → Q (.ref q) (upd H q (.lst (ns'.map V.int)))) : rSortedI K [.ref p] H Q := ⟨p, ns, rfl, h, k⟩
/-- list(range(n)) -/
def kLrg1 (Q : VK) : VK := fun x H1 => ∃ n : Int, x = .int n ∧ RgOk 0 n ∧ ∀ q, H1 q = none → Q (.ref q) (upd H1 q (.lst (rgV 0 n)))
theorem r_lrg1 {ta : TE} {σ : L2.St} (h : ta σ H (kLrg1 Q)) : tLstRg (tRg1 ta) σ H Q := h
theorem rgV_nat (n : Nat) : rgV 0 (n : Int) = (List.range n).map fun i : Nat => V.int i := by unfold rgV; simp
theorem v_lrg1 {i : Int} {n : Nat} (e : i = n) (hn : n ≤ 1000000) (k : ∀ q, H q = none → Q (.ref q) (upd H q (.lst ((List.range n).map fun i : Nat => V.int i)))) : kLrg1 Q (.int i) H := by
  refine ⟨i, rfl, RgOk.of_le (by omega) (by omega) (by omega) (by omega), ?_⟩
  rw [e, rgV_nat]
  exact k
def kLrg2 (Q : VK) (x : V) : VK := fun y H2 => ∃ i j : Int, x = .int i ∧ y = .int j ∧ RgOk i j ∧ ∀ q, H2 q = none → Q (.ref q) (upd H2 q (.lst (rgV i j)))
theorem r_lrg2 {ta tb : TE} {σ : L2.St} (h : ta σ H fun x H1 => tb σ H1 (kLrg2 Q x)) : tLstRg (tRg2 ta tb) σ H Q := h
theorem rgV_nats (n m : Nat) : rgV (n : Int) (m : Int) = (List.range' n (m - n)).map fun i : Nat => V.int i := by
  unfold rgV
  rw [show ((m : Int) - (n : Int)).toNat = m - n by omega, List.range'_eq_map_range, List.map_map]
  exact List.map_congr_left fun i _ => by simp
theorem v_lrg2 {i j : Int} {n m : Nat} (e : i = n) (e2 : j = m) (hn : n ≤ 1000000) (hm : m ≤ 1000000) (k : ∀ q, H q = none → Q (.ref q) (upd H q (.lst ((List.range' n (m - n)).map fun i : Nat => V.int i)))) : kLrg2 Q (.int i) (.int j) H := by
  refine ⟨i, j, rfl, rfl, RgOk.of_le (by omega) (by omega) (by omega) (by omega), ?_⟩
  rw [e, e2, rgV_nats]
  exact k
end
section
variable {X : Cx} {a b : Expr} {ta tb : TE} {p p2 pos pos2 : Pos}
theorem pe_listrange (hg : Gl X "list") (hm : X.mg "list" = none) (hg2 : Gl X "range") (hm2 : X.mg "range" = none) (ha : PE X a ta) (hc : X.calm = true := by rfl) (na : starEach [a] X.env = (false, eval a X.env) :: starEach [] X.env := by rfl)
    (na2 : starEach [.Call (.Name "range" p2) [a] [] pos2] X.env = (false, eval (.Call (.Name "range" p2) [a] [] pos2) X.env) :: starEach [] X.env := by rfl) : PE X (.Call (.Name "list" p) [.Call (.Name "range" p2) [a] [] pos2] [] pos) (tLstRg (tRg1 ta)) :=
  pe_listRg hc hg hm (prg_1 hg2 hm2 ha na) na2
theorem pe_listrange2 (hg : Gl X "list") (hm : X.mg "list" = none) (hg2 : Gl X "range") (hm2 : X.mg "range" = none) (ha : PE X a ta) (hb : PE X b tb) (hc : X.calm = true := by rfl) (na : starEach [a, b] X.env = (false, eval a X.env) :: starEach [b] X.env := by rfl)
    (nb : starEach [b] X.env = (false, eval b X.env) :: starEach [] X.env := by rfl) (hp : (backTo pos2 (starEach [b] X.env)).any (·.1) = false := by rfl)
    (na2 : starEach [.Call (.Name "range" p2) [a, b] [] pos2] X.env = (false, eval (.Call (.Name "range" p2) [a, b] [] pos2) X.env) :: starEach [] X.env := by rfl) : PE X (.Call (.Name "list" p) [.Call (.Name "range" p2) [a, b] [] pos2] [] pos) (tLstRg (tRg2 ta tb)) :=
  pe_listRg hc hg hm (prg_2 hg2 hm2 ha hb na nb hp) na2
end
section
variable {C : Addr} {m : Str} {sp : Sp} {dvs vs : List V} {E : XK} {ta : TE} {t : TA} {σ : L2.St} {H : Hp} {Q : VK} {a dx : Addr} {fs : List (Str × V)}
def kMeth (C : Addr) (m : Str) (sp : Sp) (dvs : List V) (E : XK) (t : TA) (σ : L2.St) (Q : VK) : VK := fun x H1 => ∃ a dx fs, x = .ref a ∧ H1 a = some (.ins C dx fs) ∧ fs.lookup m = none ∧ t σ H1 fun vs H2 => sp (x :: (vs ++ dvs)) H2 Q E
theorem r_meth (h : ta σ H (kMeth C m sp dvs E t σ Q)) : tMeth C m sp dvs E ta t σ H Q := h
theorem v_meth (h : H a = some (.ins C dx fs)) (l : fs.lookup m = none) (k : t σ H fun vs H2 => sp (.ref a :: (vs ++ dvs)) H2 Q E) : kMeth C m sp dvs E t σ Q (.ref a) H := ⟨a, dx, fs, rfl, h, l, k⟩
def kMake (C : Addr) (sp : Sp) (dvs : List V) (E : XK) (Q : VK) : List V → Hp → Prop := fun vs H1 => ∀ x dx, H1 x = none → H1 dx = none → dx ≠ x → sp (.ref x :: (vs ++ dvs)) (upd (upd H1 dx (.own x)) x (.ins C dx [])) (fun v H2 => v = .non ∧ Q (.ref x) H2) E
theorem r_make (h : t σ H (kMake C sp dvs E Q)) : tMake C sp dvs E t σ H Q := h
theorem v_make (k : ∀ x dx, H x = none → H dx = none → dx ≠ x → sp (.ref x :: (vs ++ dvs)) (upd (upd H dx (.own x)) x (.ins C dx [])) (fun v H2 => v = .non ∧ Q (.ref x) H2) E) : kMake C sp dvs E Q vs H := k
theorem isi_bl_int {K : PySem.W.Frag} {b : Bool} (k : Q (.bl true) H) : rIsi K [.bl b, .ty "int"] H Q := ⟨.bl b, .ty "int", .type "bool", .type "int", true, rfl, .ty _, .base (.bl b), by rfl, k⟩
theorem isi_bl_bool {K : PySem.W.Frag} {b : Bool} (k : Q (.bl true) H) : rIsi K [.bl b, .ty "bool"] H Q := ⟨.bl b, .ty "bool", .type "bool", .type "bool", true, rfl, .ty _, .base (.bl b), by rfl, k⟩
theorem isi_L {K : PySem.W.Frag} {xs : List V} (h : H a = some (.lst xs)) (k : Q (.bl true) H) : rIsi K [.ref a, .ty "list"] H Q := ⟨.ref a, .ty "list", .type "list", .type "list", true, rfl, .ty _, .base (.lst h), by rfl, k⟩
theorem isi_T {K : PySem.W.Frag} {xs : List V} (h : H a = some (.tup xs)) (k : Q (.bl true) H) : rIsi K [.ref a, .ty "tuple"] H Q := ⟨.ref a, .ty "tuple", .type "tuple", .type "tuple", true, rfl, .ty _, .base (.tup h), by rfl, k⟩
end
section
variable {f g : Str} {v x : V} {r r' : List (Str × V)} {a1 a2 a3 a4 a5 a6 : Str × V}
theorem pf_nil : putF f v [] = [(f, v)] := rfl
theorem pf_hit : putF f v ((f, x) :: r) = (f, v) :: r := by simp [putF]
theorem pf_miss (h : g ≠ f) (k : putF f v r = r') : putF f v ((g, x) :: r) = (g, x) :: r' := by simp [putF, h, k]
theorem few0 : ([] : List (Str × V)).length < 1000 := by simp
theorem few1 : [a1].length < 1000 := by simp
theorem few2 : [a1, a2].length < 1000 := by simp
theorem few3 : [a1, a2, a3].length < 1000 := by simp
theorem few4 : [a1, a2, a3, a4].length < 1000 := by simp
theorem few5 : [a1, a2, a3, a4, a5].length < 1000 := by simp
theorem few6 : [a1, a2, a3, a4, a5, a6].length < 1000 := by simp
end
theorem mul64 {i j : Int} (h : -18446744073709551616 < i ∧ i < 18446744073709551616) (k : -18446744073709551616 < j ∧ j < 18446744073709551616) : IntMulOk i j :=
  (mulx_ok (a := 64) (b := 64) (by have : (2 : Nat) ^ 64 = 18446744073709551616 := by decide
                                   omega) (by have : (2 : Nat) ^ 64 = 18446744073709551616 := by decide
                                              omega) (by decide)).ok
theorem ne_of_none' {H : Hp} {a p : Addr} {o : HO} (hp : H p = none) (h : H a = some o) : a ≠ p := ne_of_none h hp
theorem r_ty {K : PySem.W.Frag} {H : Hp} {p : Addr} {xs : List V} {B : Prop} (h : H p = some (.lst xs)) (k : B) : tyV K "list" (.ref p) H ∧ B := ⟨ty_list h, k⟩
/-! built-ins by names of their own -/
def rListOf (K : PySem.W.Frag) : List V → Hp → VK → Prop := fun xs H Q => ∃ p ys, xs = [.ref p] ∧ (SqL K H p ys ∨ SqT K H p ys) ∧ ∀ l, H l = none → Q (.ref l) (upd H l (.lst ys))
def rTupOf (K : PySem.W.Frag) : List V → Hp → VK → Prop := fun xs H Q => ∃ p ys, xs = [.ref p] ∧ ((SqL K H p ys ∧ ∀ l, H l = none → Q (.ref l) (upd H l (.tup ys))) ∨ (SqT K H p ys ∧ Q (.ref p) H))
def rMax2 : List V → Hp → VK → Prop := fun xs H Q => ∃ i j, xs = [.int i, .int j] ∧ Q (.int (if j > i then j else i)) H
def rMin2 : List V → Hp → VK → Prop := fun xs H Q => ∃ i j, xs = [.int i, .int j] ∧ Q (.int (if j < i then j else i)) H
def rIns : V → List V → Hp → VK → Prop := fun x vs H Q => ∃ (l : Addr) (xs : List V) (i : Int) (y : V), x = .ref l ∧ vs = [.int i, y] ∧ H l = some (.lst xs) ∧ xs.length < sizeLine ∧ 0 ≤ i ∧ i < 2 ^ 63 ∧ Q .non (upd H l (.lst (xs.take i.toNat ++ [y] ++ xs.drop i.toNat)))
section
variable {X : Cx} {K : PySem.W.Frag} {H : Hp} {Q : VK} {p : Addr} {vs : List V} {v : V} {i j : Int}
theorem cListOf : CallR X (.type "list") (rListOf X.K) := call_list_of
theorem cTupOf : CallR X (.type "tuple") (rTupOf X.K) := call_tuple_of
theorem cMax2 (hc : X.calm = true) : CallR X (.builtin "max") rMax2 := call_max2 hc
theorem cMin2 (hc : X.calm = true) : CallR X (.builtin "min") rMin2 := call_min2 hc
theorem mIns : MtR X "list.insert" rIns := mt_insert
theorem w_listL (h : SqL K H p vs) (k : ∀ l, H l = none → Q (.ref l) (upd H l (.lst vs))) : rListOf K [.ref p] H Q := ⟨p, vs, rfl, .inl h, k⟩
theorem w_listT (h : SqT K H p vs) (k : ∀ l, H l = none → Q (.ref l) (upd H l (.lst vs))) : rListOf K [.ref p] H Q := ⟨p, vs, rfl, .inr h, k⟩
theorem w_tupL (h : SqL K H p vs) (k : ∀ l, H l = none → Q (.ref l) (upd H l (.tup vs))) : rTupOf K [.ref p] H Q := ⟨p, vs, rfl, .inl ⟨h, k⟩⟩
theorem w_tupT (h : SqT K H p vs) (k : Q (.ref p) H) : rTupOf K [.ref p] H Q := ⟨p, vs, rfl, .inr ⟨h, k⟩⟩
theorem w_max (k : Q (.int (if j > i then j else i)) H) : rMax2 [.int i, .int j] H Q := ⟨i, j, rfl, k⟩
theorem w_min (k : Q (.int (if j < i then j else i)) H) : rMin2 [.int i, .int j] H Q := ⟨i, j, rfl, k⟩
theorem w_ins {n : Nat} (h : H p = some (.lst vs)) (e : i = n) (hn : n < 1000000) (hl : vs.length < 1000000) (k : Q .non (upd H p (.lst (vs.take n ++ [v] ++ vs.drop n)))) : rIns (.ref p) [.int i, v] H Q :=
  ⟨p, vs, i, v, rfl, rfl, h, Nat.lt_trans hl (by decide), by omega, by omega, by rw [e]; exact k⟩
theorem w_insI (h : H p = some (.lst vs)) (h0 : 0 ≤ i) (h1 : i < 1000000) (hl : vs.length < 1000000) (k : Q .non (upd H p (.lst (vs.take i.toNat ++ [v] ++ vs.drop i.toNat)))) : rIns (.ref p) [.int i, v] H Q :=
  ⟨p, vs, i, v, rfl, rfl, h, Nat.lt_trans hl (by decide), h0, by omega, k⟩
end
/-! one layer of a heap taken off -/
section
variable {K : PySem.W.Frag} {H : Hp} {a p : Addr} {xs : List V} {o u : HO}
theorem off_old (hp : H p = none) (h : H a = some o) : upd H p u a = some o := upd_old h hp
theorem off_far (n : a ≠ p) (h : H a = some o) : upd H p u a = some o := upd_far n h
theorem sql_off (hp : H p = none) (h : SqL K H a xs) : SqL K (upd H p u) a xs := sql_upd h hp
theorem sql_offar (n : a ≠ p) (h : SqL K H a xs) : SqL K (upd H p u) a xs := sql_far h n
theorem sqt_off (hp : H p = none) (h : SqT K H a xs) : SqT K (upd H p u) a xs := sqt_upd h hp
theorem sqt_offar (n : a ≠ p) (h : SqT K H a xs) : SqT K (upd H p u) a xs := sqt_far h n
end
/-! x is True, for a truth x -/
def aIsB : R2 := fun x y H Q => ∃ b c, x = .bl b ∧ y = .bl c ∧ Q (.bl (decide (b = c))) H
def aNotB : R2 := fun x y H Q => ∃ b c, x = .bl b ∧ y = .bl c ∧ Q (.bl (!decide (b = c))) H
section
variable {X : Cx} {K : PySem.W.Frag} {H : Hp} {Q : VK} {b c : Bool} {x y : V} {d : PyData}
theorem oIsB : OpR X (compareOp .Is) aIsB := by
  intro pins s σ H x y v u Q I rx ry h
  obtain ⟨b, c, rfl, rfl, q⟩ := h
  cases rx
  cases ry
  show wpAny _ _ ((isSame (Value.bool b) (Value.bool c)) >>= fun z => pure (Value.bool z)) _ _ s
  exact wpAny_bind (wpAny_isSame_plain (by rfl) (wpAny_pure (fin_bl I q (by cases b <;> cases c <;> rfl))))
theorem oNotB : OpR X (compareOp .IsNot) aNotB := by
  intro pins s σ H x y v u Q I rx ry h
  obtain ⟨b, c, rfl, rfl, q⟩ := h
  cases rx
  cases ry
  show wpAny _ _ ((isSame (Value.bool b) (Value.bool c)) >>= fun z => pure (Value.bool (!z))) _ _ s
  exact wpAny_bind (wpAny_isSame_plain (by rfl) (wpAny_pure (fin_bl I q (by cases b <;> cases c <;> rfl))))
theorem w_isB (k : Q (.bl (decide (b = c))) H) : aIsB (.bl b) (.bl c) H Q := ⟨b, c, rfl, rfl, k⟩
theorem w_notB (k : Q (.bl (!decide (b = c))) H) : aNotB (.bl b) (.bl c) H Q := ⟨b, c, rfl, rfl, k⟩
mutual
theorem eqv_refl : ∀ d : PyData, d.canLay0 = true → PyData.eqv d d = true
  | .none, _ => by simp [PyData.eqv]
  | .bool _, _ => by simp [PyData.eqv]
  | .int _, _ => by simp [PyData.eqv]
  | .str _, _ => by simp [PyData.eqv]
  | .list ds, h => by simp only [PyData.eqv]; exact eqvAll_refl ds (by simpa [PyData.canLay0] using h)
  | .tuple ds, h => by simp only [PyData.eqv]; exact eqvAll_refl ds (by simpa [PyData.canLay0] using h)
  | .dict _, h => by simp [PyData.canLay0] at h
theorem eqvAll_refl : ∀ ds : List PyData, PyData.canLayAll0 ds = true → PyData.eqvAll ds ds = true
  | [], _ => by simp [PyData.eqvAll]
  | d :: ds, h => by
    have h' : d.canLay0 = true ∧ PyData.canLayAll0 ds = true := by simpa [PyData.canLayAll0] using h
    simp only [PyData.eqvAll, eqv_refl d h'.1, eqvAll_refl ds h'.2, Bool.and_self]
end
/-- the same data -/
theorem v_eqR (h1 : Dp K H x d) (h2 : Dp K H y d) (hs : SeqAt.shaped d = true) (k : Q (.bl true) H) : aEq K x y H Q :=
  v_eqD h1 h2 hs hs (by rw [eqv_refl d (SeqAt.canLay_of_shaped hs)]; exact k)
theorem v_neR (h1 : Dp K H x d) (h2 : Dp K H y d) (hs : SeqAt.shaped d = true) (k : Q (.bl false) H) : aNe K x y H Q :=
  v_neD h1 h2 hs hs (by rw [eqv_refl d (SeqAt.canLay_of_shaped hs)]; exact k)
end
/-- an if whose two ways meet again -/
theorem r_wJ {c : Prop} [Decidable c] {t1 t2 : TS} {D : Ends} {σ : L2.St} {H : Hp} (W : L2.St → Hp → Prop) (hk : ∀ σ' H', W σ' H' → D.nx σ' H')
    (h1 : c → ∀ N : L2.St → Hp → Prop, (∀ σ' H', W σ' H' → N σ' H') → t1 { D with nx := N } σ H) (h2 : ¬ c → ∀ N : L2.St → Hp → Prop, (∀ σ' H', W σ' H' → N σ' H') → t2 { D with nx := N } σ H) :
    if decide c = true then t1 D σ H else t2 D σ H := r_w (fun h => h1 h D.nx hk) fun h => h2 h D.nx hk
theorem r_nwJ {c : Prop} [Decidable c] {t1 t2 : TS} {D : Ends} {σ : L2.St} {H : Hp} (W : L2.St → Hp → Prop) (hk : ∀ σ' H', W σ' H' → D.nx σ' H')
    (h1 : ¬ c → ∀ N : L2.St → Hp → Prop, (∀ σ' H', W σ' H' → N σ' H') → t1 { D with nx := N } σ H) (h2 : c → ∀ N : L2.St → Hp → Prop, (∀ σ' H', W σ' H' → N σ' H') → t2 { D with nx := N } σ H) :
    if (!decide c) = true then t1 D σ H else t2 D σ H := r_nw (fun h => h1 h D.nx hk) fun h => h2 h D.nx hk
/-! a heap without one address -/
def wo (D : Addr) (H : Hp) : Hp := fun b => if b = D then none else H b
theorem wo_at {D b : Addr} {H : Hp} {o : HO} (n : b ≠ D) (h : H b = some o) : wo D H b = some o := by unfold wo; rw [if_neg n]; exact h
theorem wo_upd {D : Addr} {H : Hp} {o : HO} : wo D (upd H D o) = wo D H := by
  funext b
  unfold wo
  by_cases h : b = D
  · rw [if_pos h, if_pos h]
  · rw [if_neg h, if_neg h, upd_ne h]
theorem wo_stp {D : Addr} {H : Hp} : Stp [] (wo D H) H := ⟨fun b o e _ => by
  unfold wo at e
  by_cases h : b = D
  · rw [if_pos h] at e; cases e
  · rw [if_neg h] at e; exact e, fun b e => by
  unfold wo
  by_cases h : b = D
  · rw [if_pos h]
  · rw [if_neg h]; exact e⟩
theorem wo_mono {D : Addr} {H H' : Hp} (S : Stp [] H H') : Stp [] (wo D H) (wo D H') := ⟨fun b o e _ => by
  unfold wo at e ⊢
  by_cases h : b = D
  · rw [if_pos h] at e; cases e
  · rw [if_neg h] at e ⊢; exact S.keep0 e, fun b e => by
  unfold wo at e ⊢
  by_cases h : b = D
  · rw [if_pos h]
  · rw [if_neg h] at e ⊢; exact S.dom b e⟩
/-- data gathered in the list at D -/
theorem dp_gather {K : PySem.W.Frag} {D : Addr} {H1 H2 : Hp} {us : List V} {ds : List PyData} {x : V} {d : PyData} {o : HO} (S : Stp [] H1 H2) (h : DpAll K (wo D H1) us ds) (k : Dp K (wo D H2) x d) : DpAll K (wo D (upd H2 D o)) (us ++ [x]) (ds ++ [d]) := by
  rw [wo_upd]
  have h2 := dp_stpAll (wo_mono S) _ _ h
  clear h
  induction us generalizing ds with
  | nil => cases h2; exact .cons k .nil
  | cons u us ih => cases h2 with | cons h1 h2 => exact .cons h1 (ih h2)
theorem st_new {M : List Addr} {H H1 : Hp} {p : Addr} {o : HO} (h : H1 p = none) (a : Stp M H H1) : Stp M H (upd H1 p o) := a.new h
theorem st_trans {M : List Addr} {H H1 H2 : Hp} (b : Stp [] H1 H2) (a : Stp M H H1) : Stp M H H2 := a.then0 b
theorem st_put {M : List Addr} {H H1 : Hp} {p : Addr} {o : HO} (h : H p = none) (a : Stp M H H1) : Stp M H (upd H1 p o) := a.putN h
theorem st_fr {H H' : Hp} {p : Addr} (h : H' p = none) (S : Stp [] H H') : H p = none := S.dom p h
theorem dpall_len {K : PySem.W.Frag} {H : Hp} : ∀ {us : List V} {ds : List PyData}, DpAll K H us ds → us.length = ds.length
  | [], _, h => by cases h; rfl
  | u :: us, _, h => by cases h with | cons h1 h2 => simp [dpall_len h2]
theorem dpall_get {K : PySem.W.Frag} {H : Hp} {us : List V} {ds : List PyData} {i : Nat} {d : PyData} (h : DpAll K H us ds) (e : ds[i]? = some d) : ∃ v, us[i]? = some v ∧ Dp K H v d := by
  induction us generalizing ds i with
  | nil => cases h; cases e
  | cons u us ih => cases h with | cons h1 h2 => cases i with
    | zero => cases e; exact ⟨u, rfl, h1⟩
    | succ i => exact ih h2 e
theorem dpall_map {K : PySem.W.Frag} {H : Hp} {β : Type} {l : List β} {f : β → V} {g : β → PyData} (h : ∀ b ∈ l, Dp K H (f b) (g b)) : DpAll K H (l.map f) (l.map g) := by
  induction l with
  | nil => exact .nil
  | cons x xs ih => exact .cons (h x (by simp)) (ih fun y hy => h y (by simp [hy]))
theorem shaped_list {ds : List PyData} (h : ∀ d ∈ ds, PyData.canLay0 d = true ∧ PyData.depth d ≤ 1) : SeqAt.shaped (.list ds) = true := by
  have h1 : PyData.canLayAll0 ds = true ∧ PyData.depthAll ds ≤ 1 := by
    induction ds with
    | nil => exact ⟨by simp [PyData.canLayAll0], by simp [PyData.depthAll]⟩
    | cons d ds ih =>
      obtain ⟨a, b⟩ := h d (by simp)
      obtain ⟨c, e⟩ := ih fun x hx => h x (by simp [hx])
      exact ⟨by simp only [PyData.canLayAll0, a, c, Bool.and_self], by simp only [PyData.depthAll]; omega⟩
  unfold SeqAt.shaped
  rw [show PyData.canLay0 (.list ds) = true by simp only [PyData.canLay0]; exact h1.1]
  exact decide_eq_true (by simp only [PyData.depth]; omega)
/-! defs with defaults -/
section
variable {P : Program} {w : World} {K : PySem.W.Frag} {mg : Str → Option Value} {base : Heap}
theorem funD_mk {x qual : Str} {st : Stmt} {f T : Addr} {oc oT : Value} {od an oU : Option Addr} {osl tsl : Array (Option Value)} {kV doc pm cdv ct : Value} {its : List Value} {n : Nat} {dvs : List V}
    (l : K.lookup f = some ⟨oc, od, .func (PySem.W.fnOf x qual (defArgs st) (defBody st) (defScope st) (.ref T) kV doc pm an cdv ct), osl⟩) (t : K.lookup T = some ⟨oT, oU, .seq its.toArray n, tsl⟩) (r : Vals dvs its) (hd : dvs ≠ [])
    (c : PySem.W.codeIn K cdv qual = true) (k : PySem.W.keepIn K (.ref f) = true) : FunD K x qual (defArgs st) (defBody st) (defScope st) dvs [] f (PySem.W.fnOf x qual (defArgs st) (defBody st) (defScope st) (.ref T) kV doc pm an cdv ct) :=
  ⟨⟨oc, od, _, kV, doc, pm, an, cdv, ct, osl, rfl, l, c, .inr ⟨hd, T, _, its, n, rfl, t, rfl, r⟩, .inl rfl⟩, k⟩
theorem funD_ok {x qual : Str} {st : Stmt} {dvs : List V} {f : Addr} {fd : FuncData} {N ps : List Str} {k : Nat} {sp : Sp} (F : FunD K x qual (defArgs st) (defBody st) (defScope st) dvs [] f fd) (S : FnScope N ps (defScope st)) (len : ∀ vs H Q E, sp vs H Q E → vs.length = ps.length)
    (hb : ∀ (cdv : Value) (A : Around) (outer : List Env) (s : Shared) (H : Hp) (vs : List V) (Q : VK) (E : XK), Room k (A.deeper (envOfC qual (defScope st) s.heap.objs.size f cdv)) → sp vs H Q E →
      ∃ t, PSs (cxOf CX0 P w K mg base N qual (defScope st) f cdv A outer s H E).nox (defBody st) t ∧ t { nx := fun _ H' => Q .non H', rt := Q } (start N vs) H) : FnOk P w K mg base CX0 (k + 1) f fd ps sp :=
  F.ok S len fun cdv A outer s H vs Q E hr h => by
    obtain ⟨t, h1, h2⟩ := hb cdv A outer s H vs Q E hr h
    exact ⟨t, h1.nox, h2⟩
end
theorem Stp.putI {M : List Addr} {H H1 : Hp} {p C d : Addr} {fs : List (Str × V)} {o : HO} (a : Stp M H H1) (h : p ∈ M) (h1 : H1 p = some (.ins C d fs)) : Stp M H (upd H1 p o) := a.putM h h1 (fun z => z)
theorem Stp.putL {M : List Addr} {H H1 : Hp} {p : Addr} {xs : List V} {o : HO} (a : Stp M H H1) (h : p ∈ M) (h1 : H1 p = some (.lst xs)) : Stp M H (upd H1 p o) := a.putM h h1 (fun z => z)
theorem v_tup1 {H : Hp} {Q : VK} {x : V} (h : ∀ p, H p = none → Q (.ref p) (upd H p (.tup [x]))) : SH.kTup Q [x] H := v_tup (by simp) h
/-- a statement of a def's body -/
def inDef (s : Stmt) (j : Nat) : Stmt := (defBody s).getD j (.Pass ⟨0, 0, 0, 0⟩)
/-- a table that tells nothing as yet -/
theorem tabN_empty {H : Hp} {P : Addr} {nm : Nat → Nat → Str} (h : H P = some (.tbl #[])) : NdefX.TabN H P nm := ⟨#[], h, by trivial, fun pos cv hc => by cases hc⟩
/-! rules with the frag by its name (in a comprehension the context is not to be seen from outside) -/
section
variable {X : Cx}
theorem opK {op : Value → Value → Sem Value} (r : PySem.W.Frag → R2) (K : PySem.W.Frag) (h : OpR X op (r X.K)) (e : X.K = K := by rfl) : OpR X op (r K) := e ▸ h
theorem ixK (r : PySem.W.Frag → R2) (K : PySem.W.Frag) (h : IxR X (r X.K)) (e : X.K = K := by rfl) : IxR X (r K) := e ▸ h
theorem crK {v : Value} (r : PySem.W.Frag → List V → Hp → VK → Prop) (K : PySem.W.Frag) (h : CallR X v (r X.K)) (e : X.K = K := by rfl) : CallR X v (r K) := e ▸ h
theorem slK (r : PySem.W.Frag → V → Option Int → Option Int → Hp → VK → Prop) (K : PySem.W.Frag) (h : SlR X (r X.K)) (e : X.K = K := by rfl) : SlR X (r K) := e ▸ h
theorem piK {tg e : Expr} (r : PySem.W.Frag → TI) (K : PySem.W.Frag) (h : PI X tg e (r X.K)) (e' : X.K = K := by rfl) : PI X tg e (r K) := e' ▸ h
theorem peK {e : Expr} (r : PySem.W.Frag → TE) (K : PySem.W.Frag) (h : PE X e (r X.K)) (e' : X.K = K := by rfl) : PE X e (r K) := e' ▸ h
end
end SH

set_option Elab.async false
set_option linter.all false
set_option maxRecDepth 100000
set_option maxHeartbeats 4000000
/-! SHF: list(reversed(xs)), a new list -/
namespace SH
open PySem PySem.Spec PyProof.Rows L2
section
variable {prog : Program} {w : World} {A : Around} {E : Value → Shared → Prop} {s : Shared}
theorem ext_lrev {R : Result → Shared → Prop} {it l : Addr} {items : Array Value} (hh : A.handled = none) (hit : s.heap.IsRevIter it l ((items.size : Int) - 1)) (hl : s.heap.IsList l items) (hne : l ≠ it) (hn : items.size ≤ sizeLine)
    (S : Addr) (c0 : Nat) (hS : s.heap.get? S = some { cls := .type "list", data := .seq #[] c0 }) (nSi : S ≠ it) (nSl : S ≠ l)
    (hR : ∀ h' tk acc c', (∀ b o, b ≠ S → b ≠ it → s.heap.get? b = some o → h'.get? b = some o) → h'.get? S = some { cls := .type "list", dict := none, data := .seq acc c', slots := #[] } →
      ItemsOf (fun i v => items[items.size - 1 - i]? = some v) acc items.size → R (.ok (.ret .none)) { s with heap := h', toks := tk }) :
    wpAny (model prog w) A.in1 (Builtin.List.listExtendWith (.ref S) (.ref it) .none)
      (fun z s' => match z with | .done u => R (.ok u) s' | .again c' => c'.quiet = true ∧ codeAny (model prog w) A c' R s') (fun e s' => R (.error e) s') s := by
  have W := (Walks.listRev (prog := prog) (w := w) (A := A.in1) hh it l hne items).toS
  have nf : S ∉ [it, l] := by simp only [List.mem_cons, List.not_mem_nil, or_false, not_or]; exact ⟨nSi, nSl⟩
  have ty : s.TypeIs (.ref it) "list_reverseiterator" := Heap.IsRevIter.typeIs (s := s) hit
  have same : Builtin.List.listSameRef (.ref S) (.ref it) = false := by simp [Builtin.List.listSameRef, nSi]
  unfold Builtin.List.listExtendWith; refine wpAny_bind (wpAny_typeOf ty ?_); rw [if_neg (by rw [same]; decide)]
  refine wpAny_bind (wpAny_pyIter_revIter (s := s) hit ?_); refine wpAny_bind (wpAny_holding ?_); unfold Builtin.List.listLengthHint
  refine wpAny_bind (wpAny_specialOf ty RT.nolen_lri ?_); show wpAny _ A.in1 (specialOf (Value.ref it) (Str.ofString "__length_hint__") >>= _) _ _ _
  refine wpAny_bind (wpAny_specialOf ty RT.hint_lri ?_); generalize hid : ("list_reverseiterator.__length_hint__" : String) = id0
  wp_delta; rw [show splitId id0 = some ("list_reverseiterator", "__length_hint__") from by subst hid; decide +kernel]; subst hid
  refine wpAny_bind (wpAny_isInstance (b := true) ty (by rw [isSubtype_type]; kernel_rfl) ?_); refine wpAny_pure ?_; rw [if_neg (by decide)]
  have z0 : ((items.size : Nat) : Int) - 1 - ((0 : Nat) : Int) = (items.size : Int) - 1 := by omega
  refine wpAny_pure ⟨plainId_quiet F.plain_extend_loop _, codeAny_extend_loopS W hn _ nf _ items.size 0 _ _ _ rfl (Nat.zero_le _) ⟨Nat.zero_le _, by rw [z0]; exact hit, hl⟩ hS (ItemsOf.nil _) fun s' acc c' hm hS' ha => ?_⟩
  rw [Moved.eq_with hm]; refine hR s'.heap s'.toks acc c' (fun b o n1 n2 e => hm.heap b o (fun hmem => ?_) e) hS' ha
  rcases List.mem_cons.mp hmem with e' | hmem
  · exact n1 e'
  · exact n2 (List.mem_singleton.mp hmem)
theorem call_list_rev {it l : Addr} {items : Array Value} {Q : Value → Shared → Prop} (hh : A.handled = none) (hit : s.heap.IsRevIter it l ((items.size : Int) - 1)) (hl : s.heap.IsList l items) (hne : l ≠ it) (hn : items.size ≤ sizeLine)
    (hQ : ∀ h' tk acc c', (∀ b o, b ≠ it → s.heap.get? b = some o → h'.get? b = some o) → h'.get? s.heap.objs.size = some { cls := .type "list", dict := none, data := .seq acc c', slots := #[] } →
      ItemsOf (fun i v => items[items.size - 1 - i]? = some v) acc items.size → Q (.ref s.heap.objs.size) { s with heap := h', toks := tk }) :
    wpAny (model prog w) A (call (.type "list") [.ref it]) Q E s := by
  refine callType_codes (Q₁ := fun ob s1 => ob = .ref s.heap.objs.size ∧ s1 = { s with heap := s.heap.push { cls := .type "list", data := .seq #[] } }) F.called_list (F.typeCall_list_1 _) F.entry_list_init (code_list_new _ ⟨rfl, rfl⟩) fun ob s1 h1 => ?_
  obtain ⟨e1, e2⟩ := h1; subst e1; subst e2
  have hS : (s.heap.push { cls := .type "list", data := .seq #[] }).get? s.heap.objs.size = some { cls := .type "list", data := .seq #[] } := by exact Heap.get?_push_size _ rfl
  obtain ⟨oi, hoi, _⟩ := id hit; obtain ⟨ol, hol, hol'⟩ := id hl
  have nSi : s.heap.objs.size ≠ it := Nat.ne_of_gt (Heap.lt_size hoi); have nSl : s.heap.objs.size ≠ l := Nat.ne_of_gt (Heap.lt_size hol)
  refine ⟨⟨_, hS, rfl⟩, F.args_list_init_2 _ _, ?_⟩
  show wpAny _ _ (do let old ← Builtin.List.listItems (.ref s.heap.objs.size); Builtin.List.listUpdate (.ref s.heap.objs.size) (fun _ => #[]); letGo old.toList.reverse; Builtin.List.listExtendWith (.ref s.heap.objs.size) (.ref it) .none) _ _ _
  refine wpAny_bind ?_; unfold Builtin.List.listItems; refine wpAny_bind (wpAny_seqItems hS rfl (wpAny_pure ?_))
  show wpAny _ _ (updateSeq s.heap.objs.size (fun _ => #[]) >>= fun _ => letGo (#[] : Array Value).toList.reverse >>= fun _ => Builtin.List.listExtendWith (.ref s.heap.objs.size) (.ref it) .none) _ _ _
  refine wpAny_bind (wpAny_updateSeq hS rfl ?_); have hS2 := Heap.get?_update_self (Obj.mapSeq (fun _ => (#[] : Array Value))) hS rfl
  have oth : ∀ b o, b ≠ s.heap.objs.size → s.heap.get? b = some o → ((s.heap.push { cls := .type "list", data := .seq #[] }).update s.heap.objs.size (Obj.mapSeq (fun _ => (#[] : Array Value)))).get? b = some o :=
    fun b o hb e => (Heap.get?_update_other _ _ (Ne.symm hb)).trans (Heap.get?_push_of_some _ e)
  refine wpAny_bind (wpAny_letGo ?_)
  refine ext_lrev (A := A.in1) (R := wants (fun r s2 => r = Value.none ∧ Q (.ref s.heap.objs.size) s2) E) (s := { s with heap := (s.heap.push { cls := .type "list", data := .seq #[] }).update s.heap.objs.size (Obj.mapSeq (fun _ => (#[] : Array Value))) }) hh (hit.at fun o e => oth it o (Ne.symm nSi) e) ?_ hne hn _ _ hS2 nSi nSl fun h' tk acc c' hk hS' ha => ?_
  · exact ⟨ol, oth l ol (Ne.symm nSl) hol, hol'⟩
  · exact ⟨rfl, hQ h' tk acc c' (fun b o n2 e => hk b o (Nat.ne_of_lt (Heap.lt_size e)) n2 (oth b o (Nat.ne_of_lt (Heap.lt_size e)) e)) hS' ha⟩
end
/-- list(reversed(xs)) -/
def kLstRev (K : PySem.W.Frag) (Q : VK) : VK := fun v H1 => ∃ (a : Addr) (xs : List V), v = .ref a ∧ SqL K H1 a xs ∧ ∀ q, H1 q = none → Q (.ref q) (upd H1 q (.lst xs.reverse))
def tLstRev (K : PySem.W.Frag) (te : TE) : TE := fun σ H Q => te σ H (kLstRev K Q)
theorem r_lrev {K : PySem.W.Frag} {te : TE} {σ : L2.St} {H : Hp} {Q : VK} (h : te σ H (kLstRev K Q)) : tLstRev K te σ H Q := h
theorem v_lrev {K : PySem.W.Frag} {H : Hp} {Q : VK} {a : Addr} {xs : List V} (h : SqL K H a xs) (k : ∀ q, H q = none → Q (.ref q) (upd H q (.lst xs.reverse))) : kLstRev K Q (.ref a) H := ⟨a, xs, rfl, h, k⟩
section
variable {X : Cx}
theorem pe_lstRev {e : Expr} {te : TE} {p p2 pos pos2 : Pos} (hg : Gl X "list") (hm : X.mg "list" = none) (hg2 : Gl X "reversed") (hm2 : X.mg "reversed" = none) (he : PE X e te) (hc : X.calm = true := by rfl)
    (hs : starEach [e] X.env = (false, eval e X.env) :: starEach [] X.env := by rfl)
    (hs2 : starEach [.Call (.Name "reversed" p2) [e] [] pos2] X.env = (false, eval (.Call (.Name "reversed" p2) [e] [] pos2) X.env) :: starEach [] X.env := by rfl) :
    PE X (.Call (.Name "list" p) [.Call (.Name "reversed" p2) [e] [] pos2] [] pos) (tLstRev X.K te) := by
  refine ⟨fun pins s σ H Q I h => ?_⟩
  refine Call_ (ld_blt I hg hm boot_list (PyProof.Rows.callWith_type1 (args_cons (Call_ (ld_blt I hg2 hm2 PyProof.Rows.boot_reversed (PyProof.Rows.callWith_type1 (args_cons (thn (he.run pins s σ H _ I h) fun u s1 ⟨v, H1, I1, r1, q1⟩ => args_nil ?_) hs) hs rfl))) hs2) hs2 rfl))
  obtain ⟨a, xs, ev, hq, q⟩ := q1; subst ev; obtain rfl : u = Value.ref a := r1; obtain ⟨its, rv, p', hz⟩ := I1.list hq
  refine call_reversed_list p'.isList (args_nil ?_)
  have I2 : Inv X pins σ H1 { s1 with heap := s1.heap.push (revObj a ((its.toArray.size : Int) - 1)) } := by exact I1.kept (t' := s1.toks) fun b o e => Heap.get?_push_of_some _ e
  obtain ⟨f0, f1, f2, f3, f4, f5⟩ := I1.fpOk (H' := H1) (b := s1.heap.objs.size) (Nat.le_refl _) (I1.hok.fresh (Nat.le_refl _)); have hl := p'.isList; obtain ⟨ol, hol, _⟩ := id hl
  have hne : a ≠ s1.heap.objs.size := by exact Nat.ne_of_lt (Heap.lt_size hol)
  have hn : its.toArray.size ≤ sizeLine := by rw [List.size_toArray, ← rv.length]; exact (by exact hz)
  refine call_list_rev (s := { s1 with heap := s1.heap.push (revObj a ((its.toArray.size : Int) - 1)) }) (I1.ok.hd hc) ⟨_, Heap.get?_push_size _ rfl, rfl, rfl⟩ (hl.push _) hne hn fun h' tk acc c' hk hS' hi => ?_
  have z : s1.heap.objs.size ≤ (s1.heap.push (revObj a ((its.toArray.size : Int) - 1))).objs.size := by simp [Heap.push]
  have k1 : ∀ b o, s1.heap.get? b = some o → h'.get? b = some o := fun b o e => hk b o (Nat.ne_of_lt (Heap.lt_size e)) (by exact Heap.get?_push_of_some _ e)
  refine ⟨.ref _, upd H1 (s1.heap.push (revObj a ((its.toArray.size : Int) - 1))).objs.size (.lst xs.reverse), I1.laid (t' := tk) k1 z (show ObjOk X.prog X.w _ _ _ (.lst xs.reverse) from ⟨by rw [List.length_reverse]; exact hz, acc.toList, c', RT.vals_rev rv hi, ?_⟩), rfl, q _ (I1.hok.fresh z)⟩
  rw [Array.toArray_toList]; exact (by exact hS')
end
theorem cutL_from_len {α : Type} (xs : List α) (i : Nat) (hi : Option Int) : (cutL xs (some (i : Int)) hi).length ≤ xs.length - i := by
  unfold cutL
  rw [HT.sIx_nat, List.length_take, List.length_drop]
  omega
theorem r_ckw2 {r : List V → List V → Hp → VK → Prop} {t tk : TA} {σ : L2.St} {H : Hp} {Q : VK} (h : t σ H fun vs H1 => tk σ H1 fun zs H2 => r vs zs H2 Q) : tCKw r t tk σ H Q := h
end SH

set_option Elab.async false
set_option linter.all false
set_option maxRecDepth 100000
set_option maxHeartbeats 4000000
/-! SHG: max(xs, default=d), ints -/
namespace SH
open PySem PySem.Spec PyProof.Rows L2
def rMaxDef (K : PySem.W.Frag) : List V → List V → Hp → VK → Prop := fun vs zs H Q => ∃ (a : Addr) (ns : List Int) (d : Int), vs = [V.ref a] ∧ zs = [V.int d] ∧ SqL K H a (ns.map V.int) ∧ (ns = [] → Q (.int d) H) ∧ ∀ m, m ∈ ns → (∀ y, y ∈ ns → y ≤ m) → Q (.int m) H
theorem foldl_max : ∀ (r : List Int) (n : Int), r.foldl max n ∈ n :: r ∧ ∀ y ∈ n :: r, y ≤ r.foldl max n
  | [], n => ⟨by simp, by simp⟩
  | k :: r, n => by
    obtain ⟨h1, h2⟩ := foldl_max r (max n k)
    rw [List.foldl_cons]
    constructor
    · rcases List.mem_cons.mp h1 with e | e
      · rw [e]
        by_cases z : n ≤ k
        · rw [Int.max_eq_right z]; simp
        · rw [Int.max_eq_left (by omega)]; simp
      · simp [e]
    · intro y hy
      have hm := h2 (max n k) (by simp)
      rcases List.mem_cons.mp hy with e | hy
      · omega
      · rcases List.mem_cons.mp hy with e | hy
        · omega
        · exact h2 y (by simp [hy])
theorem depth_ints : ∀ ns : List Int, PyData.depthAll (ns.map PyData.int) = 0
  | [] => by simp [PyData.depthAll]
  | n :: r => by simp [PyData.depthAll, PyData.depth, depth_ints r]
theorem dp_ints {K : PySem.W.Frag} {H : Hp} : ∀ ns : List Int, DpAll K H (ns.map V.int) (ns.map PyData.int)
  | [] => .nil
  | n :: r => .cons (.int n) (dp_ints r)
section
variable {X : Cx}
theorem cr_maxDef (hc : X.calm = true) (hu : X.A.units + 64 < cLine) : CallRK X (.builtin "max") [Str.ofString "default"] (rMaxDef X.K) := by
  intro pins s σ H vs zs us ws Q I r rz h
  obtain ⟨a, ns, d, rfl, rfl, hs, h0, h1⟩ := h
  obtain rfl := Vals.ref1 r
  obtain ⟨w1, rfl, e1⟩ := vals1 rz
  obtain ⟨t, rfl⟩ := e1
  obtain ⟨its, rv, hl, hz⟩ := I.list hs
  obtain ⟨as, hr⟩ := Dp.readsAll I (ns.map PyData.int) _ its (dp_ints ns) rv
  have al : PySem.W.AlikeAll (ns.map PyData.int) := ⟨fun x hx y hy => by
    obtain ⟨i, _, rfl⟩ := List.mem_map.mp hx
    obtain ⟨j, _, rfl⟩ := List.mem_map.mp hy
    rfl, fun x hx => by
    obtain ⟨i, _, rfl⟩ := List.mem_map.mp hx
    intro z; cases z⟩
  refine PySem.W.max_list_default (xs := ns.map PyData.int) (I.ok.hd hc) hl.isList (by simpa using hr) al (by rw [depth_ints]; omega) (fun e h' tk hk => ⟨.int d, H, I.kept hk, ⟨t, rfl⟩, h0 (by simpa using e)⟩) fun y ys i v h' tk bs e hv hR hk => ?_
  cases ns with
  | nil => cases e
  | cons n r =>
    rw [List.map_cons] at e
    cases e
    rw [PySem.W.maxD_ints] at hR
    obtain ⟨m1, m2⟩ := foldl_max r n
    generalize r.foldl max n = m at hR m1 m2
    cases hR
    exact ⟨.int m, H, I.kept hk, ⟨_, rfl⟩, h1 m m1 m2⟩
end
theorem r_ckw {r : List V → List V → Hp → VK → Prop} {t tk : TA} {σ : L2.St} {H : Hp} {Q : VK} (h : t σ H fun vs H1 => tk σ H1 fun zs H2 => r vs zs H2 Q) : tCKw r t tk σ H Q := h
end SH

set_option Elab.async false
set_option linter.all false
set_option maxRecDepth 100000
set_option maxHeartbeats 4000000
/-! SHI: xs[i] op= e, dicts with tuples as keys, int(truth) -/
namespace SH
open PySem PySem.Spec PyProof.Rows L2
section
variable {K : PySem.W.Frag} {σ : L2.St} {H : Hp} {Q : VK} {D : Ends} {to ti te td ty tv : TE} {tget : V → V → Hp → VK → Prop} {tip : TIp} {tset : TSet} {P : Hp → Prop} {d b : Addr} {kvs : List (List Key × V)} {ks : List Key} {v x y : V}
/-- a, b = x, y -/
def kPar2 (i j : Nat) (σ : L2.St) (P : L2.St → Hp → Prop) : List V → Hp → Prop := fun vs H1 => ∃ v w, vs = [v, w] ∧ P ((σ.set i (some v)).set j (some w)) H1
theorem r_par {i j : Nat} {ta : TA} (h : ta σ H (kPar2 i j σ D.nx)) : tPar i j ta D σ H := h
theorem v_par {i j : Nat} {w : V} {σ1 σ2 : L2.St} {R : L2.St → Hp → Prop} (e1 : σ.set i (some v) = σ1) (e2 : σ1.set j (some w) = σ2) (h : R σ2 H) : kPar2 i j σ R [v, w] H := ⟨v, w, rfl, by rw [e1, e2]; exact h⟩
def kPar3 (i j l : Nat) (σ : L2.St) (P : L2.St → Hp → Prop) : List V → Hp → Prop := fun vs H1 => ∃ u v w, vs = [u, v, w] ∧ P (((σ.set i (some u)).set j (some v)).set l (some w)) H1
theorem r_par3 {i j l : Nat} {ta : TA} (h : ta σ H (kPar3 i j l σ D.nx)) : tPar3 i j l ta D σ H := h
theorem v_par3 {i j l : Nat} {u w : V} {σ1 σ2 σ3 : L2.St} {R : L2.St → Hp → Prop} (e1 : σ.set i (some u) = σ1) (e2 : σ1.set j (some v) = σ2) (e3 : σ2.set l (some w) = σ3) (h : R σ3 H) : kPar3 i j l σ R [u, v, w] H := ⟨u, v, w, rfl, by rw [e1, e2, e3]; exact h⟩
theorem r_augS (h : to σ H fun o H1 => ti σ H1 fun i H2 => tget o i H2 fun x H3 => te σ H3 fun y H4 => tip x y H4 fun z H5 => tset o i z H5 fun H6 => D.nx σ H6) : tAugS to ti te tget tip tset D σ H := h
theorem r_dnewT (h : ∀ p, H p = none → Q (.ref p) (upd H p (.dT []))) : tDNewT σ H Q := h
theorem r_dnewK (h : ∀ p, H p = none → Q (.ref p) (upd H p (.dK []))) : tDNewK σ H Q := h
def kDPut (x y v : V) (H3 : Hp) (P : Hp → Prop) : Prop := ∃ a H4, x = .ref a ∧ DPut H3 a y v H4 ∧ P H4
theorem r_dput (h : tv σ H fun v H1 => td σ H1 fun x H2 => ty σ H2 fun y H3 => kDPut x y v H3 (D.nx σ)) : sDPut td ty tv D σ H := h
theorem v_dputT (hd : H d = some (.dT kvs)) (hk : H b = some (.tup (ks.map kV))) (hl : kvs.length < 1000000) (k : P (upd H d (.dT (putK kvs ks v)))) : kDPut (.ref d) (.ref b) v H P := ⟨d, _, rfl, DPut.t hd hk (Nat.lt_trans hl (by decide)), k⟩
def kDGet1 (ty : TE) (σ : L2.St) (Q : VK) : VK := fun x H1 => ∃ a, x = .ref a ∧ IsD H1 a ∧ ty σ H1 fun y H2 => ∃ o, DGet H2 a y o ∧ Q (o.getD .non) H2
theorem r_dget1 (h : td σ H (kDGet1 ty σ Q)) : tDGet1 td ty σ H Q := h
theorem v_dget1 (hd : H d = some (.dT kvs)) (h : ty σ H fun y H2 => ∃ o, DGet H2 d y o ∧ Q (o.getD .non) H2) : kDGet1 ty σ Q (.ref d) H := ⟨d, rfl, .inr ⟨kvs, .inl hd⟩, h⟩
theorem v_dgetT {R : Option V → Prop} (hd : H d = some (.dT kvs)) (hk : H b = some (.tup (ks.map kV))) (q : R (valV kvs ks)) : ∃ o, DGet H d (.ref b) o ∧ R o := ⟨_, DGet.t hd hk, q⟩
def kDGet (x y : V) (H2 : Hp) (Q : VK) : Prop := ∃ a v, x = .ref a ∧ DGet H2 a y (some v) ∧ Q v H2
theorem r_dgetI (h : td σ H fun x H1 => ty σ H1 fun y H2 => kDGet x y H2 Q) : tDGet td ty σ H Q := h
theorem v_dgetI (hd : H d = some (.dT kvs)) (hk : H b = some (.tup (ks.map kV))) (e : valV kvs ks = some v) (q : Q v H) : kDGet (.ref d) (.ref b) H Q := ⟨d, v, rfl, by rw [← e]; exact DGet.t hd hk, q⟩
def kDIn (y x : V) (H2 : Hp) (Q : VK) : Prop := ∃ a o, x = .ref a ∧ DGet H2 a y o ∧ Q (.bl o.isSome) H2
def kDNi (y x : V) (H2 : Hp) (Q : VK) : Prop := ∃ a o, x = .ref a ∧ DGet H2 a y o ∧ Q (.bl (!o.isSome)) H2
theorem r_din (h : ty σ H fun y H1 => td σ H1 fun x H2 => kDIn y x H2 Q) : tDIn ty td σ H Q := h
theorem r_dnotin (h : ty σ H fun y H1 => td σ H1 fun x H2 => kDNi y x H2 Q) : tDNotIn ty td σ H Q := h
theorem v_din (hd : H d = some (.dT kvs)) (hk : H b = some (.tup (ks.map kV))) (q : Q (.bl (valV kvs ks).isSome) H) : kDIn (.ref b) (.ref d) H Q := ⟨d, _, rfl, DGet.t hd hk, q⟩
theorem v_dnotin (hd : H d = some (.dT kvs)) (hk : H b = some (.tup (ks.map kV))) (q : Q (.bl (!(valV kvs ks).isSome)) H) : kDNi (.ref b) (.ref d) H Q := ⟨d, _, rfl, DGet.t hd hk, q⟩
end
/-- int(truth) or int(int) -/
def rInt1 : List V → Hp → VK → Prop := fun xs H Q => (∃ i, xs = [.int i] ∧ Q (.int i) H) ∨ ∃ k, xs = [.bl k] ∧ Q (.int (if k then 1 else 0)) H
section
variable {X : Cx} {H : Hp} {Q : VK} {i : Int} {b : Bool}
theorem cInt1 : CallR X (.type "int") rInt1 := call_int1
theorem w_intI (k : Q (.int i) H) : rInt1 [.int i] H Q := .inl ⟨i, rfl, k⟩
theorem w_intB (k : Q (.int (b.toNat : Nat)) H) : rInt1 [.bl b] H Q := .inr ⟨b, rfl, by cases b <;> exact k⟩
end
/-! a dict of answers -/
def pk (a b : Nat) : List Key := [.inl (a : Int), .inl (b : Int)]
theorem pk_map {a b : Nat} : (pk a b).map kV = [.int (a : Nat), .int (b : Nat)] := rfl
theorem pk_inj {a b c d : Nat} : pk a b = pk c d ↔ a = c ∧ b = d := by
  unfold pk
  constructor
  · intro h
    injection h with h1 h2
    injection h2 with h2 _
    injection h1 with h1
    injection h2 with h2
    exact ⟨by omega, by omega⟩
  · rintro ⟨rfl, rfl⟩; rfl
/-- what is known behind so many answers -/
def kn (es : List (T3 Nat Nat Bool)) : List (List Key × V) := es.foldl (fun acc e => putK acc (pk e.a e.b) (.bl e.c)) []
theorem kn_app {es : List (T3 Nat Nat Bool)} {e : T3 Nat Nat Bool} : kn (es ++ [e]) = putK (kn es) (pk e.a e.b) (.bl e.c) := by simp [kn]
theorem kn_len (es : List (T3 Nat Nat Bool)) : (kn es).length ≤ es.length := by
  have : ∀ (es : List (T3 Nat Nat Bool)) (acc : List (List Key × V)), (es.foldl (fun acc e => putK acc (pk e.a e.b) (.bl e.c)) acc).length ≤ acc.length + es.length := by
    intro es
    induction es with
    | nil => intro acc; simp
    | cons e es ih => intro acc; have := ih (putK acc (pk e.a e.b) (.bl e.c)); have := length_putK acc (pk e.a e.b) (.bl e.c); simp only [List.foldl_cons, List.length_cons]; omega
  simpa [kn] using this es []
theorem kn_val {es : List (T3 Nat Nat Bool)} {f : Nat → Nat → Bool} (h : ∀ e ∈ es, e.c = f e.a e.b) (a b : Nat) [Decidable (∃ e ∈ es, e.a = a ∧ e.b = b)] : valV (kn es) (pk a b) = if (∃ e ∈ es, e.a = a ∧ e.b = b) then some (.bl (f a b)) else none := by
  have key : ∀ (es : List (T3 Nat Nat Bool)), (∀ e ∈ es, e.c = f e.a e.b) → ((∃ e ∈ es, e.a = a ∧ e.b = b) → valV (kn es) (pk a b) = some (.bl (f a b))) ∧ ((¬ ∃ e ∈ es, e.a = a ∧ e.b = b) → valV (kn es) (pk a b) = none) := by
    intro es h
    obtain ⟨n, hn⟩ : ∃ n, n = es.length := ⟨_, rfl⟩
    induction n generalizing es with
    | zero =>
      have : es = [] := List.length_eq_zero_iff.mp hn.symm
      subst this
      exact ⟨fun ⟨e, he, _⟩ => by simp at he, fun _ => rfl⟩
    | succ n ih =>
      obtain ⟨fs, e, rfl⟩ : ∃ fs e, es = fs ++ [e] := ⟨es.dropLast, es.getLast (by intro z; subst z; simp at hn), (List.dropLast_concat_getLast _).symm⟩
      obtain ⟨i1, i2⟩ := ih fs (fun x hx => h x (by simp [hx])) (by simp at hn; omega)
      rw [kn_app, valV_put]
      have he := h e (by simp)
      by_cases z : pk a b = pk e.a e.b
      · obtain ⟨z1, z2⟩ := pk_inj.mp z
        subst z1; subst z2
        simp only [if_true]
        exact ⟨fun _ => by rw [he], fun n => (n ⟨e, by simp, rfl, rfl⟩).elim⟩
      · rw [if_neg z]
        have z' : ¬ (e.a = a ∧ e.b = b) := fun ⟨p, q⟩ => z (pk_inj.mpr ⟨p.symm, q.symm⟩)
        refine ⟨fun ⟨x, hx, q⟩ => i1 ?_, fun n => i2 fun ⟨x, hx, q⟩ => n ⟨x, by simp [hx], q⟩⟩
        rcases List.mem_append.mp hx with hx | hx
        · exact ⟨x, hx, q⟩
        · rw [List.mem_singleton] at hx; subst hx; exact (z' q).elim
  by_cases c : ∃ e ∈ es, e.a = a ∧ e.b = b
  · rw [if_pos c]; exact (key es h).1 c
  · rw [if_neg c]; exact (key es h).2 c
theorem kn_get {es : List (T3 Nat Nat Bool)} {f : Nat → Nat → Bool} (h : ∀ e ∈ es, e.c = f e.a e.b) {a b : Nat} (hm : ∃ e ∈ es, e.a = a ∧ e.b = b) : valV (kn es) (pk a b) = some (.bl (f a b)) := by
  classical
  rw [kn_val h, if_pos hm]
theorem kn_none {es : List (T3 Nat Nat Bool)} {f : Nat → Nat → Bool} (h : ∀ e ∈ es, e.c = f e.a e.b) {a b : Nat} (hm : ¬ ∃ e ∈ es, e.a = a ∧ e.b = b) : valV (kn es) (pk a b) = none := by
  classical
  rw [kn_val h, if_neg hm]
end SH

set_option Elab.async false
set_option linter.all false
set_option maxRecDepth 100000
set_option maxHeartbeats 4000000
/-! SHJ: (k, p) >= (k', q); t[:2] -/
namespace SH
open PySem PySem.Spec PySem.W PyProof.Rows L2
theorem dataLt_pair {k p k' p' : Int} : dataLt (.tuple [.int k, .int p]) (.tuple [.int k', .int p']) = decide (k < k' ∨ (k = k' ∧ p < p')) := by
  unfold dataLt
  simp only [keyToks, keyToksAll, List.cons_append, List.nil_append]
  rw [lex_self (O := itemOrd)]
  by_cases e : k = k'
  · subst e
    rw [lex_self (O := itemOrd), lex_self (O := itemOrd)]
    by_cases e2 : p = p'
    · subst e2
      rw [lex_self (O := itemOrd), lex_self (O := itemOrd)]
      simp [PyProof.Rows.lexLt]
    · rw [lex_diff (O := itemOrd) (by simpa using e2)]
      show decide (p < p') = _
      exact decide_eq_decide.mpr (by omega)
  · rw [lex_diff (O := itemOrd) (by simpa using e)]
    show decide (k < k') = _
    exact decide_eq_decide.mpr (by omega)
def aGeT (K : PySem.W.Frag) : R2 := fun x y H Q => ∃ a b k p k' p', x = .ref a ∧ y = .ref b ∧ SqT K H a [.int k, .int p] ∧ SqT K H b [.int k', .int p'] ∧ Q (.bl (decide (¬ (k < k' ∨ (k = k' ∧ p < p'))))) H
theorem oGeT {X : Cx} (hu : X.A.units + 64 < cLine) : OpR X (compareOp .GtE) (aGeT X.K) := by
  intro pins s σ H x y v u Q I rx ry h
  obtain ⟨a, b, k, p, k', p', rfl, rfl, h1, h2, q⟩ := h
  obtain ⟨as, r1⟩ := Dp.reads I (.tuple [.int k, .int p]) _ v (.tup h1 (.cons (.int k) (.cons (.int p) .nil))) rx
  obtain ⟨bs, r2⟩ := Dp.reads I (.tuple [.int k', .int p']) _ u (.tup h2 (.cons (.int k') (.cons (.int p') .nil))) ry
  refine ge_data r1 r2 rfl (fun z => by cases z) ?_ ⟨.bl _, H, I, rfl, ?_⟩
  · have : (PyData.tuple [.int k, .int p]).depth ≤ 64 := by show 1 ≤ 64; decide
    omega
  · rw [dataLt_pair]
    have e : (!decide (k < k' ∨ (k = k' ∧ p < p'))) = decide (¬ (k < k' ∨ (k = k' ∧ p < p'))) := decide_not.symm
    rw [e]
    exact q
theorem v_geT {K : PySem.W.Frag} {H : Hp} {Q : VK} {a b : Addr} {k p k' p' : Int} (h1 : SqT K H a [.int k, .int p]) (h2 : SqT K H b [.int k', .int p']) (q : Q (.bl (decide (¬ (k < k' ∨ (k = k' ∧ p < p'))))) H) : aGeT K (.ref a) (.ref b) H Q := ⟨a, b, k, p, k', p', rfl, rfl, h1, h2, q⟩
def aGtT (K : PySem.W.Frag) : R2 := fun x y H Q => ∃ a b k p k' p', x = .ref a ∧ y = .ref b ∧ SqT K H a [.int k, .int p] ∧ SqT K H b [.int k', .int p'] ∧ Q (.bl (decide (k' < k ∨ (k' = k ∧ p' < p)))) H
theorem oGtT {X : Cx} (hu : X.A.units + 64 < cLine) : OpR X (compareOp .Gt) (aGtT X.K) := by
  intro pins s σ H x y v u Q I rx ry h
  obtain ⟨a, b, k, p, k', p', rfl, rfl, h1, h2, q⟩ := h
  obtain ⟨as, r1⟩ := Dp.reads I (.tuple [.int k, .int p]) _ v (.tup h1 (.cons (.int k) (.cons (.int p) .nil))) rx
  obtain ⟨bs, r2⟩ := Dp.reads I (.tuple [.int k', .int p']) _ u (.tup h2 (.cons (.int k') (.cons (.int p') .nil))) ry
  refine gt_data r1 r2 rfl (fun z => by cases z) ?_ ⟨.bl _, H, I, rfl, ?_⟩
  · have : (PyData.tuple [.int k, .int p]).depth ≤ 64 := by show 1 ≤ 64; decide
    omega
  · rw [dataLt_pair]
    exact q
theorem v_gtT {K : PySem.W.Frag} {H : Hp} {Q : VK} {a b : Addr} {k p k' p' : Int} (h1 : SqT K H a [.int k, .int p]) (h2 : SqT K H b [.int k', .int p']) (q : Q (.bl (decide (k' < k ∨ (k' = k ∧ p' < p)))) H) : aGtT K (.ref a) (.ref b) H Q := ⟨a, b, k, p, k', p', rfl, rfl, h1, h2, q⟩
/-- t[:2] of three -/
theorem v_slT2 {K : PySem.W.Frag} {H : Hp} {Q : VK} {a : Addr} {x y z : V} (h : SqT K H a [x, y, z]) (q : ∀ p, H p = none → Q (.ref p) (upd H p (.tup [x, y]))) : rSlT K (.ref a) none (some 2) H Q :=
  ⟨a, _, rfl, h, by rintro ⟨_, h⟩; exact absurd (show (2 : Nat) = 3 from h) (by decide), q⟩
end SH

set_option Elab.async false
set_option linter.all false
set_option maxRecDepth 100000
set_option maxHeartbeats 4000000
/-! SHK: d.update(d2), keys that are tuples; a method whose class is known at the run alone -/
namespace SH
open PySem PySem.Spec PyProof.Rows L2
/-- d.update(d2) -/
def mergK (kvs more : List (List Key × V)) : List (List Key × V) := more.foldl (fun acc p => putK acc p.1 p.2) kvs
theorem mergK_len : ∀ (more kvs : List (List Key × V)), (mergK kvs more).length ≤ kvs.length + more.length
  | [], kvs => by simp [mergK]
  | p :: ps, kvs => by
    have h1 := mergK_len ps (putK kvs p.1 p.2)
    have h2 := length_putK kvs p.1 p.2
    show (mergK (putK kvs p.1 p.2) ps).length ≤ _
    rw [List.length_cons]; omega
theorem mergK_val : ∀ (more kvs : List (List Key × V)) (k : List Key), (∃ p ∈ more, p.1 = k ∧ valV (mergK kvs more) k = some p.2) ∨ ((∀ p ∈ more, p.1 ≠ k) ∧ valV (mergK kvs more) k = valV kvs k)
  | [], kvs, k => .inr ⟨by simp, rfl⟩
  | p :: ps, kvs, k => by
    show (∃ q ∈ p :: ps, q.1 = k ∧ valV (mergK (putK kvs p.1 p.2) ps) k = some q.2) ∨ ((∀ q ∈ p :: ps, q.1 ≠ k) ∧ valV (mergK (putK kvs p.1 p.2) ps) k = valV kvs k)
    rcases mergK_val ps (putK kvs p.1 p.2) k with ⟨q, hq, e1, e2⟩ | ⟨h1, h2⟩
    · exact .inl ⟨q, List.mem_cons_of_mem _ hq, e1, e2⟩
    · rw [valV_put] at h2
      by_cases e : k = p.1
      · rw [if_pos e] at h2
        exact .inl ⟨p, List.mem_cons_self .., e.symm, h2⟩
      · rw [if_neg e] at h2
        refine .inr ⟨fun q hq => ?_, h2⟩
        rcases List.mem_cons.mp hq with rfl | hq
        · exact fun z => e z.symm
        · exact h1 q hq
theorem mem_putK {kvs : List (List Key × V)} {k : List Key} {v : V} {p : List Key × V} (h : p ∈ putK kvs k v) : p = (k, v) ∨ p ∈ kvs := by
  unfold putK at h
  split at h
  · obtain ⟨q, hq, e⟩ := List.mem_map.mp h
    by_cases z : q.1 = k
    · rw [if_pos z] at e
      exact .inl (by rw [← e, z])
    · rw [if_neg z] at e
      exact .inr (by rw [← e]; exact hq)
  · rcases List.mem_append.mp h with h | h
    · exact .inr h
    · exact .inl (List.mem_singleton.mp h)
theorem putK_same {kvs : List (List Key × V)} {k : List Key} {v : V} : (k, v) ∈ putK kvs k v := by
  unfold putK
  split
  · rename_i h
    obtain ⟨q, hq, e⟩ := List.any_eq_true.mp h
    exact List.mem_map.mpr ⟨q, hq, by rw [if_pos (of_decide_eq_true e), of_decide_eq_true e]⟩
  · exact List.mem_append_right _ (List.mem_singleton.mpr rfl)
theorem putK_other {kvs : List (List Key × V)} {k : List Key} {v : V} {p : List Key × V} (h : p ∈ kvs) (n : p.1 ≠ k) : p ∈ putK kvs k v := by
  unfold putK
  split
  · exact List.mem_map.mpr ⟨p, h, by rw [if_neg n]⟩
  · exact List.mem_append_left _ h
theorem KT_all {H : Hp} : ∀ {more : List (List Key × V)} {ps : List (List Key × Addr × Value)} {kvs : List (List Key × V)} {xs : List (List Key × Addr × Value)}, KT H kvs xs → KT H more ps → KT H (mergK kvs more) (storedAllH xs ps)
  | _, _, kvs, xs, h, .nil => h
  | _, _, kvs, xs, h, .cons (a := p) (b := q) (l₁ := more) (l₂ := ps) hq t => by
    obtain ⟨e1, e2, e3⟩ := hq
    show KT H (mergK (putK kvs p.1 p.2) more) (storedAllH (storedH xs q.1 q.2.1 q.2.2) ps)
    exact KT_all (by rw [← e1]; exact h.put p.1 e2 e3) t
def rUpdT : V → List V → Hp → VK → Prop := fun x xs H Q => ∃ (a b : Addr) (kvs more : List (List Key × V)), x = .ref a ∧ xs = [.ref b] ∧ H a = some (.dT kvs) ∧ H b = some (.dT more) ∧ a ≠ b ∧ kvs ≠ [] ∧ kvs.length + more.length ≤ 1000000 ∧ Q .non (upd H a (.dT (mergK kvs more)))
theorem mt_updT {X : Cx} (hu : X.A.units + 1 < cLine) : MtR X "dict.update" rUpdT := by
  intro pins s σ H x xs v us Q I rx rxs h
  obtain ⟨a, b, kvs, more, rfl, rfl, ha, hb, hab, hne, hl, q⟩ := h
  cases rx
  obtain rfl := Vals.ref1 rxs
  obtain ⟨z, hd, xs', rel, dd⟩ := dt_of I.hok ha
  obtain ⟨z2, hd2, ps, rel2, dd2⟩ := dt_of I.hok hb
  have e1 := Paired.length rel
  have e2 := Paired.length rel2
  have hz : xs'.length + ps.length ≤ sizeLine := by rw [← e1, ← e2]; exact Nat.le_trans hl (by decide)
  refine call_update_dictH (knd := tupleKind (mixKind X.prog X.w)) (tupleKind_room_in1 hu) hab hd2 dd dd2 (.inl fun e => hne ?_) hz fun h' dd' _ hs => ?_
  · rw [e] at e1
    exact List.length_eq_zero_iff.mp e1
  · obtain ⟨o, es, ep, hq, h2, h3, h4, _, h5⟩ := dd'
    have hml : (mergK kvs more).length ≤ sizeLine := Nat.le_trans (mergK_len more kvs) (Nat.le_trans hl (by decide))
    have I2 : Inv X pins σ (upd H a (.dT (mergK kvs more))) { s with heap := h' } :=
      d_write (t' := s.toks) I (by rw [ha]; exact True.intro) hs ⟨o, hq⟩ ⟨hml, hd, _, (KT_all rel rel2).keeps (fun c ys ec => (by rw [upd_ne (ne_of ec ha (fun z => nomatch z))]; exact ec)), o, es, ep, hq, h2, h3, h4, h5⟩
    exact ⟨.non, _, I2, rfl, q⟩
theorem w_upd {H : Hp} {Q : VK} {a b : Addr} {kvs more : List (List Key × V)} (ha : H a = some (.dT kvs)) (hb : H b = some (.dT more)) (hab : a ≠ b) (hne : kvs ≠ []) (hl : kvs.length + more.length ≤ 1000000) (q : Q .non (upd H a (.dT (mergK kvs more)))) : rUpdT (.ref a) [.ref b] H Q :=
  ⟨a, b, kvs, more, rfl, rfl, ha, hb, hab, hne, hl, q⟩
theorem ty_dT {K : PySem.W.Frag} {H : Hp} {a : Addr} {kvs : List (List Key × V)} (ha : H a = some (.dT kvs)) : tyV K "dict" (.ref a) H := .inr (.inr (.inl ⟨rfl, .inr ⟨kvs, ha⟩⟩))
/-- either rule will do -/
theorem peOr {X : Cx} {e : Expr} {t u : TE} (h : PE X e t) (k : PE X e u) : PE X e (fun σ H Q => t σ H Q ∨ u σ H Q) := ⟨fun pins s σ H Q I q => q.elim (h.run pins s σ H Q I) (k.run pins s σ H Q I)⟩
/-- either rule will do, by name -/
def tOrE (t u : TE) : TE := fun σ H Q => t σ H Q ∨ u σ H Q
theorem peOrE {X : Cx} {e : Expr} {t u : TE} (h : PE X e t) (k : PE X e u) : PE X e (tOrE t u) := peOr h k
theorem r_orL {t u : TE} {σ : L2.St} {H : Hp} {Q : VK} (h : t σ H Q) : tOrE t u σ H Q := .inl h
theorem r_orR {t u : TE} {σ : L2.St} {H : Hp} {Q : VK} (h : u σ H Q) : tOrE t u σ H Q := .inr h
/-- an if by two tests, whose ways meet again -/
theorem r_waJ {c : Prop} [Decidable c] {te : TT} {t1 t2 : TS} {D : Ends} {σ : L2.St} {H : Hp} (W : L2.St → Hp → Prop) (hk : ∀ σ' H', W σ' H' → D.nx σ' H')
    (h1 : c → ∀ N : L2.St → Hp → Prop, (∀ σ' H', W σ' H' → N σ' H') → te σ H fun b H1 => if b = true then t1 { D with nx := N } σ H1 else t2 { D with nx := N } σ H1) (h2 : ¬ c → ∀ N : L2.St → Hp → Prop, (∀ σ' H', W σ' H' → N σ' H') → t2 { D with nx := N } σ H) :
    if decide c = true then te σ H (fun b H1 => if b = true then t1 D σ H1 else t2 D σ H1) else if false = true then t1 D σ H else t2 D σ H := r_w (fun h => h1 h D.nx hk) fun h => r_F (h2 h D.nx hk)
theorem r_naJ {c : Prop} [Decidable c] {te : TT} {t1 t2 : TS} {D : Ends} {σ : L2.St} {H : Hp} (W : L2.St → Hp → Prop) (hk : ∀ σ' H', W σ' H' → D.nx σ' H')
    (h1 : ¬ c → ∀ N : L2.St → Hp → Prop, (∀ σ' H', W σ' H' → N σ' H') → te σ H fun b H1 => if b = true then t1 { D with nx := N } σ H1 else t2 { D with nx := N } σ H1) (h2 : c → ∀ N : L2.St → Hp → Prop, (∀ σ' H', W σ' H' → N σ' H') → t2 { D with nx := N } σ H) :
    if (!decide c) = true then te σ H (fun b H1 => if b = true then t1 D σ H1 else t2 D σ H1) else if false = true then t1 D σ H else t2 D σ H := r_nw (fun h => h1 h D.nx hk) fun h => r_F (h2 h D.nx hk)
theorem inV_nats {p : Nat} {xs : List Nat} : inV (.int (p : Nat)) (xs.map fun n : Nat => V.int n) = decide (p ∈ xs) := by
  unfold inV
  rw [List.any_map]
  induction xs with
  | nil => simp
  | cons x xs ih =>
    rw [List.any_cons, ih]
    by_cases e : p = x
    · subst e; simp [eqV]
    · have e2 : ¬ ((x : Int) = (p : Int)) := by omega
      simp [eqV, e, e2]
theorem flat_nats {xs : List Nat} : (xs.map fun n : Nat => V.int n).all flatV = true := by
  rw [List.all_map]
  exact List.all_eq_true.mpr fun _ _ => rfl
section
variable {K : PySem.W.Frag} {H : Hp} {Q : VK} {a : Addr} {xs : List Nat} {p : Nat}
theorem v_inN (h : SqL K H a (xs.map fun n : Nat => V.int n)) (k : Q (.bl (decide (p ∈ xs))) H) : rIn K false (.int (p : Nat)) (.ref a) H Q := ⟨a, _, rfl, .inl h, rfl, flat_nats, by rw [inV_nats]; exact k⟩
theorem v_niN (h : SqL K H a (xs.map fun n : Nat => V.int n)) (k : Q (.bl (!decide (p ∈ xs))) H) : rIn K true (.int (p : Nat)) (.ref a) H Q := ⟨a, _, rfl, .inl h, rfl, flat_nats, by rw [inV_nats]; exact k⟩
end
/-! dicts of numbers -/
theorem v_dputK {H : Hp} {P : Hp → Prop} {d : Addr} {kvs : List (Key × V)} {i : Int} {v : V} (hd : H d = some (.dK kvs)) (hl : kvs.length < 1000000) (k : P (upd H d (.dK (putK kvs (.inl i) v)))) : kDPut (.ref d) (.int i) v H P := ⟨d, _, rfl, DPut.k (k := .inl i) hd (Nat.lt_trans hl (by decide)), k⟩
theorem v_dgetK {H : Hp} {Q : VK} {d : Addr} {kvs : List (Key × V)} {i : Int} {v : V} (hd : H d = some (.dK kvs)) (e : valV kvs (.inl i) = some v) (q : Q v H) : kDGet (.ref d) (.int i) H Q := ⟨d, v, rfl, by rw [← e]; exact DGet.k (k := .inl i) hd, q⟩
/-! isinstance of an own class -/
structure IsiC (K : PySem.W.Frag) (C : Addr) : Prop where
  ca : PySem.W.findIn K (.ref C) "__class__" = some (some (.builtin "object.__class__"))
  cn : PySem.W.specialIn K (.builtin "object.__class__") "__get__" = some (some (.builtin "getset_descriptor.__get__"))
  ct : PySem.W.takesIn K (.builtin "object.__class__") = some true
  cm : PySem.W.mroIn K C (.type "object") = some true
theorem isi_ins {K : PySem.W.Frag} {H : Hp} {Q : VK} {a C D dx : Addr} {fs : List (Str × V)} {b : Bool} (ho : H a = some (.ins C dx fs)) (cl : Cls K C) (i : IsiC K C) (kt : PySem.W.kitOne K (.ref C) (.ref D) = some b) (k : Q (.bl b) H) : rIsi K [.ref a, .ref D] H Q :=
  v_isi (.own D) (.base (.ins ho cl i.ca i.cn i.ct i.cm)) kt k
end SH

set_option Elab.async false
set_option linter.all false
set_option maxRecDepth 100000
set_option maxHeartbeats 4000000
/-! SHN: C(e, .., k = v): an instance made with keywords -/
namespace SH
open PySem PySem.Spec PyProof.Rows L2
structure CalCK (P : Program) (w : World) (K : PySem.W.Frag) (mg : Str → Option Value) (base : Heap) (CX : CXT) (k : Nat) (x : Str) (C : Addr) (n : Nat) (ks : List Str) (gV : List V → List V → List V) (sp : Sp) : Prop where
  ex : ∃ (f : Addr) (fd : FuncData) (ps : List Str) (g : List Value → List Value → List Value), mg x = some (.ref C) ∧ L2.Mk K C f ∧ KBn K fd ps (n + 1) ks g gV ∧ FnOk P w K mg base CX k f fd ps sp
section
variable {X : Cx} {CX : CXT} {k j n : Nat} {C : Addr} {sp : Sp} {gV : List V → List V → List V} {ks : List Str} {E : XK} {x : Str} {p pos : Pos} {e : Expr} {es : List Expr} {kws : List Keyword} {t tk : TA}
theorem pe_makeKF (c : CalCK X.prog X.w X.K X.mg X.base CX j x C n ks gV sp) (hr : Room k X.A) (hg : Gl X x) (hx : Passes CX X E) (ha : PA X (e :: es) t) (hkw : PK X kws tk) (hk : j + 1 ≤ k := by decide)
    (hall : (backToKw pos (keywordEach kws X.env)).all (·.1.isSome) = true := by rfl) (hks : (backToKw pos (keywordEach kws X.env)).filterMap (·.1) = ks := by rfl)
    (hdb : (x == ("__debug__" : Str)) = false := by decide) (he : starEach (e :: es) X.env = (false, eval e X.env) :: starEach es X.env := by rfl)
    (hpl : ((backTo pos (starEach (e :: es) X.env)).any (·.1) || (backToKw pos (keywordEach kws X.env)).any (·.1.isNone)) = false := by rfl) :
    PE X (.Call (.Name x p) (e :: es) kws pos) (tMakeN C n ks.length sp gV E t tk) := by
  obtain ⟨f, fd, ps, g, h1, h2, h3, h5⟩ := c.ex
  exact pe_makeN h2 h5 (hr.mono hk) hg h1 h3 hx ha hkw hall hks hdb he hpl
def kMakeN (C : Addr) (n m : Nat) (sp : Sp) (gV : List V → List V → List V) (E : XK) (Q : VK) (vs zs : List V) (H2 : Hp) : Prop := vs.length = n ∧ zs.length = m ∧
  ∀ x dx, H2 x = none → H2 dx = none → dx ≠ x → sp (gV (.ref x :: vs) zs) (upd (upd H2 dx (.own x)) x (.ins C dx [])) (fun v H3 => v = .non ∧ Q (.ref x) H3) E
theorem r_makeN {C : Addr} {n m : Nat} {σ : L2.St} {H : Hp} {Q : VK} (h : t σ H fun vs H1 => tk σ H1 fun zs H2 => kMakeN C n m sp gV E Q vs zs H2) : tMakeN C n m sp gV E t tk σ H Q := h
end
/-! a name of one's own that holds a def of the module -/
section
variable {X : Cx} {k j i : Nat} {f : Addr} {sp : Sp} {x : Str} {p pos : Pos} {e : Expr} {es : List Expr} {t : TA}
theorem pe_callLF (c : Held X.prog X.w X.K X.mg X.base j f sp) (hr : Room k X.A) (hN : X.N[i]? = some x) (hv : Vis X.env.scope x) (ha : PA X (e :: es) t) (hk : j ≤ k := by decide)
    (hdb : (x == ("__debug__" : Str)) = false := by decide) (hcd : (x == ("__classdict__" : Str)) = false := by decide)
    (he : starEach (e :: es) X.env = (false, eval e X.env) :: starEach es X.env := by rfl) (hpl : (backTo pos (starEach es X.env)).any (·.1) = false := by rfl) : PE X (.Call (.Name x p) (e :: es) [] pos) (tCallL i f sp [] (fun _ _ _ => False) t) := by
  obtain ⟨fd, ps, F, h1, h2⟩ := c.ex
  exact pe_callL F (hr.mono hk) hN hv h1 h2 .nil (fun _ _ _ _ _ _ _ z => z.elim) ha hdb hcd he hpl
theorem r_callL {σ : L2.St} {H : Hp} {Q : VK} {E : XK} (hs : σ[i]? = some (some (.ref f))) (k : t σ H fun vs H1 => sp (vs ++ []) H1 Q E) : tCallL i f sp [] E t σ H Q := ⟨hs, k⟩
end
end SH

set_option Elab.async false
set_option linter.all false
set_option maxRecDepth 100000
set_option maxHeartbeats 4000000
/-! SHR: C() where C has no __init__ but object's -/
namespace SH
open PySem PySem.Spec PyProof.Rows L2
structure MkP (K : PySem.W.Frag) (C : Addr) : Prop where
  makes : PySem.W.makesIn K C = true
  init : PySem.W.findIn K (.ref C) "__init__" = some (some (.builtin "object.__init__"))
  kp : PySem.W.keepIn K (.ref C) = true
def tMakeP (C : Addr) : TE := fun σ H Q => ∀ x dx, H x = none → H dx = none → dx ≠ x → Q (.ref x) (upd (upd H dx (.own x)) x (.ins C dx []))
theorem pe_makeP {X : Cx} {C : Addr} {x : Str} {p pos : Pos} (M : MkP X.K C) (hg : Gl X x) (hm : X.mg x = some (.ref C)) (hdb : (x == ("__debug__" : Str)) = false := by decide) : PE X (.Call (.Name x p) [] [] pos) (tMakeP C) := by
  refine ⟨fun pins s σ H Q I h => ?_⟩
  refine wpAny_Call_Name_kw (ld_glob I hg hm ?_ hdb)
  refine PySem.W.callWith_K0 I.kIn M.kp ?_
  have hq := h (s.heap.objs.size + 1) s.heap.objs.size (I.hok.fresh (Nat.le_succ _)) (I.hok.fresh (Nat.le_refl _)) (Nat.ne_of_lt (Nat.lt_succ_self _))
  have I2 := Inv.made (C := C) I
  refine wpAny_call (make_map0 I.kIn M.makes M.init (fun self => PySem.W.Looks.of_pure (PySem.W.oi_bind self)) ?_)
  have hx : ((s.heap.push PySem.W.emptyDict).push (PySem.W.instObj C s.heap.objs.size)).get? (s.heap.objs.size + 1) = some (PySem.W.instObj C s.heap.objs.size) := by heap_get
  refine codeAny_call_builtin PySem.W.oi_plain PySem.W.entry_oi (PySem.W.check_slot PySem.W.oi_kind PySem.W.oi_split ?_ (PySem.W.oi_args _) ?_)
  · have LT : PySem.W.Looks (model X.prog X.w) ((s.heap.push PySem.W.emptyDict).push (PySem.W.instObj C s.heap.objs.size)) (typeOf (.ref (s.heap.objs.size + 1))) (.ref C) := fun A Q E s k q => wpAny_typeOf_ref (k _ _ hx) q
    exact LT.andThen (PySem.W.looks_mroIn I2.kIn (mro_obj M.makes))
  · rw [PySem.W.oi_run]
    exact wpAny_pure ⟨rfl, ⟨V.ref (s.heap.objs.size + 1), _, I2, rfl, hq⟩⟩
/-! membership of data in a list of data -/
def rInD (K : PySem.W.Frag) (neg : Bool) : R2 := fun x y H Q => ∃ d ds, Dp K H x d ∧ Dp K H y (.list ds) ∧ d.canLay0 = true ∧ PyData.canLayAll0 ds = true ∧ d.depth ≤ 8 ∧ Q (.bl (if neg then !(ds.any fun e => PyData.eqv e d) else ds.any fun e => PyData.eqv e d)) H
theorem op_inD {X : Cx} (hu : X.A.units + 64 < cLine) : OpR X (compareOp .In) (rInD X.K false) := by
  intro pins s σ H x y v u Q I rx ry h
  obtain ⟨d, ds, hd, he, sd, se, hdp, q⟩ := h
  obtain ⟨as, r1⟩ := Dp.reads I d x v hd rx
  obtain ⟨bs, r2⟩ := Dp.reads I _ y u he ry
  refine SeqAt.in_list_reads r2 r1 se sd ?_ ⟨.bl _, H, I, rfl, q⟩
  have := Nat.min_le_right (PyData.depthAll ds) d.depth
  omega
theorem op_notInD {X : Cx} (hu : X.A.units + 64 < cLine) : OpR X (compareOp .NotIn) (rInD X.K true) := by
  intro pins s σ H x y v u Q I rx ry h
  obtain ⟨d, ds, hd, he, sd, se, hdp, q⟩ := h
  obtain ⟨as, r1⟩ := Dp.reads I d x v hd rx
  obtain ⟨bs, r2⟩ := Dp.reads I _ y u he ry
  refine SeqAt.notIn_list_reads r2 r1 se sd ?_ ⟨.bl _, H, I, rfl, q⟩
  have := Nat.min_le_right (PyData.depthAll ds) d.depth
  omega
section
variable {K : PySem.W.Frag} {H : Hp} {α : Type} [Enc α] {p : Addr} {vs : List V} {xs : List α} {v : V} {x : α} {Q : VK}
theorem v_notInE (h1 : Is K H v x) (h2 : SqL K H p vs) (h3 : IsL K H vs xs) (k : ∀ b : Bool, (b = true ↔ x ∈ xs) → Q (.bl (!b)) H) (hn : Enc.n α ≤ 8 := by decide) : rInD K true v (.ref p) H Q := by
  refine ⟨Enc.d x, xs.map Enc.d, h1, .lst h2 h3, Enc.lay x, Enc.layAll xs, Nat.le_trans (Enc.deep x) hn, ?_⟩
  rw [if_pos rfl]
  refine k _ ?_
  rw [List.any_map, List.any_eq_true]
  constructor
  · rintro ⟨y, hy, e⟩
    have e' : PyData.eqv (Enc.d y) (Enc.d x) = true := e
    rw [Enc.eqv] at e'
    obtain rfl := @of_decide_eq_true _ (Enc.dec y x) e'
    exact hy
  · intro h
    refine ⟨x, h, ?_⟩
    show PyData.eqv (Enc.d x) (Enc.d x) = true
    rw [Enc.eqv]
    exact @decide_eq_true _ (Enc.dec x x) rfl
end
end SH

set_option Elab.async false
set_option linter.all false
set_option maxRecDepth 100000
set_option maxHeartbeats 4000000
/-! SHT: set(xs), xs a list of ints -/
namespace SH
open PySem PySem.Spec PyProof.Rows L2
section
variable {P : Program} {w : World} {A : Around} {E : Value → Shared → Prop} {s : Shared}
abbrev set0O (w : World) : Obj := { cls := .type "set", dict := none, data := .set #[] 0 (.fresh 0 0 (!w.params.followText "set-order")) }
set_option maxHeartbeats 8000000 in
theorem call_set_lst {l : Addr} {items : Array Value} (ns : List Int) {Q : Value → Shared → Prop} (hh : A.handled = none) (hl : s.heap.IsList l items) (hit : IntsAre items.toList ns) (hb : ns.length + 1 < scanBound)
    (k : ∀ (h' : Heap) (tk c : Nat), SetR w h' s.heap.objs.size (fun j => decide (j ∈ ns)) c → c ≤ ns.length → (∀ b o, s.heap.get? b = some o → h'.get? b = some o) → Q (.ref s.heap.objs.size) { s with heap := h', toks := tk }) :
    wpAny (model P w) A (call (.type "set") [.ref l]) Q E s := by
  have hisz : items.size = ns.length := by have q := IntsAre.length hit; rw [Array.length_toList] at q; exact q
  obtain ⟨c, tl, hmro⟩ := F.called_set.mro; have hmade := F.called_set.made; have hsub := F.called_set.sub
  refine wpAny_call (codeAny_of_tree ?_); show wpAny _ _ (callAny (.type "set") _) _ _ _
  refine wpAny_pure ⟨Code.quiet_builtin _ (by decide +kernel), codeAny_builtin F.entry_type_call ?_⟩; rw [Around.under_plain (weight_type_call_type "set" [.ref l] []) rfl]
  have h1 := F.called_set.notType; have h2 := F.called_set.canCreate; have hct := F.typeCall_set_1 (.ref l)
  (repeat (any_goals (first | assumption | wp_step)))
  refine codeAny_mono (code_set_led1 (.ref l) (E := E) (Q₁ := fun obj s1 => obj = .ref s.heap.objs.size ∧ s1 = { s with heap := s.heap.push (set0O w) }) ⟨rfl, rfl⟩) fun r s1 hr => ?_
  match r, hr with
  | .error e, hr => exact hr
  | .ok .next, hr => exact hr.elim
  | .ok .brk, hr => exact hr.elim
  | .ok .cont, hr => exact hr.elim
  | .ok (.ret obj), hr =>
    obtain ⟨e1, e2⟩ := hr; subst e1; subst e2
    have hS : (s.heap.push (set0O w)).get? s.heap.objs.size = some (set0O w) := Heap.get?_push_size _ rfl
    have hT : Shared.TypeIs { s with heap := s.heap.push (set0O w) } (.ref s.heap.objs.size) "set" := ⟨_, hS, rfl⟩
    have hli := F.called_set.init.lookup; have hbi := F.called_set.init.bind (.ref s.heap.objs.size)
    (repeat (any_goals (first | assumption | wp_step)))
    refine codeAny_mono (codeAny_call_builtin (R := wants (fun r s2 => r = .none ∧ ∃ h' tk c, s2 = { s with heap := h', toks := tk } ∧ SetR w h' s.heap.objs.size (fun j => decide (j ∈ ns)) c ∧ c ≤ ns.length ∧ (∀ b o, s.heap.get? b = some o → h'.get? b = some o)) E) F.called_set.init.plain F.entry_set_init (check_set_init_1 hT ?_)) fun r2 s2 hr2 => ?_
    · obtain ⟨⟨ocls, odict, odata, oslots⟩, hol, hcl, nl, hdl⟩ := id hl
      simp only at hcl hdl; subst hcl; subst hdl
      have hol' : (s.heap.push (set0O w)).get? l = some { cls := .type "list", dict := odict, data := .seq items nl, slots := oslots } := Heap.get?_push_of_some _ hol
      have hsls := F.sub_list_set; have hslf := F.sub_list_frozenset
      have hne : (Value.type "list" == Value.type "dict") = false := by decide
      have hl1 : (s.heap.push (set0O w)).IsList l items := ⟨_, hol', rfl, nl, rfl⟩
      unfold Builtin.«set.__init__» noKeywords; unfold Builtin.Frozenset.updateFrom
      generalize hPI : pyIter = PI
      wp_walk; subst hPI
      refine wpAny_pyIter_list hl1 ?_; refine wpAny_bind (wpAny_runValue ?_)
      have hlS : l < s.heap.objs.size := Heap.lt_size hol; have hh3 : A.in1.in1.in1.handled = none := by simp [hh]
      have hz1 : (s.heap.push (set0O w)).objs.size = s.heap.objs.size + 1 := Heap.size_push ..
      have hneI : (s.heap.push (set0O w)).objs.size ≠ l := by rw [hz1]; exact Nat.ne_of_gt (Nat.lt_succ_of_lt hlS)
      have hSf : s.heap.objs.size ∉ [(s.heap.push (set0O w)).objs.size, l] := by rw [hz1]; simp only [List.mem_cons, List.not_mem_nil, or_false, not_or]; exact ⟨Nat.ne_of_lt (Nat.lt_succ_self _), Nat.ne_of_gt hlS⟩
      have hval : ∀ (i : Nat) (v : Value), items[i]? = some v → ∃ k t, ns[i]? = some k ∧ v = .int k t := fun i v hv => by
        have hi : i < ns.length := by have := (Array.getElem?_eq_some_iff.mp hv).1; omega
        obtain ⟨t, e⟩ := PyProof.Rows.IntsAre.int_at hit i v (by rw [Array.getElem?_toList]; exact hv)
        exact ⟨ns[i], t, List.getElem?_eq_getElem hi, by rw [e, List.getD_eq_getElem?_getD, List.getElem?_eq_getElem hi] <;> rfl⟩
      refine set_update_ints ((Walks.list (prog := P) (w := w) hh3 _ l hneI.symm items).toS) s.heap.objs.size hSf ns hisz hb hval (items.size - 0) 0 _ (by omega) (Nat.zero_le _) ⟨⟨_, Heap.get?_push_size _ rfl, rfl, rfl⟩, hl1.push _⟩ ⟨0, Nat.le_refl 0, setR_new_at (Heap.get?_push_of_some _ hS)⟩ ?_
      intro s' c' hm hc' hS'
      obtain ⟨h', g2, d', tk', os'⟩ := s'
      obtain rfl : g2 = s.gens := hm.gens
      obtain rfl : d' = s.drawn := hm.drawn
      obtain rfl : os' = s.os := hm.os
      show wpAny _ _ _ _ _ _; refine wpAny_pure ?_; show wpAny _ _ (ret Value.none) _ _ _
      rw [hisz] at hc'
      refine wpAny_pure ⟨rfl, h', tk', c', rfl, hS', hc', fun b o e => hm.heap b o ?_ (Heap.get?_push_of_some _ (Heap.get?_push_of_some _ e))⟩
      have hb0 : b < s.heap.objs.size := Heap.lt_size e
      rw [hz1]; simp only [List.mem_cons, List.not_mem_nil, or_false, not_or]; exact ⟨Nat.ne_of_lt hb0, Nat.ne_of_lt (Nat.lt_succ_of_lt hb0)⟩
    · match r2, hr2 with
      | .error e, hr2 => exact hr2
      | .ok .next, hr2 => exact hr2.elim
      | .ok .brk, hr2 => exact hr2.elim
      | .ok .cont, hr2 => exact hr2.elim
      | .ok (.ret r), hr2 =>
        obtain ⟨e1, h', tk, c', e2, hS', hc', hk'⟩ := hr2
        subst e1; subst e2
        (repeat (any_goals (first | assumption | wp_step)))
        exact k _ _ _ hS' hc' hk'
end
/-- set(xs) -/
def rSetL (K : PySem.W.Frag) (w : World) : List V → Hp → VK → Prop := fun vs H Q => ∃ (a : Addr) (ns : List Int), vs = [V.ref a] ∧ SqL K H a (ns.map V.int) ∧ ns.length ≤ 1000 ∧
  ∀ (p : Addr) (c : Nat), H p = none → c ≤ ns.length → Q (.ref p) (upd H p (SetO w p (fun j => decide (j ∈ ns)) c))
theorem cr_setL {X : Cx} (hc : X.calm = true) : CallR X (.type "set") (rSetL X.K X.w) := by
  intro pins s σ H vs us Q I r h
  obtain ⟨a, ns, rfl, hq, hl, q⟩ := h
  rw [Vals.ref1 r]
  obtain ⟨its, rv, pt, hz⟩ := I.list hq
  have hi : IntsAre its.toArray.toList ns := ints_of_vals rv
  refine call_set_lst ns (I.ok.hd hc) pt.isList hi (by unfold scanBound; omega) fun h' tk c R1 hcn k => ?_
  exact ⟨.ref _, upd H s.heap.objs.size (SetO X.w s.heap.objs.size (fun j => decide (j ∈ ns)) c), I.laid (t' := tk) k (Nat.le_refl _) (setO_new R1), rfl, q _ c (I.hok.fresh (Nat.le_refl _)) hcn⟩
/-- sorted(set(xs)), xs ints -/
def kSortSet (K : PySem.W.Frag) (w : World) (Q : VK) : VK := fun v H1 => ∃ (a : Addr) (ns : List Int), v = .ref a ∧ SqL K H1 a (ns.map V.int) ∧ ns.length < 64 ∧
  ∀ (ms : List Int) (p q : Addr) (o : HO), ms.Pairwise (· < ·) → (∀ k, k ∈ ms ↔ k ∈ ns) → ms.length ≤ ns.length → H1 p = none → (upd H1 p o) q = none → Q (.ref q) (upd (upd H1 p o) q (.lst (ms.map V.int)))
end SH

set_option Elab.async false
set_option linter.all false
set_option maxRecDepth 100000
set_option maxHeartbeats 4000000
/-! SHX: defs that raise, try, what is caught -/
namespace SH
open PySem PySem.Spec PyProof.Rows L2
section
variable {X : Cx} {CX : CXT} {k j : Nat} {sp : Sp} {dvs : List V} {E : L2.St → XK} {x : Str} {p pos : Pos} {e : Expr} {es : List Expr} {t : TA}
/-- a call in a try: what is raised is wished for at the slots -/
theorem pe_callX (c : Cal X.prog X.w X.K X.mg X.base CX j x dvs sp) (hr : Room k X.A) (hg : Gl X x) (hx : ∀ σ, PassesAt CX X σ (E σ)) (ha : PA X (e :: es) t) (hk : j ≤ k := by decide)
    (hdb : (x == ("__debug__" : Str)) = false := by decide) (he : starEach (e :: es) X.env = (false, eval e X.env) :: starEach es X.env := by rfl) (hpl : (backTo pos (starEach es X.env)).any (·.1) = false := by rfl) :
    PE X (.Call (.Name x p) (e :: es) [] pos) (tCallSD sp dvs E t) := by
  obtain ⟨f, fd, ps, ds, h1, h2, h3, h4, h5⟩ := c.ex
  exact pe_callSD h5 (hr.mono hk) hg h1 h2 h3 h4 hx ha hdb he hpl
theorem r_callX {σ : L2.St} {H : Hp} {Q : VK} (h : t σ H fun vs H1 => sp (vs ++ dvs) H1 Q (E σ)) : tCallSD sp dvs E t σ H Q := h
/-- isinstance of what a suite holds, an error without a dict -/
def rIsX (K : PySem.W.Frag) (cls : Value) (d : Option Addr) (a : Addr) : List V → Hp → VK → Prop := fun xs H Q => ∃ D, cls = .ref D ∧ d = none ∧ ExcC K D ∧ rIsE K D a xs H Q
theorem call_isX {a : Addr} {oe : Obj} {cls : Value} {d : Option Addr} {pn : List (Addr × Obj)} (hz : Zc cls d oe) (hf : ∃ vs, oe.data = .fields vs) : CallR (X.suite a ((a, oe) :: pn)) (.builtin "isinstance") (rIsX X.K cls d a) := by
  intro pins s σ H xs us Q I r h
  obtain ⟨D, rfl, rfl, C, h⟩ := h
  exact call_isE C hz hf pins s σ H xs us Q I r h
theorem v_isX {K : PySem.W.Frag} {D C a : Addr} {H : Hp} {Q : VK} {b : Bool} (hc : ExcC K D) (h : PySem.W.kitOne K (.ref D) (.ref C) = some b) (k : Q (.bl b) H) : rIsX K (.ref D) none a [.ref a, .ref C] H Q :=
  ⟨D, rfl, rfl, hc, .ref C, .ref C, b, rfl, fun _ r => r, h, k⟩
theorem v_isXT {K : PySem.W.Frag} {D a : Addr} {n : String} {H : Hp} {Q : VK} {b : Bool} (hc : ExcC K D) (h : PySem.W.kitOne K (.ref D) (.type n) = some b) (k : Q (.bl b) H) : rIsX K (.ref D) none a [.ref a, .ty n] H Q :=
  ⟨D, rfl, rfl, hc, .ty n, .type n, b, rfl, fun _ r => r, h, k⟩
/-- what an except clause asks: the class is caught -/
theorem r_catch {K : PySem.W.Frag} {c cls : Value} {d : Option Addr} {i : Nat} {ts : Addr → Value → Option Addr → TS} {Wo : WX} {D : Ends} {σ : L2.St} {H : Hp} (h : PySem.W.exmOne K cls c = some true)
    (k : ∀ a, H a = none → ts a cls d { nx := fun σ' H' => D.nx (σ'.set i none) H', rt := D.rt, bk := fun σ' H' => D.bk (σ'.set i none) H', ct := fun σ' H' => D.ct (σ'.set i none) H' } (σ.set i (some (.ref a))) H) : wAs K c i ts Wo D cls d σ H :=
  ⟨true, h, fun _ => k, fun z => by cases z⟩
end
end SH

set_option Elab.async false
set_option linter.all false
set_option maxRecDepth 100000
set_option maxHeartbeats 4000000
/-! SHS: texts -/
namespace SH
open PySem PySem.Spec PyProof.Rows L2
theorem v_isiSS {K : PySem.W.Frag} {H : Hp} {Q : VK} {s : Str} (k : Q (.bl true) H) : rIsi K [.str s, .ty "str"] H Q := ⟨.str s, .ty "str", .type "str", .type "str", true, rfl, .ty _, .base (.str s), by rfl, k⟩
theorem ty_str {K : PySem.W.Frag} {H : Hp} {s : Str} : tyV K "str" (.str s) H := rfl
/-! zip of two tuples -/
section
variable {K : PySem.W.Frag} {a b : Addr} {xs ys : List V}
theorem walk_zipT {n : Nat} (hn : n = min xs.length ys.length) : Walk (RZ.ItzT K a b) n (fun H => SqT K H a xs ∧ SqT K H b ys) (YPair (fun i => xs[i]?) (fun i => ys[i]?)) := by
  subst hn
  refine ⟨fun i _ hi q => ?_, fun _ q => ⟨xs, ys, q.1, q.2, by omega⟩, fun i H v H' _ q y => ?_⟩
  · have h1 : i < xs.length := by omega
    have h2 : i < ys.length := by omega
    exact ⟨xs, ys, xs[i], ys[i], q.1, q.2, by simp [h1], by simp [h2]⟩
  · obtain ⟨T, x, z, h1, h2, h3, h4, h5⟩ := y
    exact ⟨T, x, z, h1, h2, h3, h4 xs q.1, h5 ys q.2⟩
def kZipA (K : PySem.W.Frag) (R : It → Hp → Prop) : List V → Hp → Prop := fun vs H1 => ∃ a b xs ys, vs = [.ref a, .ref b] ∧ ((SqL K H1 a xs ∧ SqL K H1 b ys ∧ R (Itz K a b) H1) ∨ (SqT K H1 a xs ∧ SqT K H1 b ys ∧ R (RZ.ItzT K a b) H1))
theorem r_iZipA {as : TA} {σ : L2.St} {H : Hp} {R : It → Hp → Prop} (h : as σ H (kZipA K R)) : RZ.iZipA K as σ H R := h
theorem v_zipAT {H : Hp} {R : It → Hp → Prop} (h1 : SqT K H a xs) (h2 : SqT K H b ys) (k : R (RZ.ItzT K a b) H) : kZipA K R [.ref a, .ref b] H := ⟨a, b, xs, ys, rfl, .inr ⟨h1, h2, k⟩⟩
end
end SH

set_option Elab.async false
set_option linter.all false
set_option maxRecDepth 100000
set_option maxHeartbeats 4000000
/-! SHY: exceptions with fields: made by an own __init__, raised, caught, read; methods and makes that raise in a try -/
namespace SH
open PySem PySem.Spec PyProof.Rows L2
/-- the exception class at C, by its name x, made by an __init__ that keeps sp -/
structure CalE (P : Program) (w : World) (K : PySem.W.Frag) (mg : Str → Option Value) (base : Heap) (k : Nat) (x : Str) (C : Addr) (sp : Sp) : Prop where
  ox : OexC K C
  ex : ∃ (f : Addr) (fd : FuncData) (ps : List Str), mg x = some (.ref C) ∧ PySem.W.findIn K (.ref C) "__init__" = some (some (.ref f)) ∧ PySem.W.typeIn K (.ref f) = some (.type "function") ∧ Binds K fd ps [] ∧ FnOk P w K mg base CX0 k f fd ps sp
section
variable {X : Cx} {CX : CXT} {k j : Nat} {C : Addr} {sp : Sp} {dvs : List V} {E : L2.St → XK} {x m : Str} {p pos apos : Pos} {e o : Expr} {es : List Expr} {ta : TE} {t : TA}
theorem pmk_oexF (c : CalE X.prog X.w X.K X.mg X.base j x C sp) (hr : Room k X.A) (hg : Gl X x) (ha : PA X (e :: es) t) (hk : j + 1 ≤ k := by decide)
    (hdb : (x == ("__debug__" : Str)) = false := by decide) (he : starEach (e :: es) X.env = (false, eval e X.env) :: starEach es X.env := by rfl) (hpl : (backTo pos (starEach es X.env)).any (·.1) = false := by rfl) :
    PMk X (.Call (.Name x p) (e :: es) [] pos) (tMkO C sp [] t) := by
  obtain ⟨f, fd, ps, h1, h2, h3, h4, h5⟩ := c.ex
  exact pmk_oex c.ox h2 h3 h5 (hr.mono hk) h4 .nil pass0 hg h1 ha hdb he hpl
def tMethSD (C : Addr) (m : Str) (sp : Sp) (dvs : List V) (E : L2.St → XK) (ta : TE) (t : TA) : TE := fun σ H Q => ta σ H fun x H1 => ∃ a dx fs, x = .ref a ∧ H1 a = some (.ins C dx fs) ∧ fs.lookup m = none ∧ t σ H1 fun vs H2 => sp (x :: (vs ++ dvs)) H2 Q (E σ)
theorem pe_methX {pl : Sem Bool} (he : PE X o ta) (c : CalM X.prog X.w X.K X.mg X.base CX j C m dvs sp) (hr : Room k X.A) (hx : ∀ σ, PassesAt CX X σ (E σ)) (ha : PA X (e :: es) t) (hk : j ≤ k := by decide)
    (hst : starEach (e :: es) X.env = (false, eval e X.env) :: starEach es X.env := by rfl) (hpl : (backTo pos (starEach es X.env)).any (·.1) = false := by rfl)
    (ht : eval (.Call (.Attribute o m apos) (e :: es) [] pos) X.env = (do
      let ov ← eval o X.env; standAt apos.atName
      let (f, first) ← holding [ov] (getMethod ov m pl); callWith pos f first (backTo pos (starEach (e :: es) X.env)) (backToKw pos (keywordEach [] X.env))) := by rfl) :
    PE X (.Call (.Attribute o m apos) (e :: es) [] pos) (tMethSD C m sp dvs E ta t) := by
  obtain ⟨f, fd, ps, ds, h1, h3, h4, h5⟩ := c.ex
  refine ⟨fun pins s σ H Q I h => PySem.W.methodCall_KW (pl := pl) (thn (he.run pins s σ H _ I h) fun u s1 ⟨x, H1, I1, rx, a, dx, fs, ex, ea, l, q⟩ => ?_) ht⟩
  subst ex; obtain rfl : u = Value.ref a := rx
  refine getmeth_ok I1 ea c.cl h1 l (PySem.W.callWith_K (first := [.ref a]) (h₀ := X.base) I.ok.mod.kin h1.kp (thn (ha.run pos pins s1 σ H1 _ I1 q) fun us s2 ⟨vs, H2, I2, r, q2⟩ => ⟨I2.kIn, ?_⟩) hst hpl)
  exact run_fnSD (us := .ref a :: us) (vs := .ref a :: vs) h5 (hr.mono hk) h3 h4 (hx σ) I2 (.cons rfl r) q2
theorem pe_methX0 {pl : Sem Bool} (he : PE X o ta) (c : CalM X.prog X.w X.K X.mg X.base CX j C m dvs sp) (hr : Room k X.A) (hx : ∀ σ, PassesAt CX X σ (E σ)) (hk : j ≤ k := by decide)
    (ht : eval (.Call (.Attribute o m apos) [] [] pos) X.env = (do
      let ov ← eval o X.env; standAt apos.atName
      let (f, first) ← holding [ov] (getMethod ov m pl); callWith pos f first (backTo pos (starEach [] X.env)) (backToKw pos (keywordEach [] X.env))) := by rfl) :
    PE X (.Call (.Attribute o m apos) [] [] pos) (tMethSD C m sp dvs E ta tNil) := by
  obtain ⟨f, fd, ps, ds, h1, h3, h4, h5⟩ := c.ex
  refine ⟨fun pins s σ H Q I h => PySem.W.methodCall_KW (pl := pl) (thn (he.run pins s σ H _ I h) fun u s1 ⟨x, H1, I1, rx, a, dx, fs, ex, ea, l, q⟩ => ?_) ht⟩
  subst ex; obtain rfl : u = Value.ref a := rx
  exact getmeth_ok I1 ea c.cl h1 l (PySem.W.callWith_K0 (first := [.ref a]) I1.kIn h1.kp (run_fnSD (us := [.ref a]) (vs := [.ref a]) h5 (hr.mono hk) h3 h4 (hx σ) I1 (.cons rfl .nil) q))
def tMakeSD (C : Addr) (sp : Sp) (dvs : List V) (E : L2.St → XK) (t : TA) : TE := fun σ H Q => t σ H fun vs H1 => ∀ x dx, H1 x = none → H1 dx = none → dx ≠ x → sp (.ref x :: (vs ++ dvs)) (upd (upd H1 dx (.own x)) x (.ins C dx [])) (fun v H2 => v = .non ∧ Q (.ref x) H2) (E σ)
theorem run_makeSD {f : Addr} {fd : FuncData} {ps : List Str} {ds : List Value} {pins : List (Addr × Obj)} {σ : L2.St} {H : Hp} {s : Shared} {Q : VK} {us : List Value} {vs : List V} (M : L2.Mk X.K C f) (F : FnOk X.prog X.w X.K X.mg X.base CX k f fd ps sp) (hr : Room (k + 1) X.A) (hb : Binds X.K fd ps ds) (hd : Vals dvs ds)
    (hx : PassesAt CX X σ (E σ)) (I : Inv X pins σ H s) (r : Vals vs us) (h : ∀ x dx, H x = none → H dx = none → dx ≠ x → sp (.ref x :: (vs ++ dvs)) (upd (upd H dx (.own x)) x (.ins C dx [])) (fun v H2 => v = .non ∧ Q (.ref x) H2) (E σ)) :
    wpAny (model X.prog X.w) X.A (call (.ref C) us) (EP X pins σ Q) X.xe s := by
  have hq := h (s.heap.objs.size + 1) s.heap.objs.size (I.hok.fresh (Nat.le_succ _)) (I.hok.fresh (Nat.le_refl _)) (Nat.ne_of_lt (Nat.lt_succ_self _)); have I2 := Inv.made (C := C) I
  have r2 : Vals (V.ref (s.heap.objs.size + 1) :: (vs ++ dvs)) (Value.ref (s.heap.objs.size + 1) :: (us ++ ds)) := .cons rfl (r.append hd); have hl : (Value.ref (s.heap.objs.size + 1) :: us ++ ds).length = ps.length := by have e := r2.length; rw [F.len _ _ _ _ hq] at e; exact e.symm
  refine wpAny_call (make_map (f := f) I.kIn M.makes M.init (beq_iff_eq.mp M.fn) (codeAny_mono (F.run _ X.stack _ _ ⟨Value.ref (s.heap.objs.size + 1) :: us, []⟩ (Value.ref (s.heap.objs.size + 1) :: (us ++ ds)) _ _ (E σ) (hr.make C us []) (I2.env0.make C us []) (hb _ (Value.ref (s.heap.objs.size + 1) :: us) I2.kIn hl) r2 hq) fun r s' hq' => ?_))
  match r, hq' with
  | .error e, hq' => exact hx pins _ _ e s' I2 hq'
  | .ok (.ret u), hq' => obtain ⟨v, H', I3, rv, ev, q3⟩ := I2.after hq'; subst ev; exact ⟨rv, ⟨V.ref (s.heap.objs.size + 1), H', I3, rfl, q3⟩⟩
  | .ok .next, hq' => exact False.elim hq'
  | .ok .brk, hq' => exact False.elim hq'
  | .ok .cont, hq' => exact False.elim hq'
theorem pe_makeX (c : CalC X.prog X.w X.K X.mg X.base CX j x C dvs sp) (hr : Room k X.A) (hg : Gl X x) (hx : ∀ σ, PassesAt CX X σ (E σ)) (ha : PA X (e :: es) t) (hk : j + 1 ≤ k := by decide)
    (hdb : (x == ("__debug__" : Str)) = false := by decide) (he : starEach (e :: es) X.env = (false, eval e X.env) :: starEach es X.env := by rfl) (hpl : (backTo pos (starEach es X.env)).any (·.1) = false := by rfl) :
    PE X (.Call (.Name x p) (e :: es) [] pos) (tMakeSD C sp dvs E t) := by
  obtain ⟨f, fd, ps, ds, h1, h2, h3, h4, h5⟩ := c.ex
  refine ⟨fun pins s σ H Q I h => wpAny_Call_Name_kw (ld_glob I hg h1 (PySem.W.callWith_K (h₀ := X.base) I.ok.mod.kin h2.kp (thn (ha.run pos pins s σ H _ I h) fun us s1 ⟨vs, H1, I1, r, q⟩ => ⟨I1.kIn, ?_⟩) he hpl) hdb)⟩
  exact run_makeSD h2 h5 (hr.mono hk) h3 h4 (hx σ) I1 r q
end
section
variable {K : PySem.W.Frag} {σ : L2.St} {H : Hp} {Q : VK} {C : Addr} {f : Str} {v : V}
/-- what is asked of the own __init__ of a class with one field -/
def sp1 (f : Str) (C : Addr) : Sp := fun vs H Q _ => ∃ (a : Addr) (v : V), vs = [.ref a, v] ∧ H a = some (exo a C none) ∧ ∀ dx, H dx = none → dx ≠ a → Q .non (upd (upd H dx (exd dx [(f, v)])) a (exo a C (some dx)))
def kMkO (C : Addr) (sp : Sp) (dvs : List V) (R : XK) : List V → Hp → Prop := fun vs H1 => vs.length ≤ 1000 ∧ ∀ a, H1 a = none → sp (.ref a :: (vs ++ dvs)) (upd H1 a (exo a C none))
  (fun v H2 => v = .non ∧ ∃ (d : Addr) (fs : List (Str × V)), H2 a = some (exo a C (some d)) ∧ H2 d = some (exd d fs) ∧ H1 d = none ∧ R (.ref C) (some d) (upd (del H2 a) d (.xd fs))) (fun _ _ _ => False)
theorem r_mkO {sp : Sp} {dvs : List V} {t : TA} {R : XK} (h : t σ H (kMkO C sp dvs R)) : tMkO C sp dvs t σ H R := h
theorem v_raise1 {R : XK} (q : ∀ d, H d = none → R (.ref C) (some d) (upd H d (.xd [(f, v)]))) : kMkO C (sp1 f C) [] R [v] H := by
  refine ⟨by simp, fun a ha => ⟨a, v, rfl, upd_same, fun dx hdx hne => ⟨rfl, dx, _, upd_same, by rw [upd_ne hne]; exact upd_same, (upd_free hdx).1, ?_⟩⟩⟩
  have hd := (upd_free hdx).1
  have e : upd (del (upd (upd (upd H a (exo a C none)) dx (exd dx [(f, v)])) a (exo a C (some dx))) a) dx (.xd [(f, v)]) = upd H dx (.xd [(f, v)]) := by
    funext b
    by_cases c1 : b = dx
    · rw [c1, upd_same, upd_same]
    · rw [upd_ne c1, upd_ne c1]
      by_cases c2 : b = a
      · rw [c2, del_same, ha]
      · rw [del_ne c2, upd_ne c2, upd_ne c1, upd_ne c2]
  rw [e]
  exact q dx hd
end
section
variable {σ : L2.St} {H : Hp} {Q : VK} {C a dx : Addr} {m : Str} {sp : Sp} {dvs : List V} {ta : TE} {t : TA} {fs : List (Str × V)} {vs : List V}
def kMethX (C : Addr) (m : Str) (sp : Sp) (dvs : List V) (E : XK) (t : TA) (σ : L2.St) (Q : VK) : VK := fun x H1 => ∃ a dx fs, x = .ref a ∧ H1 a = some (.ins C dx fs) ∧ fs.lookup m = none ∧ t σ H1 fun vs H2 => sp (x :: (vs ++ dvs)) H2 Q E
theorem r_methX {E : L2.St → XK} (h : ta σ H (kMethX C m sp dvs (E σ) t σ Q)) : tMethSD C m sp dvs E ta t σ H Q := h
theorem v_methX {E : XK} (h : H a = some (.ins C dx fs)) (l : fs.lookup m = none) (k : t σ H fun vs H2 => sp (.ref a :: (vs ++ dvs)) H2 Q E) : kMethX C m sp dvs E t σ Q (.ref a) H := ⟨a, dx, fs, rfl, h, l, k⟩
def kMakeX (C : Addr) (sp : Sp) (dvs : List V) (E : XK) (Q : VK) : List V → Hp → Prop := fun vs H1 => ∀ x dx, H1 x = none → H1 dx = none → dx ≠ x → sp (.ref x :: (vs ++ dvs)) (upd (upd H1 dx (.own x)) x (.ins C dx [])) (fun v H2 => v = .non ∧ Q (.ref x) H2) E
theorem r_makeX {E : L2.St → XK} (h : t σ H (kMakeX C sp dvs (E σ) Q)) : tMakeSD C sp dvs E t σ H Q := h
theorem v_makeX {E : XK} (k : ∀ x dx, H x = none → H dx = none → dx ≠ x → sp (.ref x :: (vs ++ dvs)) (upd (upd H dx (.own x)) x (.ins C dx [])) (fun v H2 => v = .non ∧ Q (.ref x) H2) E) : kMakeX C sp dvs E Q vs H := k
end
/-! isinstance of what a suite holds -/
def rIsY (K : PySem.W.Frag) (cls : Value) (d : Option Addr) (a : Addr) : List V → Hp → VK → Prop := fun xs H Q => ∃ D, cls = .ref D ∧ (∀ dd, d = some dd → ∃ fs, H dd = some (.xd fs)) ∧ ExcC K D ∧ rIsE K D a xs H Q
theorem call_isY {X : Cx} {a : Addr} {oe : Obj} {cls : Value} {d : Option Addr} {pn : List (Addr × Obj)} (hz : Zc cls d oe) (hf : ∃ vs, oe.data = .fields vs) : CallR (X.suite a ((a, oe) :: pn)) (.builtin "isinstance") (rIsY X.K cls d a) := by
  intro pins s σ H xs us Q I r h
  obtain ⟨D, rfl, hdd, C, c, cv, b, rfl, hcv, e, q⟩ := h
  cases r with
  | cons rx rr =>
    cases rr with
    | cons rt rr =>
      cases rr; cases rx
      have ec := hcv _ rt; subst ec
      obtain ⟨hget, _⟩ := I.pin (a, oe) (List.mem_append.mpr (.inl List.mem_cons_self)); obtain ⟨vs, hv⟩ := hf
      have hcl : (PySem.W.clsIn X.K D).isSome = true := by
        obtain ⟨cd, hc, _⟩ := PySem.W.any_some C.hd
        rw [hc]; rfl
      have J : ∃ od, PySem.W.InstAt s.heap a oe D od := by
        cases d with
        | none => exact ⟨none, hget, hz.1, by unfold PySem.W.notCls; rw [hv] <;> rfl, by rw [hz.2]; trivial⟩
        | some dd =>
          obtain ⟨fs, hfs⟩ := hdd dd rfl
          obtain ⟨mA, hns, _⟩ := (show ObjOk X.prog X.w H s.heap dd (.xd fs) from I.hok dd _ hfs)
          obtain ⟨od, ho, hl⟩ := lookIn_ns hns
          exact ⟨some od, hget, hz.1, by unfold PySem.W.notCls; rw [hv] <;> rfl, by rw [hz.2]; exact ho⟩
      obtain ⟨od, J⟩ := J
      exact PySem.W.kia_one (PySem.W.kitx_exc (od := od) hcl C.hg C.hk C.hs C.ha C.hn C.ht C.hm) I.kIn J e (fun z => nomatch z) fun tk => ⟨.bl b, H, I.kept (t' := tk) fun _ _ z => z, rfl, q⟩
section
variable {K : PySem.W.Frag} {D C a : Addr} {n : String} {H : Hp} {Q : VK} {b : Bool} {σ : L2.St}
theorem v_isY {d : Option Addr} (hd : ∀ dd, d = some dd → ∃ fs, H dd = some (.xd fs)) (hc : ExcC K D) (h : PySem.W.kitOne K (.ref D) (.ref C) = some b) (k : Q (.bl b) H) : rIsY K (.ref D) d a [.ref a, .ref C] H Q := ⟨D, rfl, hd, hc, .ref C, .ref C, b, rfl, fun _ r => r, h, k⟩
theorem v_isYT {d : Option Addr} (hd : ∀ dd, d = some dd → ∃ fs, H dd = some (.xd fs)) (hc : ExcC K D) (h : PySem.W.kitOne K (.ref D) (.type n) = some b) (k : Q (.bl b) H) : rIsY K (.ref D) d a [.ref a, .ty n] H Q := ⟨D, rfl, hd, hc, .ty n, .type n, b, rfl, fun _ r => r, h, k⟩
theorem xfOf (c : ExcC K D) : XfC K D := ⟨c.hg, c.hk, c.hs, c.hd⟩
theorem nodict : ∀ dd : Addr, (none : Option Addr) = some dd → ∃ fs, H dd = some (.xd fs) := fun _ z => nomatch z
theorem adict {d : Addr} {fs : List (Str × V)} (h : H d = some (.xd fs)) : ∀ dd : Addr, some d = some dd → ∃ fs, H dd = some (.xd fs) := fun _ z => by cases z; exact ⟨fs, h⟩
/-- e.f in a suite -/
def kXf (a : Addr) (cls : Value) (d : Option Addr) (C : Addr) (f : Str) (Q : VK) : VK := fun x H1 => x = .ref a ∧ cls = .ref C ∧ ∃ (dd : Addr) (fs : List (Str × V)) (v : V), d = some dd ∧ H1 dd = some (.xd fs) ∧ fs.lookup f = some v ∧ Q v H1
theorem r_xf {cls : Value} {d : Option Addr} {f : Str} {te : TE} (h : te σ H (kXf a cls d C f Q)) : tXf a cls d C f te σ H Q := h
theorem v_xf {d : Addr} {f : Str} {fs : List (Str × V)} {v : V} (h : H d = some (.xd fs)) (l : fs.lookup f = some v) (k : Q v H) : kXf a (.ref C) (some d) C f Q (.ref a) H := ⟨rfl, rfl, d, fs, v, rfl, h, l, k⟩
/-- self.f = e in an exception's __init__ -/
def kOst (K : PySem.W.Frag) (f : Str) (y : V) (R : Hp → Prop) : VK := fun x H2 => ∃ a C : Addr, x = .ref a ∧ OexC K C ∧ PySem.W.findIn K (.ref C) f = some none ∧
  ((H2 a = some (exo a C none) ∧ ∀ dx, H2 dx = none → dx ≠ a → R (upd (upd H2 dx (exd dx [(f, y)])) a (exo a C (some dx)))) ∨ ∃ (dx : Addr) (fs : List (Str × V)), H2 a = some (exo a C (some dx)) ∧ H2 dx = some (exd dx fs) ∧ fs.length ≤ 900 ∧ R (upd H2 dx (exd dx ((f, y) :: fs))))
theorem r_ost {D : Ends} {f : Str} {to te : TE} (h : te σ H fun y H1 => to σ H1 (kOst K f y (D.nx σ))) : tOst K f to te D σ H := h
end
end SH

set_option Elab.async false
set_option linter.all false
set_option maxRecDepth 100000
set_option maxHeartbeats 4000000
/-! SHZ: the same for exceptions whose context is None (L2N), and defs called within an except suite -/
namespace SH
open PySem PySem.Spec PyProof.Rows L2
section
variable {P : Program} {w : World} {K : PySem.W.Frag} {mg : Str → Option Value} {base : Heap}
theorem okN {x qual : Str} {st : Stmt} {f : Addr} {fd : FuncData} {N ps : List Str} {k : Nat} {sp : Sp} (F : Fun K x qual st f fd) (S : FnScope N ps (defScope st)) (len : ∀ vs H Q E, sp vs H Q E → vs.length = ps.length)
    (hb : ∀ (cdv : Value) (A : Around) (outer : List Env) (s : Shared) (H : Hp) (vs : List V) (Q : VK) (E : XK), Room k (A.deeper (envOfC qual (defScope st) s.heap.objs.size f cdv)) → sp vs H Q E →
      ∃ t, PSs (cxOf (L2N.CX P w) P w K mg base N qual (defScope st) f cdv A outer s H E) (defBody st) t ∧ t { nx := fun _ H' => Q .non H', rt := Q } (start N vs) H) : FnOk P w K mg base (L2N.CX P w) (k + 1) f fd ps sp := by
  obtain ⟨oc, od, kV, doc, pm, an, cdv, ct, osl, rfl, lk, hcd⟩ := F.ex
  exact fn_of lk hcd S len fun A outer s H vs Q E hr h => hb cdv A outer s H vs Q E hr h
theorem okND {x qual : Str} {st : Stmt} {dvs : List V} {f : Addr} {fd : FuncData} {N ps : List Str} {k : Nat} {sp : Sp} (F : FunD K x qual (defArgs st) (defBody st) (defScope st) dvs [] f fd) (S : FnScope N ps (defScope st)) (len : ∀ vs H Q E, sp vs H Q E → vs.length = ps.length)
    (hb : ∀ (cdv : Value) (A : Around) (outer : List Env) (s : Shared) (H : Hp) (vs : List V) (Q : VK) (E : XK), Room k (A.deeper (envOfC qual (defScope st) s.heap.objs.size f cdv)) → sp vs H Q E →
      ∃ t, PSs (cxOf (L2N.CX P w) P w K mg base N qual (defScope st) f cdv A outer s H E) (defBody st) t ∧ t { nx := fun _ H' => Q .non H', rt := Q } (start N vs) H) : FnOk P w K mg base (L2N.CX P w) (k + 1) f fd ps sp :=
  F.ok S len hb
theorem passLN {X : Cx} : Passes (L2N.CX X.prog X.w) X E0 := fun _ _ _ _ _ _ _ h => by
  obtain ⟨_, _, _, _, _, _, _, _, _, _, _, _, z⟩ := h
  exact z.elim
theorem takes0N {X : Cx} : L2N.Takes X (fun _ _ _ _ => False) := fun _ _ x => by
  obtain ⟨_, _, _, _, _, _, _, _, _, _, _, _, _, _, _, _, z⟩ := x
  exact z.elim
/-- a def that is called while an exception is handled; it raises nothing -/
theorem okH {x qual : Str} {st : Stmt} {f : Addr} {fd : FuncData} {N ps : List Str} {k : Nat} {sp : Sp} (F : Fun K x qual st f fd) (S : FnScope N ps (defScope st)) (len : ∀ vs H Q E, sp vs H Q E → vs.length = ps.length)
    (hb : ∀ (cdv : Value) (A : Around) (outer : List Env) (s : Shared) (H : Hp) (vs : List V) (Q : VK) (E : XK) (p : Addr × Obj), L2H.Hot1 A p → L2H.RoomH k (A.deeper (envOfC qual (defScope st) s.heap.objs.size f cdv)) → sp vs H Q E →
      ∃ t, PSs (L2H.cxH CX0 P w K mg base N qual (defScope st) f cdv A outer s H E p) (defBody st) t ∧ t { nx := fun _ H' => Q .non H', rt := Q } (start N vs) H) : L2H.FnH P w K mg base CX0 (k + 1) f fd ps sp := by
  obtain ⟨oc, od, kV, doc, pm, an, cdv, ct, osl, rfl, lk, hcd⟩ := F.ex
  exact L2H.fn_ofH lk hcd S len fun A outer s H vs Q E p hot hr h => hb cdv A outer s H vs Q E p hot hr h
end
structure CalH (P : Program) (w : World) (K : PySem.W.Frag) (mg : Str → Option Value) (base : Heap) (k : Nat) (x : Str) (sp : Sp) : Prop where
  ex : ∃ (f : Addr) (fd : FuncData) (ps : List Str), mg x = some (.ref f) ∧ PySem.W.keepIn K (.ref f) = true ∧ Binds K fd ps [] ∧ L2H.FnH P w K mg base CX0 k f fd ps sp
section
variable {X : Cx} {CX : CXT} {k j : Nat} {C : Addr} {sp : Sp} {x : Str} {p pos : Pos} {e : Expr} {es : List Expr} {t : TA}
theorem hotc {a : Addr} {oe : Obj} {cls : Value} {d : Option Addr} {pn : List (Addr × Obj)} (hz : L2N.Zn cls d oe) (hf : ∃ vs, oe.data = .fields vs) : L2H.HotC (X.suite a ((a, oe) :: pn)) := by
  obtain ⟨vs, hv⟩ := hf
  exact ⟨(a, oe), ⟨rfl, vs, hv, hz.2.2 vs hv⟩, List.mem_cons_self⟩
theorem pe_callHF (c : CalH X.prog X.w X.K X.mg X.base j x sp) (hr : L2H.RoomH k X.A) (hc : L2H.HotC X) (hg : Gl X x) (ha : PA X (e :: es) t) (hk : j ≤ k := by decide)
    (hdb : (x == ("__debug__" : Str)) = false := by decide) (he : starEach (e :: es) X.env = (false, eval e X.env) :: starEach es X.env := by rfl) (hpl : (backTo pos (starEach es X.env)).any (·.1) = false := by rfl) :
    PE X (.Call (.Name x p) (e :: es) [] pos) (tCallS sp (fun _ => E0) t) := by
  obtain ⟨f, fd, ps, h1, h2, h3, h4⟩ := c.ex
  exact L2H.pe_callH h4 (hr.mono hk) hc hg h1 h2 h3 (fun σ pins H s e s' _ z => z.elim) ha hdb he hpl
theorem r_callS {σ : L2.St} {H : Hp} {Q : VK} {E : L2.St → XK} (h : t σ H fun vs H1 => sp vs H1 Q (E σ)) : tCallS sp E t σ H Q := h
set_option maxHeartbeats 8000000 in
theorem pmk_oexN (c : CalE X.prog X.w X.K X.mg X.base j x C sp) (hr : Room k X.A) (hg : Gl X x) (ha : PA X (e :: es) t) (hk : j + 1 ≤ k := by decide)
    (hdb : (x == ("__debug__" : Str)) = false := by decide) (he : starEach (e :: es) X.env = (false, eval e X.env) :: starEach es X.env := by rfl) (hpl : (backTo pos (starEach es X.env)).any (·.1) = false := by rfl) :
    L2N.PMk X (.Call (.Name x p) (e :: es) [] pos) (tMkO C sp [] t) := by
  obtain ⟨fI, fd, ps, hm, iC, tI, hb, F1⟩ := c.ex; have T := c.ox
  intro pins s σ H Q I h
  obtain ⟨nm, q, N, bs, bm, sn, sub, ab, col, dd, k0, k1, k2, k3, k5, hC, hbm⟩ := c.ox.cls
  refine wpAny_Call_Name_kw (ld_glob I hg hm (PySem.W.callWith_K (h₀ := X.base) I.ok.mod.kin T.kC (thn (ha.run pos pins s σ H _ I h) fun us s1 ⟨vs, H1, I1, r1, hz, q1⟩ => ⟨I1.kIn, ?_⟩) he hpl) hdb)
  show wpAny _ _ (call (.ref C) us) _ _ _; obtain ⟨hp, g, dr, tk, os⟩ := s1
  have hsz : hp.objs.size ≤ hp.objs.size + 1 := Nat.le_succ _; have hn : H1 (hp.objs.size + 1) = none := I1.hok.fresh hsz
  have hq := q1 (hp.objs.size + 1) hn; rw [List.append_nil] at hq
  have kk : ∀ b o, hp.get? b = some o → ((hp.push (PySem.W.kdv_tup us)).push (PySem.HandSPX.excO C hp.objs.size)).get? b = some o := fun b o e => by exact Heap.get?_push_of_some _ (Heap.get?_push_of_some _ e)
  have hget : ((hp.push (PySem.W.kdv_tup us)).push (PySem.HandSPX.excO C hp.objs.size)).get? (hp.objs.size + 1) = some (PySem.HandSPX.excO C hp.objs.size) := by (heap_get)
  have I2 : Inv X pins σ (upd H1 (hp.objs.size + 1) (exo (hp.objs.size + 1) C none)) ⟨(hp.push (PySem.W.kdv_tup us)).push (PySem.HandSPX.excO C hp.objs.size), g, dr, tk, os⟩ := by
    exact I1.laid (t' := tk) (a := hp.objs.size + 1) (o := exo (hp.objs.size + 1) C none) (h' := (hp.push (PySem.W.kdv_tup us)).push (PySem.HandSPX.excO C hp.objs.size)) kk hsz (exo_ok hget)
  have r2 : Vals (V.ref (hp.objs.size + 1) :: vs) (Value.ref (hp.objs.size + 1) :: us) := .cons rfl r1
  have hl : (Value.ref (hp.objs.size + 1) :: us ++ []).length = ps.length := by have e := r2.length; rw [F1.len _ _ _ _ hq] at e; rw [List.append_nil]; exact e.symm
  have hus : us.length ≤ sizeLine := by rw [← Paired.length r1, sizeLine_eq]; omega
  have b2 := hb _ (Value.ref (hp.objs.size + 1) :: us) I2.kIn hl; rw [List.append_nil] at b2
  refine wpAny_call (PySem.HandSPX.call_own F.excBase_ValueError (fun Y => PySem.HandSPX.refsVE_contains Y bm hbm) (I1.kIn _ _ hC) (PySem.W.looks_findIn I1.kIn iC) (fun self => PySem.W.bind_fn I1.kIn self tI) hus
    (codeAny_mono (F1.run _ X.stack _ _ ⟨Value.ref (hp.objs.size + 1) :: us, []⟩ (Value.ref (hp.objs.size + 1) :: us) _ _ (fun _ _ _ => False) ((hr.mono hk).make C us []) (I2.env0.make C us []) b2 r2 hq) fun r s' hq' => ?_))
  match r, hq' with
  | .error er, hq' => exact False.elim hq'
  | .ok .next, hq' => exact False.elim hq'
  | .ok .brk, hq' => exact False.elim hq'
  | .ok .cont, hq' => exact False.elim hq'
  | .ok (.ret u), hq' =>
    obtain ⟨v, H2, os2, bare2, un2, hok2, rv, ev, d, fs, ea, ed, hd1, q2⟩ := hq'; subst ev
    obtain ⟨h2, g2, d2, t2, os'⟩ := s'; obtain ⟨t0, G, J, kG, ge, hoe, na⟩ := mk_end0 (d2 := d2) (t2 := t2) I1 hsz kk un2 hok2 os2 bare2 ea ed hd1
    exact ⟨rv, ⟨hp.objs.size + 1, _, _, ⟨G, g2, d2, t2, os'⟩, _, .ref C, some d, rfl, J, kG, ge, hoe, ⟨rfl, rfl, fun vs hv => by cases hv; rfl⟩, rfl, rfl, na, rfl, bare2, raises_own T.exC T.tyC, q2⟩⟩
end
theorem r_catchM {K : PySem.W.Frag} {c cls : Value} {d : Option Addr} {ts : Addr → Value → Option Addr → TS} {r : List (Value × (Addr → Value → Option Addr → TS))} {Wo : WX} {D : Ends} {σ : L2.St} {H : Hp} (h : PySem.W.exmOne K cls c = some true)
    (k : ∀ a, H a = none → ts a cls d D σ H) : L2.wMany K Wo D ((c, ts) :: r) cls d σ H := ⟨true, h, fun _ => k, fun z => by cases z⟩
theorem r_catchM2 {K : PySem.W.Frag} {c cls : Value} {d : Option Addr} {ts : Addr → Value → Option Addr → TS} {r : List (Value × (Addr → Value → Option Addr → TS))} {Wo : WX} {D : Ends} {σ : L2.St} {H : Hp} (h : PySem.W.exmOne K cls c = some false)
    (k : L2.wMany K Wo D r cls d σ H) : L2.wMany K Wo D ((c, ts) :: r) cls d σ H := ⟨false, h, (fun z => by cases z), fun _ => k⟩
section
variable {X : Cx} {o e : Expr} {es : List Expr} {to : TE} {t : TA} {name : Str} {apos cpos : Pos} {T id : String} {r : V → List V → Hp → VK → Prop}
theorem pe_bmK (K : PySem.W.Frag) (pa : PlainAttrs T) (slot : Slot T name id) (hty : typeOf (.builtin id) = pure (.type "method_descriptor")) (hm : MtR X id r) (ho : PE X o to) (ha : PA X (e :: es) t) (hK : X.K = K := by rfl)
    (hbase : attributeBase o name X.env (eval o X.env) = eval o X.env := by rfl)
    (hfew : ((backTo cpos (starEach (e :: es) X.env)).all (fun x => !x.1) && (backToKw cpos (keywordEach [] X.env)).all (fun x => x.1.isSome)
      && decide ((e :: es).length + ([] : List Keyword).length + (if ([] : List Keyword).isEmpty then 0 else 1) < 30)) = true := by rfl)
    (hline : (apos.endLine == cpos.line) = true := by rfl) (hs : starEach (e :: es) X.env = (false, eval e X.env) :: starEach es X.env := by rfl) (hplain : (backTo cpos (starEach es X.env)).any (·.1) = false := by rfl) :
    PE X (.Call (.Attribute o name apos) (e :: es) [] cpos) (tBM K T r to t) := by
  subst hK
  exact pe_bm pa slot hty hm ho ha hbase hfew hline hs hplain
end
end SH

set_option Elab.async false
set_option linter.all false
set_option maxRecDepth 100000
set_option maxHeartbeats 4000000
/-! SHW: exceptions as values: kept past their suite, made without being raised, asked and read anywhere -/
namespace SH
open PySem PySem.Spec PyProof.Rows L2
/-- at a: an exception of the class cls, its dict at d -/
def exK (a : Addr) (cls : Value) (d : Option Addr) : HO := .ext fun h => ∃ (oe : Obj) (vs : Array Value), h.get? a = some oe ∧ Zc cls d oe ∧ oe.data = .fields vs
theorem exK_ok {P : Program} {w : World} {H : Hp} {h : Heap} {a : Addr} {cls : Value} {d : Option Addr} {oe : Obj} {vs : Array Value} (e : h.get? a = some oe) (z : Zc cls d oe) (q : oe.data = .fields vs) : ObjOk P w H h a (exK a cls d) :=
  ⟨⟨oe, vs, e, z, q⟩, ⟨oe, e⟩, fun _ _ ⟨o, v, p, r⟩ k => ⟨o, v, k o p, r⟩⟩
theorem exK_at {P : Program} {w : World} {H : Hp} {h : Heap} {a : Addr} {cls : Value} {d : Option Addr} (hok : HOk P w H h) (he : H a = some (exK a cls d)) : ∃ (oe : Obj) (vs : Array Value), h.get? a = some oe ∧ Zc cls d oe ∧ oe.data = .fields vs := by
  have x : ObjOk P w H h a (.ext fun h => ∃ (oe : Obj) (vs : Array Value), h.get? a = some oe ∧ Zc cls d oe ∧ oe.data = .fields vs) := hok a _ he
  exact x.1
section
variable {X : Cx} {pins : List (Addr × Obj)} {σ : L2.St} {H : Hp} {s sI : Shared}
/-- an exception that stands untracked is tracked from now on; sI: the state without it -/
theorem trackK {a : Addr} {cls : Value} {d : Option Addr} {oe : Obj} {vs : Array Value} (I : Inv X pins σ H s) (J : Inv X pins σ H sI) (hx : X.ex = []) (ng : sI.heap.get? a = none) (he : s.heap.get? a = some oe) (z : Zc cls d oe) (hd : oe.data = .fields vs) (na : H a = none) :
    Inv X pins σ (upd H a (exK a cls d)) s := by
  have gone : ∀ {b : Addr} {o : Obj}, sI.heap.get? b = some o → b ≠ a := fun {b o} e y => by rw [y, ng] at e; cases e
  have nT : ∀ {b : Addr} {u : HO}, H b = some u → b ≠ a := fun {b u} e y => by rw [y, na] at e; cases e
  have n0 : ∀ b o, X.s_0.heap.get? b = some o → b ≠ a := fun b o e => by
    obtain ⟨o', q⟩ := J.base.there b o e (by rw [hx]; exact fun y => nomatch y)
    exact gone q
  refine ⟨I.ok, I.os, I.bare, ⟨I.base.keep, I.base.slot, fun b o e n hq => ?_, I.base.there, fun b xs e => ?_, fun b o u e => ?_, fun b ps e => ?_⟩, I.loc, I.cell, ?_, fun x c e => ?_, fun p hp => ?_, fun b u e => ?_, I.len⟩
  · rw [upd_ne (n0 b o e)]; exact I.base.free b o e n hq
  · have q := I.base.tups b xs e
    rw [upd_ne (nT q)]; exact q
  · have q := I.base.frzs b o u e
    rw [upd_ne (nT q)]; exact q
  · obtain ⟨m, q⟩ := I.base.tbls b ps e
    exact ⟨m, by rw [upd_ne (nT q)]; exact q⟩
  · obtain ⟨m, ⟨o, es, ep, ho, r⟩, hl⟩ := J.loc
    rw [upd_ne (gone ho)]; exact I.free
  · obtain ⟨v, o, ho, hv⟩ := J.cell x c e
    rw [upd_ne (gone ho)]; exact I.freeC x c e
  · obtain ⟨e, n, ne, nf, dd⟩ := I.pin p hp
    obtain ⟨e', _⟩ := J.pin p hp
    exact ⟨e, by rw [upd_ne (gone e')]; exact n, ne, nf, dd⟩
  · by_cases hb : b = a
    · subst hb
      rw [upd_same] at e
      cases e
      exact exK_ok he z hd
    · rw [upd_ne hb] at e
      exact (I.hok b u e).stay (fun c v _ q => q) (fun c q => by rw [upd_ne (nT q)]; exact q) fun c xs q => by rw [upd_ne (nT q)]; exact q
theorem suiteK (I : Inv X pins σ H s) (a : Addr) : Inv (X.suite a (X.pn ++ pins)) [] σ H s :=
  ⟨I.ok.suite _ _, I.os, I.bare, I.base, I.loc, I.cell, I.free, I.freeC, fun p hp => I.pin p (by rw [List.append_nil] at hp; exact hp), I.hok, I.len⟩
theorem unsuiteK {a : Addr} {pn' : List (Addr × Obj)} (I : Inv (X.suite a (X.pn ++ pins)) pn' σ H s) (ok : X.Ok) : Inv X pins σ H s :=
  ⟨ok, I.os, I.bare, I.base, I.loc, I.cell, I.free, I.freeC, fun p hp => I.pin p (List.mem_append_left _ hp), I.hok, I.len⟩
end
/-- what the clause 'except x as n' wishes of an exception of the body: it is tracked in the suite and behind -/
def wAsK (K : PySem.W.Frag) (c : Value) (i : Nat) (ts : TS) (Wout : WX) (D : Ends) : WX := fun cls d σ H =>
  ∃ b, PySem.W.exmOne K cls c = some b ∧ (b = true → ∀ a, H a = none → ts { nx := fun σ' H' => D.nx (σ'.set i none) H', rt := D.rt, bk := fun σ' H' => D.bk (σ'.set i none) H', ct := fun σ' H' => D.ct (σ'.set i none) H' } (σ.set i (some (.ref a))) (upd H a (exK a cls d))) ∧
    (b = false → Wout cls d σ H)
theorem r_catchK {K : PySem.W.Frag} {c cls : Value} {d : Option Addr} {i : Nat} {ts : TS} {Wo : WX} {D : Ends} {σ : L2.St} {H : Hp} (h : PySem.W.exmOne K cls c = some true)
    (k : ∀ a, H a = none → ts { nx := fun σ' H' => D.nx (σ'.set i none) H', rt := D.rt, bk := fun σ' H' => D.bk (σ'.set i none) H', ct := fun σ' H' => D.ct (σ'.set i none) H' } (σ.set i (some (.ref a))) (upd H a (exK a cls d))) : wAsK K c i ts Wo D cls d σ H :=
  ⟨true, h, fun _ => k, fun z => by cases z⟩
section
variable {X : Cx} {x n : Str} {c : Value} {i : Nat} {body suite : List Stmt} {b₀ : Stmt} {np pos pos' : Pos} {tb : WX → TS} {ts : TS} {Wout : WX}
set_option maxHeartbeats 8000000 in
theorem ps_try_asK (hs : X.stack = X.env :: X.outer) (hf : X.env.frame = some X.env.locals) (hx : X.ex = []) (hN : X.N.Nodup) (hi : X.N[i]? = some n) (hln : X.env.kindOf n = some .local) (hc : Names X x c) (tk : L2N.Takes X Wout)
    (hb : ∀ (W : WX) (pn : List (Addr × Obj)) (xe : Value → Shared → Prop), L2N.Takes (X.tr pn xe) W → PassesOwn (model X.prog X.w) X.A X.env xe → PSs (X.tr pn xe) body (tb W))
    (hsu : ∀ (a : Addr) (pn : List (Addr × Obj)), PSs (X.suite a pn) (b₀ :: suite) ts) :
    PS X (.Try body [.ExceptHandler (some (.Name x np)) (some n) (b₀ :: suite) pos'] [] [] pos) (fun D σ H => tb (wAsK X.K c i ts Wout D) D σ H) := by
  refine ⟨fun pins s σ H D I h => ?_⟩
  have ok := I.ok
  have hfr : X.A.frames = some (X.env :: X.outer) := by rw [ok.frames, hs]
  have hloc : Loc X.env.scope n := .inl hln
  refine wpAny_Try_except ?_
  refine wpAny_mono ((hb (wAsK X.K c i ts Wout D) (X.pn ++ pins) (fun e s₁ => wpAny (model X.prog X.w) X.A (noteFrame e X.env) (fun _ s₂ => wpAny (model X.prog X.w) X.A (setFlight e none) (fun _ s₃ =>
    wpAny (model X.prog X.w) X.A (handleBy e X.env [.ExceptHandler (some (.Name x np)) (some n) (b₀ :: suite) pos']) (SP X pins D) X.xe s₃) X.xe s₂) X.xe s₁) (fun u s' xx => ?_) PassesOwn.looking).run [] s σ H D (I.toTry _) h) (fun f s1 hsp => ?_) (fun e s1 he => he)
  · obtain ⟨a, B, sI, pins', σ', H', cls, d, rfl, J', nb, up, sky, na, os, ag, b, hb1, hyes, hno⟩ := xx
    have J : Inv X pins σ' H' sI := J'.ofTry ok
    have sky' : Sky B (X.env :: X.outer) a (L2N.Zn cls d) X.env.locals s'.heap := by rw [← hs]; exact sky
    show wpAny (model X.prog X.w) X.A (noteFrame (.ref a) X.env) _ _ _
    refine L2N.Sky.land L2N.Zn.steady hfr hf sky' fun h3 fl3 up3 => ?_
    have J3 : Inv X pins σ' H' { s' with heap := h3 } := J.landed nb fl3.1 (up.trans up3) os ag
    obtain ⟨oe3, vs3, he3, hz3, hd3⟩ := fl3.there
    have notFr : ∀ {h : Heap} {o : Obj} {vs : Array Value}, h.FunFrames B (X.env :: X.outer) → h.get? a = some o → o.data = .fields vs → a ∉ frs (X.env :: X.outer) := fun {h o vs} ff e dd hm => by
      obtain ⟨_, o', e', hnf⟩ := ff.mem hm
      rw [e] at e'; cases e'
      exact hnf _ dd
    have nfr := notFr fl3.2.2.1 he3 hd3
    have nL : a ≠ X.env.locals := fun z => nfr (List.mem_filterMap.mpr ⟨X.env, List.mem_cons_self, by rw [hf, z]⟩)
    have nF : a ∉ X.fs := fun hm => by
      obtain ⟨e, he, q⟩ := List.mem_filterMap.mp hm
      exact nfr (List.mem_filterMap.mpr ⟨e, List.mem_cons_of_mem _ he, q⟩)
    have ng : sI.heap.get? a = none := by
      cases q : sI.heap.get? a with
      | none => rfl
      | some o =>
        have z := nb a o q (by rw [hs]; exact nfr)
        rw [fl3.2.1] at z; cases z
    have S3 := J3.suite he3 hd3 na nL nF
    refine wpAny_handleBy_cons (codeAny_handlers_test ?_) (by intro q; cases q)
    have LT : PySem.W.Looks (model X.prog X.w) h3 (typeOf (.ref a)) cls := fun A Q E s k q => wpAny_typeOf_ref (k _ _ he3) (by rw [hz3.1]; exact q)
    have LM := PySem.W.exm_one (M := model X.prog X.w) (J3.kIn) LT hb1
    have test : ∀ {Q : Value → Shared → Prop} {E : Value → Shared → Prop}, Q c { s' with heap := h3 } → wpAny (model X.prog X.w) (X.A.mark (some (.ref a))) (eval (.Name x np) X.env) Q E { s' with heap := h3 } := fun {Q E} q => by
      obtain ⟨hg, hdbg, hm | ⟨hm, hv, hnn⟩⟩ := hc
      · exact ld_glob (X := X.suite a ((a, oe3) :: (X.pn ++ pins))) S3 hg hm q hdbg
      · exact ld_blt (X := X.suite a ((a, oe3) :: (X.pn ++ pins))) S3 hg hm hv q hnn hdbg
    refine test (LM.here ?_)
    cases b with
    | true =>
      refine codeAny_handlers_suite_as ?_
      refine HandSPX.lands_againZ fl3 fun h4 fl4 up4 => ?_
      have J4 : Inv X pins σ' H' { s' with heap := h4 } := J.landed nb fl4.1 ((up.trans up3).trans up4) os ag
      obtain ⟨oe4, vs4, he4, hz4, hd4⟩ := fl4.there
      have S4 := suiteK (trackK J4 J hx ng he4 hz4.zc hd4 na) a
      refine store_ok (X := X.suite a (X.pn ++ pins)) (v := .ref a) S4 hN hi hloc rfl (fun s5 S5 => ?_) (.inr hln)
      refine wpAny_mono ((hsu a (X.pn ++ pins)).run [] s5 _ _ _ S5 (hyes rfl a na)) (fun f s6 hsp => ?_) (fun _ _ z => False.elim z)
      have end_ : ∀ {σ6 : L2.St} {H6 : Hp} {Q : Shared → Prop}, Inv (X.suite a (X.pn ++ pins)) [] σ6 H6 s6 → (∀ s7, Inv X pins (σ6.set i none) H6 s7 → Q s7) →
          wpAny (model X.prog X.w) X.A (do bindName X.env n .none; unbindBehindTheSuite X.env n pos') (fun _ s7 => Q s7) X.xe s6 := fun {σ6 H6 Q} S6 hq => gone_ok (unsuiteK S6 ok) hN hi hln hq
      cases f with
      | next =>
        obtain ⟨σ6, H6, S6, q6⟩ := hsp
        exact end_ S6 fun s7 J7 => ⟨_, _, J7, q6⟩
      | brk =>
        obtain ⟨σ6, H6, S6, q6⟩ := hsp
        exact end_ S6 fun s7 J7 => ⟨_, _, J7, q6⟩
      | cont =>
        obtain ⟨σ6, H6, S6, q6⟩ := hsp
        exact end_ S6 fun s7 J7 => ⟨_, _, J7, q6⟩
      | ret u =>
        obtain ⟨v6, σ6, H6, S6, r6, q6⟩ := hsp
        exact end_ S6 fun s7 J7 => ⟨_, _, _, J7, r6, q6⟩
    | false =>
      show wpAny _ X.A (handleBy (.ref a) X.env []) _ _ _
      refine wpAny_handleBy_nil ?_
      obtain ⟨k1, k2, k3, oe, vs, T, oT, ts', he, hz, hd, h1, hr⟩ := id fl3
      unfold PySem.passOn
      refine wpAny_bind (wpAny_field he hd h1 ?_)
      rw [if_neg (show ¬ ((Value.ref T == Value.none) = true) from by simp)]
      have fin : wpAny (model X.prog X.w) X.A (setFlight (.ref a) X.env.frame) (fun _ s4 => wpAny (model X.prog X.w) X.A (throw (.ref a) : Sem Flow) (SP X pins D) X.xe s4) X.xe { s' with heap := h3 } := by
        rw [hf]
        refine HandSPX.setFlight_upZ fl3 fun h4 hh4 up4 => wpAny_throw (tk _ _ ?_)
        exact ⟨a, B, sI, pins, σ', H', cls, d, rfl, J, nb, (up.trans up3).trans up4, .inr (.inr (by rw [hs]; exact hh4)), na, os, ag, hno rfl⟩
      first
        | exact wpAny_bind (wpAny_pure (wpAny_bind fin))
        | exact wpAny_bind fin
  · cases f with
    | next =>
      obtain ⟨σ', H', J', q⟩ := hsp
      exact wpAny_execs_nil ⟨σ', H', J'.ofTry ok, q⟩
    | brk =>
      obtain ⟨σ', H', J', q⟩ := hsp
      exact ⟨σ', H', J'.ofTry ok, q⟩
    | cont =>
      obtain ⟨σ', H', J', q⟩ := hsp
      exact ⟨σ', H', J'.ofTry ok, q⟩
    | ret u =>
      obtain ⟨v, σ', H', J', r, q⟩ := hsp
      exact ⟨v, σ', H', J'.ofTry ok, r, q⟩
end
/-! isinstance of a kept exception, its fields -/
def rIsK (K : PySem.W.Frag) : List V → Hp → VK → Prop := fun xs H Q => ∃ (a D : Addr) (d : Option Addr) (c : V) (cv : Value) (b : Bool), xs = [.ref a, c] ∧ H a = some (exK a (.ref D) d) ∧ (∀ dd, d = some dd → ∃ fs, H dd = some (.xd fs)) ∧ ExcC K D ∧ (∀ u, RelV c u → u = cv) ∧ PySem.W.kitOne K (.ref D) cv = some b ∧ Q (.bl b) H
theorem call_isK {X : Cx} : CallR X (.builtin "isinstance") (rIsK X.K) := by
  intro pins s σ H xs us Q I r h
  obtain ⟨a, D, d, c, cv, b, rfl, ha, hdd, C, hcv, e, q⟩ := h
  cases r with
  | cons rx rr =>
    cases rr with
    | cons rt rr =>
      cases rr; cases rx
      have ec := hcv _ rt; subst ec
      obtain ⟨oe, vs, hget, hz, hv⟩ := exK_at I.hok ha
      have hcl : (PySem.W.clsIn X.K D).isSome = true := by
        obtain ⟨cd, hc, _⟩ := PySem.W.any_some C.hd
        rw [hc]; rfl
      have J : ∃ od, PySem.W.InstAt s.heap a oe D od := by
        cases d with
        | none => exact ⟨none, hget, hz.1, by unfold PySem.W.notCls; rw [hv] <;> rfl, by rw [hz.2]; trivial⟩
        | some dd =>
          obtain ⟨fs, hfs⟩ := hdd dd rfl
          obtain ⟨mA, hns, _⟩ := (show ObjOk X.prog X.w H s.heap dd (.xd fs) from I.hok dd _ hfs)
          obtain ⟨od, ho, hl⟩ := lookIn_ns hns
          exact ⟨some od, hget, hz.1, by unfold PySem.W.notCls; rw [hv] <;> rfl, by rw [hz.2]; exact ho⟩
      obtain ⟨od, J⟩ := J
      exact PySem.W.kia_one (PySem.W.kitx_exc (od := od) hcl C.hg C.hk C.hs C.ha C.hn C.ht C.hm) I.kIn J e (fun z => nomatch z) fun tk => ⟨.bl b, H, I.kept (t' := tk) fun _ _ z => z, rfl, q⟩
section
variable {K : PySem.W.Frag} {D C a : Addr} {n : String} {H : Hp} {Q : VK} {b : Bool} {σ : L2.St}
theorem v_isK {d : Option Addr} (ha : H a = some (exK a (.ref D) d)) (hd : ∀ dd, d = some dd → ∃ fs, H dd = some (.xd fs)) (hc : ExcC K D) (h : PySem.W.kitOne K (.ref D) (.ref C) = some b) (k : Q (.bl b) H) : rIsK K [.ref a, .ref C] H Q := ⟨a, D, d, .ref C, .ref C, b, rfl, ha, hd, hc, fun _ r => r, h, k⟩
theorem v_isKT {d : Option Addr} (ha : H a = some (exK a (.ref D) d)) (hd : ∀ dd, d = some dd → ∃ fs, H dd = some (.xd fs)) (hc : ExcC K D) (h : PySem.W.kitOne K (.ref D) (.type n) = some b) (k : Q (.bl b) H) : rIsK K [.ref a, .ty n] H Q := ⟨a, D, d, .ty n, .type n, b, rfl, ha, hd, hc, fun _ r => r, h, k⟩
end
/-- x.f of a kept exception -/
def tXfK (C : Addr) (f : Str) (te : TE) : TE := fun σ H Q => te σ H fun x H1 => ∃ (a dd : Addr) (fs : List (Str × V)) (v : V), x = .ref a ∧ H1 a = some (exK a (.ref C) (some dd)) ∧ H1 dd = some (.xd fs) ∧ fs.lookup f = some v ∧ Q v H1
theorem pe_xfK {X : Cx} {C : Addr} {e : Expr} {te : TE} {pos : Pos} {n : Str} (T : XfC X.K C) (hno : PySem.W.findIn X.K (.ref C) n = some none)
    (he : PE X e te) (hb : attributeBase e n X.env (eval e X.env) = eval e X.env := by rfl) : PE X (.Attribute e n pos) (tXfK C n te) := by
  refine ⟨fun pins s σ H Q I h => attr_of hb (thn (he.run pins s σ H _ I h) fun u s1 hh => ?_)⟩
  obtain ⟨x, H1, I1, rx, a, dd, fs, v, ex, ea, ed, l, q⟩ := hh
  subst ex
  obtain rfl : u = Value.ref a := rx
  obtain ⟨oe, vs, ha, hz, hd⟩ := exK_at I1.hok ea
  have hx : ObjOk X.prog X.w H1 s1.heap dd (.xd fs) := I1.hok dd _ ed
  obtain ⟨mA, hns, hr⟩ := hx
  obtain ⟨od, ho, hl⟩ := lookIn_ns hns
  obtain ⟨u, hu, ru⟩ := RelO.some_of (v := v) (o := mA n) (by rw [← l]; exact hr n)
  have J : PySem.W.InstAt s1.heap a oe C (some od) := ⟨ha, hz.1, by unfold PySem.W.notCls; rw [hd] <;> rfl, by rw [hz.2]; exact ho⟩
  exact HandSPX.exc_get I1.kIn J T.ga T.gg T.exC (PySem.W.findObj_own T.hdC hno rfl (by rw [hl, hu])) (handed_of ru) ⟨v, H1, I1.tok _, ru, q⟩
def kXfK (C : Addr) (f : Str) (Q : VK) : VK := fun x H1 => ∃ (a dd : Addr) (fs : List (Str × V)) (v : V), x = .ref a ∧ H1 a = some (exK a (.ref C) (some dd)) ∧ H1 dd = some (.xd fs) ∧ fs.lookup f = some v ∧ Q v H1
section
variable {σ : L2.St} {H : Hp} {Q : VK} {C a d : Addr} {f : Str} {fs : List (Str × V)} {v : V} {te : TE}
theorem r_xfK (h : te σ H (kXfK C f Q)) : tXfK C f te σ H Q := h
theorem v_xfK (ha : H a = some (exK a (.ref C) (some d))) (h : H d = some (.xd fs)) (l : fs.lookup f = some v) (k : Q v H) : kXfK C f Q (.ref a) H := ⟨a, d, fs, v, rfl, ha, h, l, k⟩
end
/-! exceptions made, not raised -/
def tExc0 (C : Addr) : TE := fun _ H Q => ∀ a, H a = none → Q (.ref a) (upd H a (exK a (.ref C) none))
/-- C(e, ..), with an own __init__ -/
def tMkK (C : Addr) (sp : Sp) (dvs : List V) (t : TA) : TE := fun σ H Q => t σ H fun vs H1 => vs.length ≤ 1000 ∧ ∀ a, H1 a = none → sp (.ref a :: (vs ++ dvs)) (upd H1 a (exo a C none))
  (fun v H2 => v = .non ∧ ∃ (d : Addr) (fs : List (Str × V)), H2 a = some (exo a C (some d)) ∧ H2 d = some (exd d fs) ∧ H1 d = none ∧ Q (.ref a) (upd (upd (del H2 a) d (.xd fs)) a (exK a (.ref C) (some d)))) (fun _ _ _ => False)
section
variable {X : Cx} {CX : CXT} {k j : Nat} {C : Addr} {sp : Sp} {x : Str} {p pos : Pos} {e : Expr} {es : List Expr} {t : TA}
set_option maxHeartbeats 8000000 in
theorem pe_mkK (c : CalE X.prog X.w X.K X.mg X.base j x C sp) (hr : Room k X.A) (hg : Gl X x) (ha : PA X (e :: es) t) (hk : j + 1 ≤ k := by decide)
    (hdb : (x == ("__debug__" : Str)) = false := by decide) (he : starEach (e :: es) X.env = (false, eval e X.env) :: starEach es X.env := by rfl) (hpl : (backTo pos (starEach es X.env)).any (·.1) = false := by rfl) :
    PE X (.Call (.Name x p) (e :: es) [] pos) (tMkK C sp [] t) := by
  obtain ⟨fI, fd, ps, hm, iC, tI, hb, F1⟩ := c.ex; have T := c.ox
  refine ⟨fun pins s σ H Q I h => ?_⟩
  obtain ⟨nm, q, N, bs, bm, sn, sub, ab, col, dd, k0, k1, k2, k3, k5, hC, hbm⟩ := c.ox.cls
  refine wpAny_Call_Name_kw (ld_glob I hg hm (PySem.W.callWith_K (h₀ := X.base) I.ok.mod.kin T.kC (thn (ha.run pos pins s σ H _ I h) fun us s1 ⟨vs, H1, I1, r1, hz, q1⟩ => ⟨I1.kIn, ?_⟩) he hpl) hdb)
  show wpAny _ _ (call (.ref C) us) _ _ _; obtain ⟨hp, g, dr, tk, os⟩ := s1
  have hsz : hp.objs.size ≤ hp.objs.size + 1 := Nat.le_succ _; have hn : H1 (hp.objs.size + 1) = none := I1.hok.fresh hsz
  have hq := q1 (hp.objs.size + 1) hn; rw [List.append_nil] at hq
  have kk : ∀ b o, hp.get? b = some o → ((hp.push (PySem.W.kdv_tup us)).push (PySem.HandSPX.excO C hp.objs.size)).get? b = some o := fun b o e => by exact Heap.get?_push_of_some _ (Heap.get?_push_of_some _ e)
  have hget : ((hp.push (PySem.W.kdv_tup us)).push (PySem.HandSPX.excO C hp.objs.size)).get? (hp.objs.size + 1) = some (PySem.HandSPX.excO C hp.objs.size) := by (heap_get)
  have I2 : Inv X pins σ (upd H1 (hp.objs.size + 1) (exo (hp.objs.size + 1) C none)) ⟨(hp.push (PySem.W.kdv_tup us)).push (PySem.HandSPX.excO C hp.objs.size), g, dr, tk, os⟩ := by
    exact I1.laid (t' := tk) (a := hp.objs.size + 1) (o := exo (hp.objs.size + 1) C none) (h' := (hp.push (PySem.W.kdv_tup us)).push (PySem.HandSPX.excO C hp.objs.size)) kk hsz (exo_ok hget)
  have r2 : Vals (V.ref (hp.objs.size + 1) :: vs) (Value.ref (hp.objs.size + 1) :: us) := .cons rfl r1
  have hl : (Value.ref (hp.objs.size + 1) :: us ++ []).length = ps.length := by have e := r2.length; rw [F1.len _ _ _ _ hq] at e; rw [List.append_nil]; exact e.symm
  have hus : us.length ≤ sizeLine := by rw [← Paired.length r1, sizeLine_eq]; omega
  have b2 := hb _ (Value.ref (hp.objs.size + 1) :: us) I2.kIn hl; rw [List.append_nil] at b2
  refine wpAny_call (PySem.HandSPX.call_own F.excBase_ValueError (fun Y => PySem.HandSPX.refsVE_contains Y bm hbm) (I1.kIn _ _ hC) (PySem.W.looks_findIn I1.kIn iC) (fun self => PySem.W.bind_fn I1.kIn self tI) hus
    (codeAny_mono (F1.run _ X.stack _ _ ⟨Value.ref (hp.objs.size + 1) :: us, []⟩ (Value.ref (hp.objs.size + 1) :: us) _ _ (fun _ _ _ => False) ((hr.mono hk).make C us []) (I2.env0.make C us []) b2 r2 hq) fun r s' hq' => ?_))
  match r, hq' with
  | .error er, hq' => exact False.elim hq'
  | .ok .next, hq' => exact False.elim hq'
  | .ok .brk, hq' => exact False.elim hq'
  | .ok .cont, hq' => exact False.elim hq'
  | .ok (.ret u), hq' =>
    obtain ⟨v, H2, os2, bare2, un2, hok2, rv, ev, d, fs, ea, ed, hd1, q2⟩ := hq'; subst ev
    obtain ⟨h2, g2, d2, t2, os'⟩ := s'; obtain ⟨t0, G, J, kG, ge, hoe, na⟩ := mk_end0 (d2 := d2) (t2 := t2) I1 hsz kk un2 hok2 os2 bare2 ea ed hd1
    exact ⟨rv, ⟨.ref (hp.objs.size + 1), _, J.laidN (t' := t2) kG ge na (exK_ok hoe ⟨rfl, rfl⟩ rfl), rfl, q2⟩⟩
/-- C(): a class without an own __init__ -/
theorem pe_exc0K {bmB : List Value} {B newId initId : String} (F : ExcBaseFacts B newId initId bmB) (q : PySem.W.excIn X.K C bmB newId = true) (gC : X.mg x = some (.ref C)) (kC : PySem.W.keepIn X.K (.ref C) = true) (hg : Gl X x)
    (hdb : (x == ("__debug__" : Str)) = false := by decide) :
    PE X (.Call (.Name x p) [] [] pos) (tExc0 C) := by
  refine ⟨fun pins s σ H Q I h => ?_⟩
  refine wpAny_Call_Name_kw (ld_glob I hg gC ?_ hdb)
  refine PySem.W.callWith_K0 I.kIn kC ?_
  show wpAny _ _ (call (.ref C) []) _ _ _
  obtain ⟨bm, N, nm, qn, bs, hdct, sn, sub, ab, col, dd, k0, k1, k2, k3, k5, mN, hC, hN, hni, T⟩ := exc_obj I.kIn q
  refine wpAny_call_exc_subT F T hC hN hni (fun h' a hm => ?_) (by show 0 ≤ sizeLine; omega)
  have hn : H a = none := I.hok.gone hm.new
  obtain ⟨t, ht, _, _⟩ := hm.there
  exact ⟨.ref a, upd H a (exK a (.ref C) none), I.laidN hm.keeps hm.new hn (exK_ok ht ⟨rfl, rfl⟩ rfl), rfl, h a hn⟩
end
section
variable {σ : L2.St} {H : Hp} {Q : VK} {C : Addr} {sp : Sp} {dvs : List V} {t : TA} {f : Str} {v : V}
theorem r_exc0 (h : ∀ a, H a = none → Q (.ref a) (upd H a (exK a (.ref C) none))) : tExc0 C σ H Q := h
def kMkK (C : Addr) (sp : Sp) (dvs : List V) (Q : VK) : List V → Hp → Prop := fun vs H1 => vs.length ≤ 1000 ∧ ∀ a, H1 a = none → sp (.ref a :: (vs ++ dvs)) (upd H1 a (exo a C none))
  (fun v H2 => v = .non ∧ ∃ (d : Addr) (fs : List (Str × V)), H2 a = some (exo a C (some d)) ∧ H2 d = some (exd d fs) ∧ H1 d = none ∧ Q (.ref a) (upd (upd (del H2 a) d (.xd fs)) a (exK a (.ref C) (some d)))) (fun _ _ _ => False)
theorem r_mkK (h : t σ H (kMkK C sp dvs Q)) : tMkK C sp dvs t σ H Q := h
/-- a class with one field, made -/
theorem v_mk1 (q : ∀ a d, H a = none → H d = none → d ≠ a → Q (.ref a) (upd (upd H d (.xd [(f, v)])) a (exK a (.ref C) (some d)))) : kMkK C (sp1 f C) [] Q [v] H := by
  refine ⟨by simp, fun a ha => ⟨a, v, rfl, upd_same, fun dx hdx hne => ⟨rfl, dx, _, upd_same, by rw [upd_ne hne]; exact upd_same, (upd_free hdx).1, ?_⟩⟩⟩
  have hd := (upd_free hdx).1
  have e : upd (upd (del (upd (upd (upd H a (exo a C none)) dx (exd dx [(f, v)])) a (exo a C (some dx))) a) dx (.xd [(f, v)])) a (exK a (.ref C) (some dx)) = upd (upd H dx (.xd [(f, v)])) a (exK a (.ref C) (some dx)) := by
    funext b
    by_cases c2 : b = a
    · rw [c2, upd_same, upd_same]
    · rw [upd_ne c2, upd_ne c2]
      by_cases c1 : b = dx
      · rw [c1, upd_same, upd_same]
      · rw [upd_ne c1, upd_ne c1, del_ne c2, upd_ne c2, upd_ne c1, upd_ne c2]
  rw [e]
  exact q a dx ha hd hne
end
end SH

set_option Elab.async false
set_option linter.all false
set_option maxRecDepth 100000
set_option maxHeartbeats 8000000
/-! the step -/
local macro_rules | `(tactic| walk_at "slot") => `(tactic| (with_reducible first | exact SH.get_z | (apply SH.get_s; walk_at "slot")))
local macro_rules | `(tactic| walk_at "put") => `(tactic| (with_reducible first | exact SH.set_z | (apply SH.set_s; walk_at "put")))
local macro_rules | `(tactic| walk_at "wipe") => `(tactic| (with_reducible first | exact SH.wp_z | apply SH.wp_s (by walk_at "wipe") (by walk_at "put")))
local macro_rules | `(tactic| walk_at "begin") => `(tactic| ((apply SH.r_start (by (repeat (with_reducible first | exact SH.st_z | apply SH.st_c | apply SH.st_n)))); (try dsimp only [L2.Cx.nox, L2.Cx.wish, L2.cxOf])))
local macro_rules | `(tactic| walk_at "r0") => `(tactic| with_reducible first
  | ((apply SH.r_nx (by walk_at "put")))
  | refine SH.r_seq ?_ | refine SH.r_asg ?_ | (apply SH.r_gnw (by walk_at "wipe")) | (apply SH.r_gtw (by walk_at "wipe")) | ((apply SH.r_gname (by walk_at "put")))
  | ((apply SH.r_var (by walk_at "slot"))) | refine SH.r_c ?_ | refine SH.r_op ?_ | refine SH.r_cons ?_ | refine SH.r_nil ?_
  | refine SH.v_addI ?_ | refine SH.v_subI ?_ | refine SH.v_ltI ?_ | refine SH.v_leI ?_ | refine SH.v_gtI ?_ | refine SH.v_geI ?_ | refine SH.v_eqI ?_ | refine SH.v_neI ?_
  | refine SH.v_eqB ?_ | refine SH.v_neB ?_ | refine SH.w_isB ?_ | refine SH.w_notB ?_ | refine SH.v_isN ?_ | refine SH.v_notN ?_ | refine SH.v_ipA ?_ | refine SH.v_ipS ?_ | refine SH.v_and ?_
  | refine SH.r_ifS ?_ | refine SH.r_test ?_ | refine SH.r_bl ?_ | refine SH.r_B ?_ | refine SH.r_and ?_ | refine SH.r_or ?_ | refine SH.r_not ?_ | refine SH.r_andV ?_ | refine SH.r_orV ?_ | refine SH.r_notV ?_
  | refine SH.r_T ?_ | refine SH.r_F ?_ | refine SH.r_nT ?_ | refine SH.r_nF ?_
  | refine SH.r_ret ?_ | refine SH.r_retN ?_ | refine SH.r_drop ?_ | ((apply SH.r_aug (by walk_at "slot"))) | refine SH.r_next ?_ | refine SH.r_if ?_
  | refine SH.r_call ?_ | refine SH.r_cb ?_ | refine SH.r_tup ?_ | refine SH.r_lst ?_ | refine SH.r_part ?_ | refine SH.r_nopart ?_ | refine SH.r_int ?_ | refine SH.r_sl ?_ | refine SH.r_chain ?_
  | refine SH.r_bm ?_ | refine SH.r_bm0 ?_ | refine SH.r_un ?_ | refine SH.r_neg ?_ | refine SH.r_gcons ?_ | refine SH.r_gnil ?_ | refine SH.r_gsub ?_ | refine SH.r_brk ?_ | refine SH.r_cont ?_ | refine SH.r_yes ?_
  | refine SH.r_for ?_ | refine SH.r_lcX ?_ | refine SH.r_lc ?_ | refine SH.r_iList ?_ | refine SH.r_iTup ?_ | refine SH.r_iRng1 ?_ | refine SH.r_iRng2 ?_ | refine SH.r_iRng3 ?_ | refine SH.r_iEnum ?_ | refine SH.r_iZip ?_ | refine SH.r_iRev ?_
  | refine SH.r_fldF ?_ | refine SH.r_sfldF ?_ | refine SH.r_sfldAugF ?_ | refine SH.r_meth ?_ | refine SH.r_make ?_ | refine SH.r_lrg1 ?_ | refine SH.r_lrg2 ?_ | refine SH.r_bits ?_ | refine SH.v_bits ?_ | refine SH.w_max ?_ | refine SH.w_min ?_
  | refine SH.r_par ?_ | refine SH.r_par3 ?_ | (apply SH.v_par (by walk_at "put") (by walk_at "put")) | (apply SH.v_par3 (by walk_at "put") (by walk_at "put") (by walk_at "put"))
  | refine SH.r_callS ?_ | refine SH.r_mkO ?_ | refine SH.r_xf ?_ | refine SH.r_xfK ?_ | refine SH.r_mkK ?_ | refine SH.r_exc0 ?_ | refine SH.r_ost ?_ | refine SH.r_methX ?_ | refine SH.r_makeX ?_ | refine SH.r_augS ?_ | refine SH.r_dnewT ?_ | refine SH.r_dput ?_ | refine SH.r_dget1 ?_ | refine SH.r_dgetI ?_ | refine SH.r_din ?_ | refine SH.r_dnotin ?_ | refine SH.w_intI ?_ | refine SH.w_intB ?_ | ((apply SH.v_dget1 (by assumption))))
/-! heap facts -/
local macro_rules | `(tactic| walk_at "ne") => `(tactic| with_reducible first
  | assumption | (apply Ne.symm; assumption)
  | ((apply SH.ne_of_none'); (focus (assumption; done)); (focus (walk_at "lk"))) | ((apply Ne.symm); (apply SH.ne_of_none'); (focus (assumption; done)); (focus (walk_at "lk")))
  | ((apply L2.ne_of); (focus (walk_at "lk")); (focus (walk_at "lk")); (focus (intro z; cases z; done))))
local macro_rules | `(tactic| walk_at "lk") => `(tactic| (focus
  ((repeat (with_reducible first
  | assumption | exact L2.upd_same
  | (apply SH.off_old (by assumption))
  | ((apply SH.off_far); (focus (walk_at "ne")))
  | (apply SH.Stp.keep0 (by assumption))));
        done)))
local macro_rules | `(tactic| walk_at "sq") => `(tactic| (focus
  ((repeat (with_reducible first
  | assumption | exact L2.SqL.of L2.upd_same | exact L2.SqT.of L2.upd_same | exact L2.SqL.of (by assumption) | exact L2.SqT.of (by assumption)
  | (apply SH.sql_off (by assumption)) | (apply SH.sqt_off (by assumption))
  | ((apply SH.sql_offar); (focus (walk_at "ne"))) | ((apply SH.sqt_offar); (focus (walk_at "ne")))
  | (apply SH.Stp.sql0 (by assumption)) | (apply SH.Stp.sqt0 (by assumption))));
        done)))
local macro_rules | `(tactic| walk_at "st") => `(tactic| (focus
  ((repeat (with_reducible first
  | assumption | exact SH.Stp.refl _ _
  | (apply SH.st_new (by assumption)) | (apply SH.st_trans (by assumption)) | ((apply SH.st_put); (focus (walk_at "fr")))));
        done)))
local macro_rules | `(tactic| walk_at "fr") => `(tactic| with_reducible first | assumption | ((apply SH.st_fr (by assumption)); (walk_at "st")))
local macro_rules | `(tactic| walk_at "few") => `(tactic| first | exact SH.few0 | exact SH.few1 | exact SH.few2 | exact SH.few3 | exact SH.few4 | exact SH.few5 | exact SH.few6 | (simp; done))
local macro_rules | `(tactic| walk_at "pf") => `(tactic| first | exact SH.pf_nil | exact SH.pf_hit | (apply SH.pf_miss (by decide) (by walk_at "pf")))
/-! steps with a side -/
local macro_rules | `(tactic| walk_at "r2") => `(tactic| first
  | ((with_reducible refine SH.v_mulI ?_ ?_); (focus (first | exact L2.CMul.ok (.inl ⟨by omega, by omega⟩) | exact L2.CMul.ok (.inr ⟨by omega, by omega⟩) | exact SH.mul64 ⟨by omega, by omega⟩ ⟨by omega, by omega⟩)))
  | ((with_reducible refine SH.v_divS ?_ ?_ ?_); (focus omega); (focus omega))
  | ((with_reducible refine SH.v_mod ?_ ?_); (focus omega))
  | (with_reducible refine SH.v_pow60 ?_)
  | ((with_reducible apply SH.v_lenQ); (focus (walk_at "sq")); (focus (first | exact List.length_map _ | rfl))) | ((with_reducible apply SH.v_lenU); (focus (walk_at "sq")); (focus (first | exact List.length_map _ | rfl)))
  | ((with_reducible apply SH.v_slL); (focus (walk_at "sq"))) | ((with_reducible apply SH.v_iList); (focus (walk_at "sq")))
  | ((with_reducible refine SH.v_rng2 ?_ ?_); (focus (refine ⟨by omega, by omega, by omega, by omega⟩)))
  | ((with_reducible refine SH.v_rng1 ?_ ?_); (focus (refine ⟨by omega, by omega⟩)))
  | ((with_reducible apply SH.v_fld); (focus (walk_at "lk")); (focus rfl)) | ((with_reducible apply SH.v_sfld); (focus (walk_at "lk")); (focus (walk_at "few")); (focus (walk_at "pf"))) | ((with_reducible apply SH.v_aug1); (focus (walk_at "lk")); (focus rfl)) | ((with_reducible apply SH.v_aug2); (focus (walk_at "lk")); (focus (walk_at "few")); (focus (walk_at "pf")))
  | ((with_reducible apply SH.v_enum); (focus (walk_at "sq"))) | ((with_reducible apply SH.v_rev1); (focus (walk_at "sq"))) | ((with_reducible apply SH.v_zip); (focus (walk_at "sq")); (focus (walk_at "sq"))) | ((with_reducible apply SH.v_iTup); (focus (walk_at "sq")))
  | (with_reducible refine SH.v_tup1 ?_) | (with_reducible refine SH.v_tup2 ?_) | (with_reducible refine SH.v_tup3 ?_) | (with_reducible refine SH.v_lst0 ?_) | (with_reducible refine SH.v_lst1 ?_) | (with_reducible refine SH.v_lst2 ?_) | (with_reducible refine SH.v_lst3 ?_) | (with_reducible refine SH.v_lst4 ?_)
  | ((with_reducible apply SH.r_ty); (focus (walk_at "lk")))
  | ((with_reducible apply SH.w_listL); (focus (walk_at "sq"))) | ((with_reducible apply SH.w_listT); (focus (walk_at "sq"))) | ((with_reducible apply SH.w_tupL); (focus (walk_at "sq"))) | ((with_reducible apply SH.w_tupT); (focus (walk_at "sq")))
  | ((with_reducible apply SH.r_gtup); (focus (walk_at "sq")); (focus rfl))
  | ((with_reducible apply SH.r_glst); (focus (walk_at "sq")); (focus rfl))
  | (with_reducible refine SH.r_callX ?_)
  | ((with_reducible refine SH.r_wp ?_ ?_); (focus rfl))
  | ((with_reducible apply SH.v_methX); (focus (walk_at "lk")); (focus rfl)) | ((with_reducible apply SH.v_xf); (focus (walk_at "lk")); (focus rfl)) | ((with_reducible apply SH.v_xfK); (focus (walk_at "lk")); (focus (walk_at "lk")); (focus rfl)) | ((with_reducible apply SH.v_meth); (focus (walk_at "lk")); (focus rfl)) | ((with_reducible apply SH.isi_L); (focus (walk_at "lk"))) | ((with_reducible apply SH.isi_T); (focus (walk_at "lk"))) | (with_reducible refine SH.isi_bl_bool ?_) | (with_reducible refine SH.isi_bl_int ?_)
  | (with_reducible refine SH.r_ckw ?_) | (with_reducible refine SH.r_ckw2 ?_) | (with_reducible refine SH.r_lrev ?_) | ((with_reducible apply SH.v_lrev); (focus (walk_at "sq")))
  | ((with_reducible refine SH.v_isiIT ?_)) | ((with_reducible refine SH.v_isiIB ?_)) )
local macro_rules | `(tactic| walk_at "r1") => `(tactic| first | walk_at "r0" | walk_at "r2")
local macro_rules | `(tactic| walk_at "rd") => `(tactic| repeat walk_at "r1")
/-! the same, up to the making of an instance, or a call -/
local macro_rules | `(tactic| walk_at "rq") => `(tactic| repeat ((fail_if_success (with_reducible refine SH.r_make ?_)); walk_at "r1"))
local macro_rules | `(tactic| walk_at "rc") => `(tactic| repeat ((fail_if_success (with_reducible refine SH.r_call ?_)); walk_at "r1"))
/-! the same, up to an if -/
local macro_rules | `(tactic| walk_at "ri") => `(tactic| repeat ((fail_if_success (with_reducible refine SH.r_ifS ?_)); walk_at "r1"))

namespace Law
open PySem PySem.Spec PyProof.Rows L2 SH NdefX LamX
def top (i : Nat) : Stmt := PySem.Challenge.pw_sorthall_k38_whole_reach.main.body.getD i (.Pass ⟨0, 0, 0, 0⟩)
abbrev s_TooFar___init__ : Stmt := inClass (top 5) 0
theorem sc_TooFar___init__ : FnScope ["self", "place", "others"] ["self", "place", "others"] (defScope s_TooFar___init__) := ⟨rfl, rfl, rfl, by decide +kernel, rfl, by decide +kernel, by decide +kernel⟩
abbrev s_Spent___init__ : Stmt := inClass (top 6) 0
theorem sc_Spent___init__ : FnScope ["self", "asked"] ["self", "asked"] (defScope s_Spent___init__) := ⟨rfl, rfl, rfl, by decide +kernel, rfl, by decide +kernel, by decide +kernel⟩
abbrev s_spot_of : Stmt := top 8
theorem sc_spot_of : FnScope ["asker", "order", "place", "low", "high", "middle"] ["asker", "order", "place"] (defScope s_spot_of) := ⟨rfl, rfl, rfl, by decide +kernel, rfl, by decide +kernel, by decide +kernel⟩
abbrev s_by_reach : Stmt := top 10
theorem sc_by_reach : FnScope ["asker", "reach", "order", "place", "start"] ["asker", "reach"] (defScope s_by_reach) := ⟨rfl, rfl, rfl, by decide +kernel, rfl, by decide +kernel, by decide +kernel⟩
abbrev s_Asker___init__ : Stmt := inClass (top 12) 0
theorem sc_Asker___init__ : FnScope ["self", "row", "rule", "most"] ["self", "row", "rule", "most"] (defScope s_Asker___init__) := ⟨rfl, rfl, rfl, by decide +kernel, rfl, by decide +kernel, by decide +kernel⟩
abbrev s_Asker_many : Stmt := inClass (top 12) 1
theorem sc_Asker_many : FnScope ["self"] ["self"] (defScope s_Asker_many) := ⟨rfl, rfl, rfl, by decide +kernel, rfl, by decide +kernel, by decide +kernel⟩
abbrev s_Asker_ahead : Stmt := inClass (top 12) 2
theorem sc_Asker_ahead : FnScope ["self", "p", "q", "later", "earlier", "said"] ["self", "p", "q"] (defScope s_Asker_ahead) := ⟨rfl, rfl, rfl, by decide +kernel, rfl, by decide +kernel, by decide +kernel⟩
abbrev s_Asker_answers : Stmt := inClass (top 12) 3
theorem sc_Asker_answers : FnScope ["self"] ["self"] (defScope s_Asker_answers) := ⟨rfl, rfl, rfl, by decide +kernel, rfl, by decide +kernel, by decide +kernel⟩
abbrev s_straight : Stmt := top 14
theorem sc_straight : FnScope ["many"] ["many"] (defScope s_straight) := ⟨rfl, rfl, rfl, by decide +kernel, rfl, by decide +kernel, by decide +kernel⟩
abbrev s_is_paper : Stmt := top 15
theorem sc_is_paper : FnScope ["some"] ["some"] (defScope s_is_paper) := ⟨rfl, rfl, rfl, by decide +kernel, rfl, by decide +kernel, by decide +kernel⟩
abbrev s_paper_for : Stmt := top 16
theorem sc_paper_for : FnScope ["paper", "many"] ["paper", "many"] (defScope s_paper_for) := ⟨rfl, rfl, rfl, by decide +kernel, rfl, by decide +kernel, by decide +kernel⟩
abbrev s_back : Stmt := top 17
theorem sc_back : FnScope ["paper", "told", "at", "place"] ["paper"] (defScope s_back) := ⟨rfl, rfl, rfl, by decide +kernel, rfl, by decide +kernel, by decide +kernel⟩
abbrev s_agrees : Stmt := top 18
theorem sc_agrees : FnScope ["paper", "answers", "turn", "later", "earlier", "said"] ["paper", "answers"] (defScope s_agrees) := ⟨rfl, rfl, rfl, by decide +kernel, rfl, by decide +kernel, by decide +kernel⟩
abbrev s_shows : Stmt := top 19
theorem sc_shows : FnScope ["paper", "answers", "asked", "later", "earlier", "said", "one", "other"] ["paper", "answers"] (defScope s_shows) := ⟨rfl, rfl, rfl, by decide +kernel, rfl, by decide +kernel, by decide +kernel⟩
abbrev s_Rule_before : Stmt := inClass (top 21) 0
theorem sc_Rule_before : FnScope ["self", "x", "y"] ["self", "x", "y"] (defScope s_Rule_before) := ⟨rfl, rfl, rfl, by decide +kernel, rfl, by decide +kernel, by decide +kernel⟩
abbrev s_AskedRule___init__ : Stmt := inClass (top 22) 0
theorem sc_AskedRule___init__ : FnScope ["self", "teller"] ["self", "teller"] (defScope s_AskedRule___init__) := ⟨rfl, rfl, rfl, by decide +kernel, rfl, by decide +kernel, by decide +kernel⟩
abbrev s_AskedRule_before : Stmt := inClass (top 22) 1
theorem sc_AskedRule_before : FnScope ["self", "x", "y", "ask"] ["self", "x", "y"] (defScope s_AskedRule_before) := ⟨rfl, rfl, rfl, by decide +kernel, rfl, by decide +kernel, by decide +kernel⟩
abbrev s__law_cell_at : Stmt := top 24
theorem sc__law_cell_at : FnScope ["_law_script", "_law_k"] ["_law_script", "_law_k"] (defScope s__law_cell_at) := ⟨rfl, rfl, rfl, by decide +kernel, rfl, by decide +kernel, by decide +kernel⟩
abbrev s__law_digits : Stmt := top 25
theorem sc__law_digits : FnScope ["_law_script", "_law_k", "_law_base", "_law_spare_ones", "_law_found", "_law_cell", "_law_turn"] ["_law_script", "_law_k", "_law_base"] (defScope s__law_digits) := ⟨rfl, rfl, rfl, by decide +kernel, rfl, by decide +kernel, by decide +kernel⟩
abbrev s__law_stream : Stmt := top 26
theorem sc__law_stream : FnScope ["_law_cell", "_law_many", "_law_found", "_law_number", "_law_k"] ["_law_cell", "_law_many"] (defScope s__law_stream) := ⟨rfl, rfl, rfl, by decide +kernel, rfl, by decide +kernel, by decide +kernel⟩
abbrev s__law_blocks : Stmt := top 27
theorem sc__law_blocks : FnScope ["_law_keys_here", "_law_cell", "_law_row", "_law_number", "_law_part"] ["_law_keys_here", "_law_cell"] (defScope s__law_blocks) := ⟨rfl, rfl, rfl, by decide +kernel, rfl, by decide +kernel, by decide +kernel⟩
abbrev s__law_nearly : Stmt := top 28
theorem sc__law_nearly : FnScope ["_law_keys_here", "_law_cell", "_law_row", "_law_number", "_law_at", "_law_key"] ["_law_keys_here", "_law_cell"] (defScope s__law_nearly) := ⟨rfl, rfl, rfl, by decide +kernel, rfl, by decide +kernel, by decide +kernel⟩
abbrev s__law_keys : Stmt := top 29
theorem sc__law_keys : FnScope ["_law_script", "_law_most", "_law_mode", "_law_mix", "_law_width", "_law_keys_here", "_law_way", "_law_cell", "_law_number"] ["_law_script", "_law_most"] (defScope s__law_keys) := ⟨rfl, rfl, rfl, by decide +kernel, rfl, by decide +kernel, by decide +kernel⟩
abbrev s__law_whole : Stmt := top 30
theorem sc__law_whole : FnScope ["_law_found"] ["_law_found"] (defScope s__law_whole) := ⟨rfl, rfl, rfl, by decide +kernel, rfl, by decide +kernel, by decide +kernel⟩
abbrev s__law_teller : Stmt := top 31
theorem sc__law_teller : FnScope ["_law_log", "_law_teller_here"] ["_law_log"] (defScope s__law_teller) := ⟨rfl, rfl, rfl, by decide +kernel, rfl, by decide +kernel, by decide +kernel⟩
abbrev s__law_in_order : Stmt := top 32
theorem sc__law_in_order : FnScope ["_law_order", "_law_keys_here", "_law_many", "_law_place", "_law_p", "_law_q"] ["_law_order", "_law_keys_here", "_law_many"] (defScope s__law_in_order) := ⟨rfl, rfl, rfl, by decide +kernel, rfl, by decide +kernel, by decide +kernel⟩
abbrev s__law_shown : Stmt := top 33
theorem sc__law_shown : FnScope ["_law_order", "_law_log", "_law_met", "_law_later", "_law_earlier", "_law_said", "_law_p", "_law_q"] ["_law_order", "_law_log"] (defScope s__law_shown) := ⟨rfl, rfl, rfl, by decide +kernel, rfl, by decide +kernel, by decide +kernel⟩
abbrev s__law_crossed : Stmt := top 34
theorem sc__law_crossed : FnScope ["_law_keys_here", "_law_counts", "_law_place", "_law_p"] ["_law_keys_here"] (defScope s__law_crossed) := ⟨rfl, rfl, rfl, by decide +kernel, rfl, by decide +kernel, by decide +kernel⟩
abbrev s__law_told : Stmt := top 35
theorem sc__law_told : FnScope ["_law_asker", "_law_reach", "_law_told_here", "_law_e"] ["_law_asker", "_law_reach"] (defScope s__law_told) := ⟨rfl, rfl, rfl, by decide +kernel, rfl, by decide +kernel, by decide +kernel⟩
abbrev s__law_far : Stmt := top 36
theorem sc__law_far : FnScope ["_law_e", "_law_counts", "_law_keys_here", "_law_reach", "_law_last", "_law_other", "_law_k"] ["_law_e", "_law_counts", "_law_keys_here", "_law_reach"] (defScope s__law_far) := ⟨rfl, rfl, rfl, by decide +kernel, rfl, by decide +kernel, by decide +kernel⟩
abbrev s__law_few : Stmt := top 37
theorem sc__law_few : FnScope ["_law_log", "_law_reach", "_law_most", "_law_counts", "_law_later", "_law_earlier", "_law_said", "_law_place", "_law_many"] ["_law_log", "_law_reach", "_law_most"] (defScope s__law_few) := ⟨rfl, rfl, rfl, by decide +kernel, rfl, by decide +kernel, by decide +kernel⟩
abbrev s__law_walked : Stmt := top 38
theorem sc__law_walked : FnScope ["_law_log", "_law_many", "_law_reach", "_law_order", "_law_at", "_law_place", "_law_low", "_law_high", "_law_middle"] ["_law_log", "_law_many", "_law_reach"] (defScope s__law_walked) := ⟨rfl, rfl, rfl, by decide +kernel, rfl, by decide +kernel, by decide +kernel⟩
abbrev s_law : Stmt := top 39
theorem sc_law : FnScope ["_law_script", "_law_keys_here", "_law_reach", "_law_log", "_law_asker", "_law_counts", "_law_enough", "_law_ahead_of", "_law_word", "_law_told_here", "_law_left", "_law_order", "_law_k", "_law_key"] ["_law_script"] (defScope s_law) := ⟨rfl, rfl, rfl, by decide +kernel, rfl, by decide +kernel, by decide +kernel⟩
abbrev s__law_teller___law_teller_here : Stmt := inDef (top 31) 0
theorem sc__law_teller___law_teller_here : NScope ["_law_x", "_law_y", "_law_log", "_law_said"] ["_law_x", "_law_y"] ["_law_log"] (C8.fnScope s__law_teller___law_teller_here) := nscope_by (by decide +kernel)
structure Ad where
  HallError : Addr
  NoPaper : Addr
  NoPlace : Addr
  TooFar : Addr
  Spent : Addr
  Asker : Addr
  Rule : Addr
  AskedRule : Addr
  P : Addr
structure Txt (K : PySem.W.Frag) (mg : Str → Option Value) (A : Ad) : Prop where
  z_ValueError : mg "ValueError" = Option.none
  z_len : mg "len" = Option.none
  z_range : mg "range" = Option.none
  z_list : mg "list" = Option.none
  z_enumerate : mg "enumerate" = Option.none
  z_zip : mg "zip" = Option.none
  z_sorted : mg "sorted" = Option.none
  z_max : mg "max" = Option.none
  z_min : mg "min" = Option.none
  z_isinstance : mg "isinstance" = Option.none
  z_int : mg "int" = Option.none
  z_sum : mg "sum" = Option.none
  z_reversed : mg "reversed" = Option.none
  z_bool : mg "bool" = Option.none
  g_HallError : mg "HallError" = some (.ref A.HallError)
  xn_HallError : PySem.W.excIn K A.HallError [.type "ValueError", .type "Exception", .type "BaseException", .type "object"] "ValueError.__new__" = true
  kp_HallError : PySem.W.keepIn K (.ref A.HallError) = true
  sb_HallError : PySem.W.subIn K (.ref A.HallError) (.type "BaseException") = some true
  ty_HallError : PySem.W.typeIn K (.ref A.HallError) = some (.type "type")
  ec_HallError : L2.ExcC K A.HallError
  g_NoPaper : mg "NoPaper" = some (.ref A.NoPaper)
  g_NoPlace : mg "NoPlace" = some (.ref A.NoPlace)
  g_TooFar : mg "TooFar" = some (.ref A.TooFar)
  ox_TooFar : L2.OexC K A.TooFar
  na_TooFar_place : PySem.W.findIn K (.ref A.TooFar) "place" = some none
  na_TooFar_others : PySem.W.findIn K (.ref A.TooFar) "others" = some none
  kp_TooFar : PySem.W.keepIn K (.ref A.TooFar) = true
  sb_TooFar : PySem.W.subIn K (.ref A.TooFar) (.type "BaseException") = some true
  ty_TooFar : PySem.W.typeIn K (.ref A.TooFar) = some (.type "type")
  ec_TooFar : L2.ExcC K A.TooFar
  g_Spent : mg "Spent" = some (.ref A.Spent)
  g_Asker : mg "Asker" = some (.ref A.Asker)
  cl_Asker : Cls K A.Asker
  na_Asker_row : NoAttr K A.Asker "row"
  na_Asker_rule : NoAttr K A.Asker "rule"
  na_Asker_most : NoAttr K A.Asker "most"
  na_Asker_asked : NoAttr K A.Asker "asked"
  na_Asker_log : NoAttr K A.Asker "log"
  g_Rule : mg "Rule" = some (.ref A.Rule)
  cl_Rule : Cls K A.Rule
  g_AskedRule : mg "AskedRule" = some (.ref A.AskedRule)
  cl_AskedRule : Cls K A.AskedRule
  na_AskedRule_teller : NoAttr K A.AskedRule "teller"
  exm_TooFar_HallError : PySem.W.exmOne K (.ref A.TooFar) (.ref A.HallError) = some true
  kits_TooFar_ValueError : PySem.W.kitOne K (.ref A.TooFar) (.type "ValueError") = some true
  kits_TooFar_TooFar : PySem.W.kitOne K (.ref A.TooFar) (.ref A.TooFar) = some true
  kits_TooFar_NoPaper : PySem.W.kitOne K (.ref A.TooFar) (.ref A.NoPaper) = some false
  kits_TooFar_NoPlace : PySem.W.kitOne K (.ref A.TooFar) (.ref A.NoPlace) = some false
  kits_TooFar_Spent : PySem.W.kitOne K (.ref A.TooFar) (.ref A.Spent) = some false
/-! ### papers -/
/-- nats in a list of the heap -/
abbrev nv (ps : List Nat) : List V := ps.map fun n : Nat => V.int n
def Pap (ps : List Nat) : Prop := ps.Perm (List.range ps.length)
theorem Pap.lt {ps : List Nat} (h : Pap ps) {p : Nat} (hp : p ∈ ps) : p < ps.length := List.mem_range.mp (h.mem_iff.mp hp)
theorem Pap.mem {ps : List Nat} (h : Pap ps) {p : Nat} (hp : p < ps.length) : p ∈ ps := h.mem_iff.mpr (List.mem_range.mpr hp)
theorem Pap.nodup {ps : List Nat} (h : Pap ps) : ps.Nodup := h.nodup_iff.mpr List.nodup_range
theorem pap_range (n : Nat) : Pap (List.range n) := by unfold Pap; rw [List.length_range]
/-- the paper back -/
def inv (ps : List Nat) : List Nat := (List.range ps.length).map fun i => ps.idxOf i
theorem inv_len (ps : List Nat) : (inv ps).length = ps.length := by simp [inv]
theorem inv_at {ps : List Nat} {i : Nat} (h : i < ps.length) : (inv ps)[i]? = some (ps.idxOf i) := by simp [inv, h]
theorem Pap.idx {ps : List Nat} (h : Pap ps) {i : Nat} (hi : i < ps.length) : ps.idxOf i < ps.length ∧ ps[ps.idxOf i]? = some i := by
  have hm := h.mem hi
  have hl := List.idxOf_lt_length_of_mem hm
  exact ⟨hl, by rw [List.getElem?_eq_getElem hl]; simp⟩
theorem Pap.idx_at {ps : List Nat} (h : Pap ps) {a p : Nat} (e : ps[a]? = some p) : ps.idxOf p = a := by
  obtain ⟨ha, e⟩ := List.getElem?_eq_some_iff.mp e
  rw [← e]
  exact List.Nodup.idxOf_getElem h.nodup a ha
/-- told[ps[a]] = a all through -/
theorem Pap.inv_of {ps told : List Nat} (h : Pap ps) (hl : told.length = ps.length) (ht : ∀ (a p : Nat), ps[a]? = some p → told[p]? = some a) : told = inv ps := by
  refine List.ext_getElem? fun i => ?_
  by_cases hi : i < ps.length
  · rw [inv_at hi]
    exact ht _ _ (h.idx hi).2
  · rw [List.getElem?_eq_none (by omega), List.getElem?_eq_none (by rw [inv_len]; omega)]
theorem Pap.inv {ps : List Nat} (h : Pap ps) : Pap (inv ps) := by
  unfold Pap
  rw [inv_len]
  refine (List.perm_ext_iff_of_nodup ?_ List.nodup_range).mpr fun a => ?_
  · unfold Law.inv
    refine List.pairwise_map.mpr (List.Pairwise.imp_of_mem ?_ List.nodup_range)
    intro x y hx hy hne e
    have ex := (h.idx (List.mem_range.mp hx)).2
    have ey := (h.idx (List.mem_range.mp hy)).2
    rw [e] at ex
    exact hne (Option.some.inj (ex.symm.trans ey))
  · unfold Law.inv
    rw [List.mem_map, List.mem_range]
    constructor
    · rintro ⟨i, hi, rfl⟩; exact (h.idx (List.mem_range.mp hi)).1
    · intro ha
      refine ⟨ps[a], List.mem_range.mpr (h.lt (List.getElem_mem ha)), h.idx_at (by simp [ha])⟩
/-- what is laid -/
def lay {α : Type} (d : α) (row : List α) (ps : List Nat) : List α := ps.map fun p => row.getD p d
theorem lay_len {α : Type} {d : α} {row : List α} {ps : List Nat} : (lay d row ps).length = ps.length := by simp [lay]
theorem lay_map {α β : Type} (f : α → β) (d : α) (row : List α) (ps : List Nat) : lay (f d) (row.map f) ps = (lay d row ps).map f := by
  unfold lay
  rw [List.map_map]
  refine List.map_congr_left fun p _ => ?_
  simp [List.getD_eq_getElem?_getD, Option.getD_map]
/-- laid by a paper and then by another one -/
theorem lay_lay {α : Type} {d : α} {row : List α} {ps qs : List Nat} (h : ∀ q ∈ qs, q < ps.length) : lay d (lay d row ps) qs = lay d row (lay 0 ps qs) := by
  unfold lay
  rw [List.map_map]
  refine List.map_congr_left fun q hq => ?_
  have := h q hq
  simp [this]
theorem lay_stay {α : Type} {d : α} {row : List α} : lay d row (List.range row.length) = row := by
  refine List.ext_getElem? fun i => ?_
  by_cases hi : i < row.length
  · simp [lay, hi]
  · rw [List.getElem?_eq_none (by rw [lay_len, List.length_range]; omega), List.getElem?_eq_none (by omega)]
theorem Pap.lay_inv {ps : List Nat} (h : Pap ps) : lay 0 ps (Law.inv ps) = List.range ps.length := by
  unfold lay Law.inv
  rw [List.map_map]
  refine (List.map_congr_left (g := id) fun i hi => ?_).trans (List.map_id _)
  have := (h.idx (List.mem_range.mp hi)).2
  simp [List.getD_eq_getElem?_getD, this]
theorem Pap.inv_lay {ps : List Nat} (h : Pap ps) : lay 0 (Law.inv ps) ps = List.range ps.length := by
  refine List.ext_getElem? fun i => ?_
  by_cases hi : i < ps.length
  · have e : ps[i]? = some ps[i] := List.getElem?_eq_getElem hi
    have e2 := inv_at (h.lt (List.getElem_mem hi))
    rw [h.idx_at e] at e2
    simp [lay, hi, List.getD_eq_getElem?_getD, e2]
  · rw [List.getElem?_eq_none (by rw [lay_len]; omega), List.getElem?_eq_none (by rw [List.length_range]; omega)]
theorem Pap.lay {ps qs : List Nat} (h : Pap ps) (k : Pap qs) (e : ps.length = qs.length) : Pap (lay 0 ps qs) := by
  unfold Pap
  rw [lay_len]
  have h1 : (Law.lay 0 ps qs).Perm (Law.lay 0 ps (List.range qs.length)) := List.Perm.map _ k
  rw [← e, lay_stay] at h1
  rw [← e]
  exact h1.trans h
/-- the back of two behind one another -/
theorem Pap.inv_two {ps qs : List Nat} (h : Pap ps) (k : Pap qs) (e : ps.length = qs.length) : Law.inv (Law.lay 0 ps qs) = Law.lay 0 (Law.inv qs) (Law.inv ps) := by
  have hb := h.lay k e
  refine (hb.inv_of (by rw [lay_len, inv_len, lay_len]; exact e) fun a p hp => ?_).symm
  have ha : a < qs.length := by
    have := (List.getElem?_eq_some_iff.mp hp).1
    rwa [lay_len] at this
  have hq : qs[a]? = some qs[a] := List.getElem?_eq_getElem ha
  have hlt := k.lt (List.getElem_mem ha)
  have hp2 : ps[qs[a]]? = some p := by
    simp only [Law.lay, List.getElem?_map, hq, Option.map_some, List.getD_eq_getElem?_getD] at hp
    rw [List.getElem?_eq_getElem (by omega)] at hp ⊢
    exact hp
  have hpl : p < ps.length := h.lt (List.mem_of_getElem? hp2)
  simp only [Law.lay, List.getElem?_map, inv_at hpl, Option.map_some, h.idx_at hp2, List.getD_eq_getElem?_getD, inv_at hlt, k.idx_at hq, Option.getD_some]
/-- put in anywhere -/
theorem Pap.insert {ps : List Nat} (h : Pap ps) (i : Nat) : Pap (ps.take i ++ [ps.length] ++ ps.drop i) := by
  unfold Pap
  have hl : (ps.take i ++ [ps.length] ++ ps.drop i).length = ps.length + 1 := by
    simp only [List.length_append, List.length_take, List.length_drop, List.length_singleton]; omega
  rw [hl, List.range_succ]
  have : (ps.take i ++ [ps.length] ++ ps.drop i).Perm (ps ++ [ps.length]) := by
    have h1 : (ps.take i ++ [ps.length] ++ ps.drop i).Perm (ps.take i ++ (ps.drop i ++ [ps.length])) := by
      rw [List.append_assoc]
      exact List.Perm.append_left _ List.perm_append_comm
    rw [← List.append_assoc, List.take_append_drop] at h1
    exact h1
  exact this.trans (List.Perm.append_right _ h)
theorem lay_succ {α : Type} {d : α} {row : List α} {qs : List Nat} {j q : Nat} (h : qs[j]? = some q) : lay d row (qs.take (j + 1)) = lay d row (qs.take j) ++ [row.getD q d] := by
  unfold lay
  rw [List.take_succ, h]
  simp
theorem nv_at {ps : List Nat} {q : Nat} (h : q < ps.length) : (nv ps)[q]? = some (.int (ps.getD q 0)) := by simp [nv, h]
theorem nv_app {ps : List Nat} {q : Nat} : nv (ps ++ [q]) = nv ps ++ [.int q] := by simp [nv]
/-! ### the program's papers -/
abbrev ni (ps : List Nat) : List Int := ps.map fun n : Nat => (n : Int)
theorem nv_ni (ps : List Nat) : nv ps = (ni ps).map V.int := by unfold nv ni; rw [List.map_map]; rfl
def PapI (ns : List Int) : Prop := ns.Perm (ni (List.range ns.length))
instance (ns : List Int) : Decidable (PapI ns) := inferInstanceAs (Decidable (List.Perm _ _))
theorem Pap.i {ps : List Nat} (h : Pap ps) : PapI (ni ps) := by
  unfold PapI
  rw [List.length_map]
  exact List.Perm.map _ h
theorem PapI.nat {ns : List Int} (h : PapI ns) : ∃ ps, Pap ps ∧ ns = ni ps := by
  have hn : ∀ n ∈ ns, 0 ≤ n := fun n hn => by
    have := h.mem_iff.mp hn
    obtain ⟨m, _, rfl⟩ := List.mem_map.mp this
    omega
  have e : ns = ni (ns.map Int.toNat) := by
    unfold ni
    rw [List.map_map]
    refine (List.map_id ns).symm.trans (List.map_congr_left fun n z => ?_)
    have := hn n z
    show n = ((n.toNat : Nat) : Int)
    omega
  refine ⟨ns.map Int.toNat, ?_, e⟩
  unfold Pap
  rw [List.length_map]
  have := List.Perm.map Int.toNat h
  rw [show List.map Int.toNat (ni (List.range ns.length)) = List.range ns.length by unfold ni; rw [List.map_map]; exact (List.map_congr_left fun n _ => by simp).trans (List.map_id _)] at this
  exact this
theorem sorted_pap {ns ns' : List Int} (hp : ns'.Perm ns) (hs : ns'.Pairwise (· ≤ ·)) : (ns' = ni (List.range ns.length)) ↔ PapI ns := by
  constructor
  · intro e; rw [e] at hp; exact hp.symm
  · intro h
    refine List.Perm.eq_of_pairwise (le := (· ≤ ·)) (fun a b _ _ h1 h2 => Int.le_antisymm h1 h2) hs ?_ (hp.trans h)
    refine List.pairwise_map.mpr (List.Pairwise.imp (fun {a b} h => ?_) List.pairwise_lt_range)
    omega

def sp_straight (K : PySem.W.Frag) (A : Ad) : Sp := fun vs H Q _ => ∃ (n : Nat), vs = [.int n] ∧ n ≤ 100000 ∧ ∀ q, H q = none → Q (.ref q) (upd H q (.lst (nv (List.range n))))
theorem ok_straight {P : Program} {w : World} {K : PySem.W.Frag} {mg : Str → Option Value} {base : Heap} {A : Ad} {f : Addr} {fd : FuncData} (F : Fun K "straight" "straight" s_straight f fd) (T : Txt K mg A)  : FnOk P w K mg base CX0 1 f fd ["many"] (sp_straight K A) := by
  refine F.ok sc_straight (fun vs H Q E h => by obtain ⟨_, rfl, _⟩ := h; rfl) (fun cdv A' outer s H vs Q E hr h => ?_)
  obtain ⟨n, rfl, hn, k⟩ := h
  refine ⟨_, (pss_one (ps_ret (SH.pe_listrange (by rfl) T.z_list (by rfl) T.z_range (pv 0)))), ?_⟩
  walk_at "begin"
  walk_at "rd"
  refine v_lrg1 (n := n) rfl (by omega) fun q hq => ?_
  exact k q hq

def sp_is_paper (K : PySem.W.Frag) (A : Ad) : Sp := fun vs H Q _ => ∃ (a : Addr) (ns : List Int), vs = [.ref a] ∧ (SqL K H a (ns.map V.int) ∧ ns.length ≤ 100000) ∧ ∀ H', Stp [] H H' → Q (.bl (decide (PapI ns))) H'
theorem ok_is_paper {P : Program} {w : World} {K : PySem.W.Frag} {mg : Str → Option Value} {base : Heap} {A : Ad} {f : Addr} {fd : FuncData} (F : Fun K "is_paper" "is_paper" s_is_paper f fd) (T : Txt K mg A) (C_straight : SH.Cal P w K mg base CX0 1 "straight" [] (sp_straight K A)) : FnOk P w K mg base CX0 2 f fd ["some"] (sp_is_paper K A) := by
  refine F.ok sc_is_paper (fun vs H Q E h => by obtain ⟨_, _, rfl, _⟩ := h; rfl) (fun cdv A' outer s H vs Q E hr h => ?_)
  obtain ⟨a, ns, rfl, ⟨hS, hl⟩, k⟩ := h
  refine ⟨_, (pss_one (ps_ret (pe_cmpR (SH.oEq hr.units) (pe_callB cr_sortedI (by rfl) T.z_sorted (by decide +kernel) (pa_cons (pv 0) pa_nil)) (SH.pe_callF C_straight hr (by rfl) pass0 (pa_cons (pe_callB SH.cLen (by rfl) T.z_len (by decide +kernel) (pa_cons (pv 0) pa_nil)) pa_nil)) (nomark _)))), ?_⟩
  walk_at "begin"
  walk_at "rd"
  refine v_sortI (by walk_at "sq") fun ns' q hp hs hq => ?_
  walk_at "rd"
  refine ⟨ns.length, rfl, hl, fun q2 hq2 => ?_⟩
  walk_at "rd"
  rw [nv_ni]
  refine v_eqL (ns := ns') (ms := ni (List.range ns.length)) (sql_upd (SqL.of upd_same) hq2) (SqL.of upd_same) ?_
  rw [show decide (ns' = ni (List.range ns.length)) = decide (PapI ns) from decide_eq_decide.mpr (sorted_pap hp hs)]
  walk_at "rd"
  exact k _ (((Stp.refl _ _).new hq).new (by exact hq2))

def sp_paper_for (K : PySem.W.Frag) (A : Ad) : Sp := fun vs H Q _ => ∃ (a : Addr) (ps : List Nat), vs = [.ref a, .int ps.length] ∧ (SqL K H a (nv ps) ∧ ps.length ≤ 100000 ∧ Pap ps) ∧ ∀ H', Stp [] H H' → Q (.ref a) H'
theorem ok_paper_for {P : Program} {w : World} {K : PySem.W.Frag} {mg : Str → Option Value} {base : Heap} {A : Ad} {f : Addr} {fd : FuncData} (F : Fun K "paper_for" "paper_for" s_paper_for f fd) (T : Txt K mg A) (C_is_paper : SH.Cal P w K mg base CX0 2 "is_paper" [] (sp_is_paper K A)) : FnOk P w K mg base CX0 3 f fd ["paper", "many"] (sp_paper_for K A) := by
  refine F.ok sc_paper_for (fun vs H Q E h => by obtain ⟨_, _, rfl, _⟩ := h; rfl) (fun cdv A' outer s H vs Q E hr h => ?_)
  obtain ⟨a, ps, rfl, ⟨hS, hl, hp⟩, k⟩ := h
  refine ⟨_, (pss_cons (ps_if (PW.pt (pw_or (pt_cmpR (SH.oNe hr.units) (pe_callB SH.cLen (by rfl) T.z_len (by decide +kernel) (pa_cons (pv 0) pa_nil)) (pv 1) (nomark _)) (pw_or1 (pt_not (pt_val (SH.pe_callF C_is_paper hr (by rfl) pass0 (pa_cons (pv 0) pa_nil))))))) (pss_one ps_never) pss_nil)
        (pss_one (ps_ret (pv 0)))), ?_⟩
  walk_at "begin"
  walk_at "rd"
  refine r_nwF rfl ?_
  rw [nv_ni] at hS
  walk_at "rd"
  refine ⟨a, ni ps, rfl, ⟨hS, by rw [List.length_map]; exact hl⟩, fun H' S => ?_⟩
  walk_at "rd"
  rw [decide_eq_true hp.i]
  walk_at "rd"
  exact k _ S

def sp_back (K : PySem.W.Frag) (A : Ad) : Sp := fun vs H Q _ => ∃ (a : Addr) (ps : List Nat), vs = [.ref a] ∧ (SqL K H a (nv ps) ∧ ps.length ≤ 100000 ∧ Pap ps) ∧
  ∀ q H', H q = none → Stp [] H H' → H' q = some (.lst (nv (inv ps))) → Q (.ref q) H'
theorem ok_back {P : Program} {w : World} {K : PySem.W.Frag} {mg : Str → Option Value} {base : Heap} {A : Ad} {f : Addr} {fd : FuncData} (F : Fun K "back" "back" s_back f fd) (T : Txt K mg A) (C_paper_for : SH.Cal P w K mg base CX0 3 "paper_for" [] (sp_paper_for K A)) (C_straight : SH.Cal P w K mg base CX0 1 "straight" [] (sp_straight K A)) : FnOk P w K mg base CX0 4 f fd ["paper"] (sp_back K A) := by
  refine F.ok sc_back (fun vs H Q E h => by obtain ⟨_, _, rfl, _⟩ := h; rfl) (fun cdv A' outer s H vs Q E hr h => ?_)
  obtain ⟨a, ps, rfl, ⟨hS, hl, hp⟩, k⟩ := h
  refine ⟨_, (pss_cons (ps_set (i := 1) sc_back.nd rfl (Or.inl rfl) (SH.pe_callF C_straight hr (by rfl) pass0 (pa_cons (pe_callB SH.cLen (by rfl) T.z_len (by decide +kernel) (pa_cons (pv 0) pa_nil)) pa_nil)))
        (pss_cons (ps_for PassesOwn.never rfl (pi_enum (by rfl) T.z_enumerate (pa_cons (SH.pe_callF C_paper_for hr (by rfl) pass0 (pa_cons (pv 0) (pa_cons (pe_callB SH.cLen (by rfl) T.z_len (by decide +kernel) (pa_cons (pv 0) pa_nil)) pa_nil))) pa_nil)) (pg_tup (by rfl) (pgs_cons (pg_name (i := 2) sc_back.nd rfl (Or.inl rfl)) (pgs_cons (pg_name (i := 3) sc_back.nd rfl (Or.inl rfl)) pgs_nil))) (pss_one (ps_asg (pv 2) (pg_sub (pv 1) (pv 3) set_list))))
        (pss_one (ps_ret (pv 1))))), ?_⟩
  walk_at "begin"
  walk_at "rd"
  refine ⟨ps.length, rfl, hl, fun q hq => ?_⟩
  walk_at "rd"
  refine ⟨a, ps, rfl, ⟨sql_upd hS hq, hl, hp⟩, fun H1 S1 => ?_⟩
  walk_at "rd"
  have hq1 : H1 q = some (.lst (nv (List.range ps.length))) := S1.keep0 upd_same
  have S2 : Stp [] H H1 := ((Stp.refl [] H).new hq).then0 S1
  refine for_it (walk_enum (xs := nv ps)) (fun j σ H' => Stp [] H H' ∧ (∃ told : List Nat, told.length = ps.length ∧ (∀ b p : Nat, b < j → ps[b]? = some p → told[p]? = some b) ∧ H' q = some (.lst (nv told))) ∧ ∃ v2 v3, σ = [some (.ref a), some (.ref q), v2, v3])
    ⟨S2, ⟨_, List.length_range, fun b p h => by omega, hq1⟩, _, _, rfl⟩ (fun _ _ _ _ z => z.1.sql0 hS) ?_ ?_
  · rintro j x σ H2 H3 hj ⟨S, ⟨told, hl', ht, hT⟩, v2, v3, rfl⟩ ⟨t, x, y, rfl, ht0, rfl, hx, hy⟩
    cases hx
    obtain ⟨p, hp', rfl⟩ := map_at hy
    have hlt := hp.lt (List.mem_of_getElem? hp')
    walk_at "rd"
    refine v_setL (n := p) (upd_old hT ht0) rfl (by rw [List.length_map]; omega) ?_
    walk_at "rd"
    refine ⟨(S.new ht0).putN hq, ⟨told.set p j, by rw [List.length_set]; exact hl', fun b p' hb hp2 => ?_, by rw [upd_same]; unfold nv; rw [List.map_set]⟩, _, _, rfl⟩
    by_cases e : b = j
    · subst e
      rw [hp'] at hp2
      cases hp2
      simp [show p < told.length by omega]
    · have hne : p ≠ p' := fun z => by
        subst z
        exact e ((hp.idx_at hp2).symm.trans (hp.idx_at hp'))
      rw [List.getElem?_set_ne hne]
      exact ht b p' (by omega) hp2
  · rintro σ H2 ⟨S, ⟨told, hl', ht, hT⟩, v2, v3, rfl⟩
    walk_at "rd"
    have e : told = inv ps := hp.inv_of hl' fun b p hb => ht b p (by rw [List.length_map]; exact (List.getElem?_eq_some_iff.mp hb).1) hb
    rw [e] at hT
    exact k q _ hq S hT
theorem isl_lay {K : PySem.W.Frag} {H : Hp} {α : Type} [Enc α] {d : α} {vs : List V} {xs : List α} {ps : List Nat} (h : IsL K H vs xs) (hp : ∀ p ∈ ps, p < xs.length) : IsL K H (lay .non vs ps) (lay d xs ps) := by
  unfold lay
  refine isl_map2 fun p hm => ?_
  have hx := hp p hm
  obtain ⟨v, hv, hI⟩ := isl_get h (List.getElem?_eq_getElem hx)
  simp only [List.getD_eq_getElem?_getD, hv, List.getElem?_eq_getElem hx, Option.getD_some]
  exact hI
/-! ### the function that the rule asks: it goes by the first numbers and writes down -/
def sp__law_teller___law_teller_here (K : PySem.W.Frag) (A : Ad) : List V → Sp := fun ws vs H Q _ => ∃ (l x y : Addr) (evs : List V) (kx ky : Int) (px py : Nat), vs = [.ref x, .ref y] ∧ (ws = [.ref l] ∧ H l = some (.lst evs) ∧ evs.length ≤ 100000 ∧ H x = some (.tup [.int kx, .int px]) ∧ H y = some (.tup [.int ky, .int py])) ∧
  ∀ t H', Stp [l] H H' → H' l = some (.lst (evs ++ [.ref t])) → H' t = some (.tup [.int px, .int py, .bl (decide (kx < ky))]) → Q (.bl (decide (kx < ky))) H'
abbrev Clo1 (H : Hp) (f : Addr) (ws : List V) (cl : List (Str × Addr)) (c' : Addr) : Prop := SH.Clo H f s__law_teller___law_teller_here "_law_teller_here" "_law_teller.<locals>._law_teller_here" ["_law_log"] ws cl c'
abbrev telAt : Addr → Hp → Prop := fun f H => ∃ ws cl c', SH.Clo H f s__law_teller___law_teller_here "_law_teller_here" "_law_teller.<locals>._law_teller_here" ["_law_log"] ws cl c'
abbrev telSp (K : PySem.W.Frag) (A : Ad) : Addr → Sp := fun f vs H Q E => ∃ ws cl c', SH.Clo H f s__law_teller___law_teller_here "_law_teller_here" "_law_teller.<locals>._law_teller_here" ["_law_log"] ws cl c' ∧ sp__law_teller___law_teller_here K A ws vs H Q E
theorem cok__law_teller___law_teller_here {P : Program} {w : World} {K : PySem.W.Frag} {mg : Str → Option Value} {base : Heap} {A : Ad} (T : Txt K mg A) : SH.COk P w K mg base CX0 1 s__law_teller___law_teller_here "_law_teller_here" "_law_teller.<locals>._law_teller_here" ["_law_x", "_law_y"] ["_law_log"] (sp__law_teller___law_teller_here K A) := by
  refine SH.cok_of sc__law_teller___law_teller_here (fun _ _ _ _ _ us hl => match us, hl with | [_, _], _ => rfl) (fun ws vs H Q E h => by obtain ⟨_, _, _, _, _, _, _, _, rfl, _⟩ := h; rfl) (fun A' outer s f cl c' H H0 vs ws Q Q0 E hr h hw lo fin => ?_)
  obtain ⟨l, x, y, evs, kx, ky, px, py, rfl, ⟨rfl, hl, hle, hx, hy⟩, k⟩ := h
  refine ⟨_, (pss_cons (ps_set (i := 3) sc__law_teller___law_teller_here.nd rfl (Or.inl rfl) (pe_cmpR (SH.oLt hr.units0) (pe_ix SH.ixA (pv 0) pe_int (fun _ _ => rfl)) (pe_ix SH.ixA (pv 1) pe_int (fun _ _ => rfl)) (nomark _)))
        (pss_cons (ps_expr (pe_bm PySem.F.plainAttrs_list PySem.F.slot_list_append PySem.F.type_list_append mt_append (pv 2) (pa_cons (pe_tup (pa_cons (pe_ix SH.ixA (pv 0) pe_int (fun _ _ => rfl)) (pa_cons (pe_ix SH.ixA (pv 1) pe_int (fun _ _ => rfl)) (pa_cons (pv 3) pa_nil)))) pa_nil)))
        (pss_one (ps_ret (pv 3))))), ?_⟩
  show (_ : TS) _ [some (.ref x), some (.ref y), some (.ref l), none] H0
  dsimp only [NdefX.ncx]
  have hl0 := lo _ _ hl True.intro
  have hx0 := lo _ _ hx True.intro
  have hy0 := lo _ _ hy True.intro
  walk_at "rd"
  refine v_ixTn (n := 0) (SqT.of hx0) rfl rfl ?_
  walk_at "rd"
  refine v_ixTn (n := 0) (SqT.of hy0) rfl rfl ?_
  walk_at "rd"
  refine v_ixTn (n := 1) (SqT.of hx0) rfl rfl ?_
  walk_at "rd"
  refine v_ixTn (n := 1) (SqT.of hy0) rfl rfl ?_
  walk_at "rd"
  intro t ht
  walk_at "rd"
  have ntl : t ≠ l := (ne_of_none hl0 ht).symm
  refine v_app (upd_old hl0 ht) (by omega) ?_
  walk_at "rd"
  refine fin _ [l] _ (((Stp.refl [l] H0).new ht).putL (by simp) (upd_old hl0 ht)) fun H' S hsub => ?_
  exact k t H' S (hsub l _ upd_same) (hsub t _ (upd_far ntl upd_same))
abbrev Tb (A : Ad) : List NTab := [(A.P, fun _ _ => "_law_teller.<locals>._law_teller_here")]
def sp__law_teller (K : PySem.W.Frag) (A : Ad) : Sp := fun vs H Q _ => ∃ (p0 : V), vs = [p0] ∧ TabsN (Tb A) H ∧ ∀ (f' : Addr) (H' : Hp) (cl : List (Str × Addr)) (c' : Addr), ExtN H H' → (∀ b, H' b = none → H b = none) → TabsN (Tb A) H' → H f' = none → SH.Clo H' f' s__law_teller___law_teller_here "_law_teller_here" "_law_teller.<locals>._law_teller_here" ["_law_log"] [p0] cl c' → Q (.ref f') H'
theorem ok__law_teller {P : Program} {w : World} {K : PySem.W.Frag} {mg : Str → Option Value} {base : Heap} {A : Ad} {f c : Addr} {dV kV doc pm ct oc : Value} {an od : Option Addr} {osl : Array (Option Value)} (lk : K.lookup f = some ⟨oc, od, .func (PySem.W.fnOf "_law_teller" "_law_teller" (defArgs s__law_teller) (defBody s__law_teller) (defScope s__law_teller) dV kV doc pm an (.ref c) ct), osl⟩) (hcd : PySem.W.codeIn K (.ref c) "_law_teller" = true) (TB : LamX.TabB base mg c A.P) :
    FnOk P w K mg base CX0 1 f (PySem.W.fnOf "_law_teller" "_law_teller" (defArgs s__law_teller) (defBody s__law_teller) (defScope s__law_teller) dV kV doc pm an (.ref c) ct) ["_law_log"] (sp__law_teller K A) := by
  refine SH.maker (T := Tb A) (fr := ["_law_log"]) (ps := ["_law_log"]) (i := 1) (st := s__law_teller___law_teller_here) (ix := [0]) lk hcd sc__law_teller rfl rfl TB (List.mem_singleton.mpr rfl) rfl (fun p hp _ => by rw [List.mem_singleton] at hp; rw [hp]) (fun _ _ => rfl) (by decide +kernel) (by decide +kernel) (by decide +kernel) rfl rfl (fun _ => rfl) rfl rfl (by decide) (by decide) (by decide) rfl (fun vs H Q E h => by obtain ⟨_, rfl, _⟩ := h; rfl) (fun vs H Q E h => ?_)
  obtain ⟨p0, rfl, h1, h2⟩ := h
  exact ⟨h1, h2⟩
/-! ### asks: the later place, the earlier one, what was told -/
abbrev Ent := T3 Nat Nat Bool
/-- all entries are what the oracle tells -/
def Told (or : List Ent → Nat → Nat → Bool) : List Ent → List Ent → Prop
  | _, [] => True
  | log, e :: es => e.c = or log e.a e.b ∧ Told or (log ++ [e]) es
theorem Told.app {or : List Ent → Nat → Nat → Bool} : ∀ {log es fs : List Ent}, Told or log es → Told or (log ++ es) fs → Told or log (es ++ fs)
  | log, [], fs, _, h => by simpa using h
  | log, e :: es, fs, h, k => ⟨h.1, Told.app h.2 (by simpa using k)⟩
theorem Told.one {or : List Ent → Nat → Nat → Bool} {log : List Ent} {e : Ent} (h : e.c = or log e.a e.b) : Told or log [e] := ⟨h, True.intro⟩
/-- an oracle that doesn't look at the log -/
theorem Told.all {lt : Nat → Nat → Bool} : ∀ {log es : List Ent}, Told (fun _ => lt) log es → ∀ e ∈ es, e.c = lt e.a e.b
  | log, [], _, e, h => by cases h
  | log, e' :: es, h, e, he => by
    rcases List.mem_cons.mp he with z | he
    · rw [z]; exact h.1
    · exact Told.all h.2 e he
theorem max_v (p q : Nat) : (if (q : Int) > (p : Int) then (q : Int) else (p : Int)) = ((max p q : Nat) : Int) := by split <;> omega
theorem min_v (p q : Nat) : (if (q : Int) < (p : Int) then (q : Int) else (p : Int)) = ((min p q : Nat) : Int) := by split <;> omega
def AskF (r : Addr) (u : V) (n : Nat) (l : Addr) : List (Str × V) := [("row", .ref r), ("rule", u), ("most", .non), ("asked", .int n), ("log", .ref l)]
def sp_AskedRule___init__ (K : PySem.W.Frag) (A : Ad) : Sp := fun vs H Q _ => ∃ (s : Addr) (f : V), vs = [.ref s, f] ∧ (∃ dx, H s = some (.ins A.AskedRule dx [])) ∧ ∀ dx, Q .non (upd H s (.ins A.AskedRule dx [("teller", f)]))
theorem ok_AskedRule___init__ {P : Program} {w : World} {K : PySem.W.Frag} {mg : Str → Option Value} {base : Heap} {A : Ad} {f : Addr} {fd : FuncData} (F : Fun K "__init__" "AskedRule.__init__" s_AskedRule___init__ f fd) (T : Txt K mg A)  : FnOk P w K mg base CX0 1 f fd ["self", "teller"] (sp_AskedRule___init__ K A) := by
  refine F.ok sc_AskedRule___init__ (fun vs H Q E h => by obtain ⟨_, _, rfl, _⟩ := h; rfl) (fun cdv A' outer s H vs Q E hr h => ?_)
  obtain ⟨s', f', rfl, ⟨dx, hs⟩, k⟩ := h
  refine ⟨_, (pss_one (SH.ps_fldF T.cl_AskedRule T.na_AskedRule_teller (pv 0) (pv 1) rfl)), ?_⟩
  walk_at "begin"
  walk_at "rd"
  exact k dx

def sp_AskedRule_before (K : PySem.W.Frag) (A : Ad) : Sp := fun vs H Q E => ∃ (u f x y d : Addr), vs = [.ref u, .ref x, .ref y] ∧ H u = some (.ins A.AskedRule d [("teller", .ref f)]) ∧ telAt f H ∧ telSp K A f [.ref x, .ref y] H Q (fun _ _ _ => False)
theorem ok_AskedRule_before {P : Program} {w : World} {K : PySem.W.Frag} {mg : Str → Option Value} {base : Heap} {A : Ad} {f : Addr} {fd : FuncData} (F : Fun K "before" "AskedRule.before" s_AskedRule_before f fd) (T : Txt K mg A) (TEL : SH.TelOk P w K mg base 1 telAt (telSp K A)) : FnOk P w K mg base CX0 2 f fd ["self", "x", "y"] (sp_AskedRule_before K A) := by
  refine F.ok sc_AskedRule_before (fun vs H Q E h => by obtain ⟨_, _, _, _, _, rfl, _⟩ := h; rfl) (fun cdv A' outer s H vs Q E hr h => ?_)
  obtain ⟨u, f', x, y, d, rfl, hu, hat, k⟩ := h
  refine ⟨_, (pss_cons (ps_set (i := 3) sc_AskedRule_before.nd rfl (Or.inl rfl) (SH.pe_fldF T.cl_AskedRule T.na_AskedRule_teller (pv 0)))
        (pss_one (ps_ret (SH.pe_callTel (i := 3) TEL hr rfl (Or.inl rfl) (pa_cons (pv 1) (pa_cons (pv 2) pa_nil)))))), ?_⟩
  walk_at "begin"
  walk_at "rd"
  refine SH.r_tel rfl hat ?_
  walk_at "rd"
  exact k

/-! ### the asker of a function that goes by keys and writes down -/
/-- a row of pairs (key, place) -/
def RowP (H : Hp) (row : List V) (ks : List Int) : Prop := row.length = ks.length ∧ ∀ (i : Nat) (v : V), row[i]? = some v → ∃ (t : Addr), v = .ref t ∧ H t = some (.tup [.int (getE ks i), .int (i : Nat)])
theorem RowP.stp {M : List Addr} {H H' : Hp} {row : List V} {ks : List Int} (h : RowP H row ks) (S : Stp M H H') : RowP H' row ks :=
  ⟨h.1, fun i v e => by obtain ⟨t, h1, h2⟩ := h.2 i v e; exact ⟨t, h1, S.tup h2⟩⟩
theorem RowP.app {H : Hp} {row : List V} {ks : List Int} {t : Addr} {k : Int} (h : RowP H row ks) (ht : H t = some (.tup [.int k, .int (row.length : Nat)])) : RowP H (row ++ [.ref t]) (ks ++ [k]) := by
  refine ⟨by simp [h.1], fun i v e => ?_⟩
  by_cases hi : i < row.length
  · rw [List.getElem?_append_left hi] at e
    obtain ⟨t', a, b⟩ := h.2 i v e
    exact ⟨t', a, by rw [getE_app (by rw [← h.1]; exact hi)]; exact b⟩
  · rw [List.getElem?_append_right (by omega)] at e
    have hz : i = row.length := by
      have := (List.getElem?_eq_some_iff.mp e).1
      simp at this; omega
    subst hz
    simp at e
    exact ⟨t, e.symm, by rw [getE_last h.1.symm]; exact ht⟩
structure Ask where
  s : Addr
  r : Addr
  l : Addr
  dx : Addr
  u : Addr
  du : Addr
  f : Addr
  tl : Addr
  cl : List (Str × Addr)
  cc : Addr
  ks : List Int
  row : List V
  pre : List Ent
  sk : Nat
def Ask.n (I : Ask) : Nat := I.ks.length
def Ask.M (I : Ask) : List Addr := [I.s, I.l, I.tl]
def Ask.own (I : Ask) : List Addr := [I.s, I.l, I.tl, I.r, I.u]
def Ask.lt (I : Ask) (p q : Nat) : Bool := decide (getE I.ks p < getE I.ks q)
def Ask.or (I : Ask) : List Ent → Nat → Nat → Bool := fun _ => I.lt
structure Ask.At (I : Ask) (K : PySem.W.Frag) (A : Ad) (H : Hp) (log : List Ent) : Prop where
  hs : H I.s = some (.ins A.Asker I.dx (AskF I.r (.ref I.u) log.length I.l))
  hr : H I.r = some (.lst I.row)
  hl : ∃ evs, H I.l = some (.lst evs) ∧ IsL K H evs log
  hu : H I.u = some (.ins A.AskedRule I.du [("teller", .ref I.f)])
  ht : ∃ evs, H I.tl = some (.lst evs) ∧ IsL K H evs (I.pre ++ log.drop I.sk)
  hf : Clo1 H I.f [.ref I.tl] I.cl I.cc
  rk : RowP H I.row I.ks
  d1 : I.s ≠ I.u
  d2 : I.l ≠ I.r
  d3 : I.tl ≠ I.r
  d4 : I.l ≠ I.tl
  few : log.length + I.pre.length ≤ 100000
  sk : I.sk ≤ log.length
  rows : I.row.length ≤ 100000
theorem Ask.At.stp {I : Ask} {K : PySem.W.Frag} {A : Ad} {M : List Addr} {H H' : Hp} {log : List Ent} (h : I.At K A H log) (S : Stp M H H') (hM : ∀ m ∈ M, m ∉ I.own) : I.At K A H' log := by
  have k : ∀ b o, b ∈ I.own → H b = some o → H' b = some o := fun b o hb e => S.keep e fun z => hM b z hb
  obtain ⟨evs, h1, h2⟩ := h.hl
  obtain ⟨tvs, h3, h4⟩ := h.ht
  exact ⟨k _ _ (by simp [Ask.own]) h.hs, k _ _ (by simp [Ask.own]) h.hr, ⟨evs, k _ _ (by simp [Ask.own]) h1, isl_stpM S h2⟩, k _ _ (by simp [Ask.own]) h.hu, ⟨tvs, k _ _ (by simp [Ask.own]) h3, isl_stpM S h4⟩, h.hf.step S, h.rk.stp S, h.d1, h.d2, h.d3, h.d4, h.few, h.sk, h.rows⟩
theorem Ask.At.n_row {I : Ask} {K : PySem.W.Frag} {A : Ad} {H : Hp} {log : List Ent} (h : I.At K A H log) : I.row.length = I.n := h.rk.1

def sp_Asker_ahead (K : PySem.W.Frag) (A : Ad) : Sp := fun vs H Q _ => ∃ (I : Ask) (log : List Ent) (p q : Nat), vs = [.ref I.s, .int p, .int q] ∧ (I.At K A H log ∧ p < I.n ∧ q < I.n ∧ p ≠ q ∧ log.length + I.pre.length < 100000) ∧
  ∀ H' said, said = I.or log (max p q) (min p q) → Stp I.M H H' → I.At K A H' (log ++ [⟨max p q, min p q, said⟩]) → Q (.bl (decide (said = decide (q < p)))) H'
theorem ok_Asker_ahead {P : Program} {w : World} {K : PySem.W.Frag} {mg : Str → Option Value} {base : Heap} {A : Ad} {f : Addr} {fd : FuncData} (F : Fun K "ahead" "Asker.ahead" s_Asker_ahead f fd) (T : Txt K mg A) (M_AskedRule_before : SH.CalM P w K mg base CX0 2 A.AskedRule "before" [] (sp_AskedRule_before K A)) : FnOk P w K mg base CX0 3 f fd ["self", "p", "q"] (sp_Asker_ahead K A) := by
  refine F.ok sc_Asker_ahead (fun vs H Q E h => by obtain ⟨_, _, _, _, rfl, _⟩ := h; rfl) (fun cdv A' outer s H vs Q E hr h => ?_)
  obtain ⟨I, log, p, q, rfl, ⟨hA, hp, hq, hne, hlog⟩, k⟩ := h
  refine ⟨_, (pss_cons (ps_if (PW.pt (pw_and (pt_cmpR SH.oNotN (SH.pe_fldF T.cl_Asker T.na_Asker_most (pv 0)) pe_non (nomark _)) (pw_and1 (pt_cmpR SH.oGe (SH.pe_fldF T.cl_Asker T.na_Asker_asked (pv 0)) (SH.pe_fldF T.cl_Asker T.na_Asker_most (pv 0)) (nomark _))))) (pss_one ps_never) pss_nil)
        (pss_cons (ps_set (i := 3) sc_Asker_ahead.nd rfl (Or.inl rfl) (pe_callB (SH.cMax2 rfl) (by rfl) T.z_max (by decide +kernel) (pa_cons (pv 1) (pa_cons (pv 2) pa_nil))))
        (pss_cons (ps_set (i := 4) sc_Asker_ahead.nd rfl (Or.inl rfl) (pe_callB (SH.cMin2 rfl) (by rfl) T.z_min (by decide +kernel) (pa_cons (pv 1) (pa_cons (pv 2) pa_nil))))
        (pss_cons (ps_set (i := 5) sc_Asker_ahead.nd rfl (Or.inl rfl) (SH.pe_methF (SH.pe_fldF T.cl_Asker T.na_Asker_rule (pv 0)) M_AskedRule_before hr pass0 (pa_cons (pe_ix SH.ixA (SH.pe_fldF T.cl_Asker T.na_Asker_row (pv 0)) (pv 3) (fun _ _ => rfl)) (pa_cons (pe_ix SH.ixA (SH.pe_fldF T.cl_Asker T.na_Asker_row (pv 0)) (pv 4) (fun _ _ => rfl)) pa_nil))))
        (pss_cons (SH.ps_fldaugF T.cl_Asker T.na_Asker_asked (pv 0) pe_int SH.in_add')
        (pss_cons (ps_expr (pe_bm PySem.F.plainAttrs_list PySem.F.slot_list_append PySem.F.type_list_append mt_append (SH.pe_fldF T.cl_Asker T.na_Asker_log (pv 0)) (pa_cons (pe_tup (pa_cons (pv 3) (pa_cons (pv 4) (pa_cons (pv 5) pa_nil)))) pa_nil)))
        (pss_one (ps_ret (pe_cmpR (SH.oEq hr.units) (pv 5) (pe_cmpR (SH.oEq hr.units) (pv 1) (pv 3) (nomark _)) (nomark _)))))))))), ?_⟩
  walk_at "begin"
  have hn := hA.n_row
  obtain ⟨hs, hr, ⟨evs, hl, hev⟩, hu, ⟨tvs, ht, htv⟩, hf, rk, d1, d2, d3, d4, few, hsk, rows⟩ := hA
  have nsl : I.s ≠ I.l := ne_of hs hl (by intro z; cases z)
  have nst : I.s ≠ I.tl := ne_of hs ht (by intro z; cases z)
  have nsr : I.s ≠ I.r := ne_of hs hr (by intro z; cases z)
  have nlu : I.l ≠ I.u := ne_of hl hu (by intro z; cases z)
  have ntu : I.tl ≠ I.u := ne_of ht hu (by intro z; cases z)
  unfold AskF at hs
  walk_at "rd"
  refine r_nwF rfl ?_
  walk_at "rd"
  rw [max_v, min_v]
  have hmx : max p q < I.row.length := by omega
  have hmn : min p q < I.row.length := by omega
  obtain ⟨t1, e1, ht1⟩ := rk.2 (max p q) _ (List.getElem?_eq_getElem hmx)
  obtain ⟨t2, e2, ht2⟩ := rk.2 (min p q) _ (List.getElem?_eq_getElem hmn)
  walk_at "rd"
  refine v_ixLn (n := max p q) (SqL.of hr) rfl ((List.getElem?_eq_getElem hmx).trans (congrArg some e1)) ?_
  walk_at "rd"
  refine v_ixLn (n := min p q) (SqL.of hr) rfl ((List.getElem?_eq_getElem hmn).trans (congrArg some e2)) ?_
  walk_at "rd"
  have htl := isl_len htv
  rw [List.length_append, List.length_drop] at htl
  refine ⟨I.u, I.f, t1, t2, I.du, rfl, hu, ⟨_, _, _, hf⟩, _, _, _, hf, I.tl, t1, t2, tvs, _, _, _, _, rfl, ⟨rfl, ht, by omega, ht1, ht2⟩, fun t3 H1 S1 hT1 ht3 => ?_⟩
  have ek : decide (getE I.ks (max p q) < getE I.ks (min p q)) = I.or log (max p q) (min p q) := rfl
  rw [ek] at ht3 ⊢
  generalize hsaid : I.or log (max p q) (min p q) = said at ht3 ⊢
  have hs1 := S1.keep1 hs nst
  have hr1 := S1.keep1 hr d3.symm
  have hl1 := S1.keep1 hl d4
  have hu1 := S1.keep1 hu ntu.symm
  walk_at "rd"
  intro tp htp
  have htp0 : H1 tp = none := (upd_free htp).1
  walk_at "rd"
  have hl2 : upd (upd H1 I.s (.ins A.Asker I.dx [("row", .ref I.r), ("rule", .ref I.u), ("most", .non), ("asked", .int (log.length + 1)), ("log", .ref I.l)])) tp (.tup [.int (max p q : Nat), .int (min p q : Nat), .bl said]) I.l = some (.lst evs) := by
    rw [upd_ne (ne_of_none hl1 htp0), upd_ne nsl.symm]; exact hl1
  have hel := isl_len hev
  refine v_app hl2 (by omega) ?_
  walk_at "rd"
  have epl : decide ((p : Int) = ((max p q : Nat) : Int)) = decide (q < p) := by
    apply decide_eq_decide.mpr; omega
  rw [epl]
  have S2 : Stp I.M H1 (upd (upd (upd H1 I.s (.ins A.Asker I.dx [("row", .ref I.r), ("rule", .ref I.u), ("most", .non), ("asked", .int (log.length + 1)), ("log", .ref I.l)])) tp (.tup [.int (max p q : Nat), .int (min p q : Nat), .bl said])) I.l (.lst (evs ++ [.ref tp]))) :=
    (((Stp.refl I.M H1).putM (by simp [Ask.M]) hs1 (fun z => z)).new htp).putM (by simp [Ask.M]) hl2 (fun z => z)
  have S : Stp I.M H _ := (S1.mono (M' := I.M) (by simp [Ask.M])).trans S2
  refine k _ said hsaid.symm S ?_
  have ntl : tp ≠ I.l := (ne_of_none hl1 htp0).symm
  have nts : tp ≠ I.s := (ne_of_none hs1 htp0).symm
  have keep : ∀ {b o}, b ≠ I.l → b ≠ I.s → H1 b = some o → upd (upd (upd H1 I.s (.ins A.Asker I.dx [("row", .ref I.r), ("rule", .ref I.u), ("most", .non), ("asked", .int (log.length + 1)), ("log", .ref I.l)])) tp (.tup [.int (max p q : Nat), .int (min p q : Nat), .bl said])) I.l (.lst (evs ++ [.ref tp])) b = some o := fun {b o} h1 h2 h3 => by
    rw [upd_ne h1, upd_ne (ne_of_none h3 htp0), upd_ne h2]; exact h3
  refine ⟨?_, keep d2.symm nsr.symm hr1, ⟨evs ++ [.ref tp], upd_same, isl_app (isl_stpM S hev) (isl_cons (is_t3 (SqT.of (by rw [upd_ne ntl]; exact upd_same)) is_nat is_nat is_bl) isl_nil)⟩, keep nlu.symm d1.symm hu1,
    ⟨tvs ++ [.ref t3], keep d4.symm nst.symm hT1, ?_⟩, hf.step S, rk.stp S, d1, d2, d3, d4, by simp; omega, by rw [List.length_append]; omega, rows⟩
  · rw [upd_ne nsl, upd_ne nts.symm, upd_same]
    simp [AskF]
  · rw [List.drop_append_of_le_length hsk, ← List.append_assoc]
    exact isl_app (isl_stpM S htv) (isl_cons (is_t3 (SqT.of (S2.tup ht3)) is_nat is_nat is_bl) isl_nil)

def sp_Asker_many (K : PySem.W.Frag) (A : Ad) : Sp := fun vs H Q _ => ∃ (I : Ask) (log : List Ent), vs = [.ref I.s] ∧ I.At K A H log ∧ Q (.int I.n) H
theorem ok_Asker_many {P : Program} {w : World} {K : PySem.W.Frag} {mg : Str → Option Value} {base : Heap} {A : Ad} {f : Addr} {fd : FuncData} (F : Fun K "many" "Asker.many" s_Asker_many f fd) (T : Txt K mg A)  : FnOk P w K mg base CX0 1 f fd ["self"] (sp_Asker_many K A) := by
  refine F.ok sc_Asker_many (fun vs H Q E h => by obtain ⟨_, _, rfl, _⟩ := h; rfl) (fun cdv A' outer s H vs Q E hr h => ?_)
  obtain ⟨I, log, rfl, hA, k⟩ := h
  refine ⟨_, (pss_one (ps_ret (pe_callB SH.cLen (by rfl) T.z_len (by decide +kernel) (pa_cons (SH.pe_fldF T.cl_Asker T.na_Asker_row (pv 0)) pa_nil)))), ?_⟩
  walk_at "begin"
  have hn := hA.n_row
  obtain ⟨hs, hr, _⟩ := hA
  unfold AskF at hs
  walk_at "rd"
  rw [hn]
  exact k

def sp_Asker___init__ (K : PySem.W.Frag) (A : Ad) : Sp := fun vs H Q _ => ∃ (s b : Addr) (u : V) (row : List V), vs = [.ref s, .ref b, u, .non] ∧ (∃ dx, H s = some (.ins A.Asker dx [])) ∧ (SqL K H b row ∧ row.length ≤ 100000) ∧
  ∀ dx r l H', H r = none → H l = none → l ≠ r → s ≠ r → s ≠ l → Stp [s] H H' → H' s = some (.ins A.Asker dx (AskF r u 0 l)) → H' r = some (.lst row) → H' l = some (.lst []) → Q .non H'
theorem ok_Asker___init__ {P : Program} {w : World} {K : PySem.W.Frag} {mg : Str → Option Value} {base : Heap} {A : Ad} {f : Addr} {fd : FuncData} (F : FunD K "__init__" "Asker.__init__" (defArgs s_Asker___init__) (defBody s_Asker___init__) (defScope s_Asker___init__) [.non] [] f fd) (T : Txt K mg A)  : FnOk P w K mg base CX0 1 f fd ["self", "row", "rule", "most"] (sp_Asker___init__ K A) := by
  refine SH.funD_ok F sc_Asker___init__ (fun vs H Q E h => by obtain ⟨_, _, _, _, rfl, _⟩ := h; rfl) (fun cdv A' outer s H vs Q E hr h => ?_)
  obtain ⟨s', b, u, row, rfl, ⟨dx, hs⟩, ⟨hb, hl⟩, k⟩ := h
  refine ⟨_, (pss_cons (SH.ps_fldF T.cl_Asker T.na_Asker_row (pv 0) (pe_callTy SH.cListOf (by rfl) T.z_list (by decide +kernel) (pa_cons (pv 1) pa_nil)) rfl)
        (pss_cons (SH.ps_fldF T.cl_Asker T.na_Asker_rule (pv 0) (pv 2) rfl)
        (pss_cons (SH.ps_fldF T.cl_Asker T.na_Asker_most (pv 0) (pv 3) rfl)
        (pss_cons (SH.ps_fldF T.cl_Asker T.na_Asker_asked (pv 0) pe_int rfl)
        (pss_one (SH.ps_fldF T.cl_Asker T.na_Asker_log (pv 0) (pe_lst pa_nil) rfl)))))), ?_⟩
  walk_at "begin"
  walk_at "rd"
  intro r hr
  have nsr : s' ≠ r := ne_of_none hs hr
  walk_at "rd"
  intro l hl2
  have hl0 : H l = none := (upd_free (upd_free (upd_free (upd_free (upd_free hl2).1).1).1).1).1
  have nsl : s' ≠ l := ne_of_none hs hl0
  have nlr : l ≠ r := fun e => by subst e; simp [upd_ne nsr.symm, upd_same] at hl2
  walk_at "rd"
  refine k dx r l _ hr hl0 nlr nsr nsl ?_ upd_same ?_ ?_
  · exact ((((((Stp.refl [s'] H).new hr).putI (by simp) (upd_old hs hr)).putI (by simp) upd_same).putI (by simp) upd_same).putI (by simp) upd_same).new hl2 |>.putI (by simp) (upd_old upd_same hl2)
  · rw [upd_ne nsr.symm, upd_ne nlr.symm, upd_ne nsr.symm, upd_ne nsr.symm, upd_ne nsr.symm, upd_ne nsr.symm]; exact upd_same
  · rw [upd_ne nsl.symm]; exact upd_same
theorem Ask.At.fresh {I : Ask} {K : PySem.W.Frag} {A : Ad} {H : Hp} {log : List Ent} (h : I.At K A H log) {b : Addr} (hb : H b = none) : b ∉ I.M := by
  obtain ⟨evs, h2, _⟩ := h.hl
  obtain ⟨tvs, h3, _⟩ := h.ht
  simp only [Ask.M, List.mem_cons, List.not_mem_nil, or_false, not_or]
  exact ⟨(ne_of_none h.hs hb).symm, (ne_of_none h2 hb).symm, (ne_of_none h3 hb).symm⟩
theorem Ask.At.freshO {I : Ask} {K : PySem.W.Frag} {A : Ad} {H : Hp} {log : List Ent} (h : I.At K A H log) {b : Addr} (hb : H b = none) : b ∉ I.own := by
  obtain ⟨evs, h2, _⟩ := h.hl
  obtain ⟨tvs, h3, _⟩ := h.ht
  simp only [Ask.own, List.mem_cons, List.not_mem_nil, or_false, not_or]
  exact ⟨(ne_of_none h.hs hb).symm, (ne_of_none h2 hb).symm, (ne_of_none h3 hb).symm, (ne_of_none h.hr hb).symm, (ne_of_none h.hu hb).symm⟩

def Ask.skp (I : Ask) (k : Nat) : Ask := { I with pre := [], sk := k }
theorem Ask.At.wipe {I : Ask} {K : PySem.W.Frag} {A : Ad} {H : Hp} {log : List Ent} (h : I.At K A H log) : (I.skp log.length).At K A (upd H I.tl (.lst [])) log := by
  obtain ⟨evs, h1, h2⟩ := h.hl
  obtain ⟨tvs, h3, h4⟩ := h.ht
  have S : Stp [I.tl] H (upd H I.tl (.lst [])) := (Stp.refl _ _).putL (by simp) h3
  have nst : I.s ≠ I.tl := ne_of h.hs h3 (by intro z; cases z)
  have nut : I.u ≠ I.tl := ne_of h.hu h3 (by intro z; cases z)
  refine ⟨S.keep1 h.hs nst, S.keep1 h.hr h.d3.symm, ⟨evs, S.keep1 h1 h.d4, isl_stpM S h2⟩, S.keep1 h.hu nut, ⟨[], upd_same, ?_⟩, h.hf.step S, h.rk.stp S, h.d1, h.d2, h.d3, h.d4, by have := h.few; simp [Ask.skp]; omega, Nat.le_refl _, h.rows⟩
  show IsL K _ [] ([] ++ log.drop log.length)
  rw [List.drop_length]
  exact isl_nil
def sp_Asker_answers (K : PySem.W.Frag) (A : Ad) : Sp := fun vs H Q _ => ∃ (I : Ask) (log : List Ent), vs = [.ref I.s] ∧ I.At K A H log ∧
  ∀ q H' evs, H q = none → Stp [] H H' → H' q = some (.lst evs) → IsL K H' evs log → Q (.ref q) H'
theorem ok_Asker_answers {P : Program} {w : World} {K : PySem.W.Frag} {mg : Str → Option Value} {base : Heap} {A : Ad} {f : Addr} {fd : FuncData} (F : Fun K "answers" "Asker.answers" s_Asker_answers f fd) (T : Txt K mg A)  : FnOk P w K mg base CX0 1 f fd ["self"] (sp_Asker_answers K A) := by
  refine F.ok sc_Asker_answers (fun vs H Q E h => by obtain ⟨_, _, rfl, _⟩ := h; rfl) (fun cdv A' outer s H vs Q E hr h => ?_)
  obtain ⟨I, log, rfl, hA, k⟩ := h
  refine ⟨_, (pss_one (ps_ret (pe_callTy SH.cListOf (by rfl) T.z_list (by decide +kernel) (pa_cons (SH.pe_fldF T.cl_Asker T.na_Asker_log (pv 0)) pa_nil)))), ?_⟩
  walk_at "begin"
  obtain ⟨hs, hr, ⟨evs, hl, hev⟩, _⟩ := hA
  unfold AskF at hs
  walk_at "rd"
  intro q hq
  have S := (Stp.refl [] H).new (o := .lst evs) hq
  exact k q _ evs hq S upd_same (isl_stp S hev)
theorem r_J {t : TS} {D : Ends} {σ : L2.St} {H : Hp} (P : L2.St → Hp → Prop) (hk : ∀ σ' H', P σ' H' → D.nx σ' H') (h : ∀ N : L2.St → Hp → Prop, (∀ σ' H', P σ' H' → N σ' H') → t { D with nx := N } σ H) : t D σ H := h D.nx hk
theorem nv_ints (ps : List Nat) : nv ps = (ps.map fun n : Nat => (n : Int)).map V.int := by unfold nv; rw [List.map_map]; rfl
theorem sorted_nats {ord : List Nat} {ns : List Int} (h : ns.Perm (ord.map fun n : Nat => (n : Int))) (hs : ns.Pairwise (· ≤ ·)) : ∃ l : List Nat, ns = l.map (fun n : Nat => (n : Int)) ∧ l.Perm ord ∧ l.Pairwise (· ≤ ·) := by
  have hall : ∀ x ∈ ns, ∃ n : Nat, x = n := fun x hx => by
    obtain ⟨n, _, e⟩ := List.mem_map.mp (h.mem_iff.mp hx)
    exact ⟨n, e.symm⟩
  have e : ns = (ns.map Int.toNat).map fun n : Nat => (n : Int) := by
    rw [List.map_map]
    refine (List.map_id ns).symm.trans (List.map_congr_left fun x hx => ?_)
    obtain ⟨n, rfl⟩ := hall x hx
    simp
  refine ⟨ns.map Int.toNat, e, ?_, ?_⟩
  · have := h.map Int.toNat
    rw [List.map_map] at this
    have e2 : ord.map (Int.toNat ∘ fun n : Nat => (n : Int)) = ord := by
      refine (List.map_congr_left fun x _ => ?_).trans (List.map_id ord)
      simp
    rwa [e2] at this
  · rw [e, List.pairwise_map] at hs
    exact hs.imp fun h => by omega
def sp__law_cell_at (K : PySem.W.Frag) (A : Ad) : Sp := fun vs H Q _ => ∃ (a : Addr) (ns : List Int) (k : Nat), vs = [.ref a, .int k] ∧ SqL K H a (ns.map V.int) ∧ ∀ c : Int, Q (.int c) H
theorem ok__law_cell_at {P : Program} {w : World} {K : PySem.W.Frag} {mg : Str → Option Value} {base : Heap} {A : Ad} {f : Addr} {fd : FuncData} (F : Fun K "_law_cell_at" "_law_cell_at" s__law_cell_at f fd) (T : Txt K mg A)  : FnOk P w K mg base CX0 1 f fd ["_law_script", "_law_k"] (sp__law_cell_at K A) := by
  refine F.ok sc__law_cell_at (fun vs H Q E h => by obtain ⟨_, _, _, rfl, _⟩ := h; rfl) (fun cdv A' outer s H vs Q E hr h => ?_)
  obtain ⟨a, ns, i, rfl, hS, k⟩ := h
  refine ⟨_, (pss_cons (ps_if (pt_cmpR (SH.oLt hr.units0) (pv 1) (pe_callB SH.cLen (by rfl) T.z_len (by decide +kernel) (pa_cons (pv 0) pa_nil)) (nomark _)) (pss_one (ps_ret (pe_ix SH.ixA (pv 0) (pv 1) (fun _ _ => rfl)))) pss_nil)
        (pss_one (ps_ret pe_int))), ?_⟩
  walk_at "begin"
  walk_at "rd"
  refine r_w (fun hc => ?_) fun hc => ?_
  · walk_at "rd"
    refine v_ixE (n := i) (by walk_at "sq") rfl (by omega) ?_
    walk_at "rd"
    exact k _
  · walk_at "rd"
    exact k _
/-! ### keys: any ints, not too many -/
def sp__law_stream (K : PySem.W.Frag) (A : Ad) : Sp := fun vs H Q _ => ∃ (c : Int) (n : Nat), vs = [.int c, .int n] ∧ n ≤ 1000 ∧
  ∀ (q : Addr) (H' : Hp) (ms : List Int), H q = none → Stp [] H H' → H' q = some (.lst (ms.map V.int)) → ms.length = n → (∀ m ∈ ms, 0 ≤ m) → Q (.ref q) H'
theorem ok__law_stream {P : Program} {w : World} {K : PySem.W.Frag} {mg : Str → Option Value} {base : Heap} {A : Ad} {f : Addr} {fd : FuncData} (F : Fun K "_law_stream" "_law_stream" s__law_stream f fd) (T : Txt K mg A)  : FnOk P w K mg base CX0 1 f fd ["_law_cell", "_law_many"] (sp__law_stream K A) := by
  refine F.ok sc__law_stream (fun vs H Q E h => by obtain ⟨_, _, rfl, _⟩ := h; rfl) (fun cdv A' outer s H vs Q E hr h => ?_)
  obtain ⟨c, n, rfl, hn, k⟩ := h
  refine ⟨_, (pss_cons (ps_set (i := 2) sc__law_stream.nd rfl (Or.inl rfl) (pe_lst pa_nil))
        (pss_cons (ps_set (i := 3) sc__law_stream.nd rfl (Or.inl rfl) (pe_op SH.oMod (pv 0) pe_int))
        (pss_cons (ps_for PassesOwn.never rfl (pi_range1 (by rfl) T.z_range (pa_cons (pv 1) pa_nil)) (pg_name (i := 4) sc__law_stream.nd rfl (Or.inl rfl)) (pss_cons (ps_set (i := 3) sc__law_stream.nd rfl (Or.inl rfl) (pe_op SH.oMod (pe_op SH.oAdd (pe_op SH.oAdd (pe_op SH.oAdd (pe_op SH.oMul (pv 3) (pv 3)) (pe_op SH.oMul pe_int (pv 3))) (pe_op SH.oMul pe_int (pv 4))) pe_int) pe_int))
        (pss_one (ps_expr (pe_bm PySem.F.plainAttrs_list PySem.F.slot_list_append PySem.F.type_list_append mt_append (pv 2) (pa_cons (pv 3) pa_nil))))))
        (pss_one (ps_ret (pv 2)))))), ?_⟩
  walk_at "begin"
  walk_at "rd"
  intro q hq
  walk_at "rd"
  refine for_it walk_range (fun j σ H' => (∃ ms : List Int, ms.length = j ∧ (∀ m ∈ ms, 0 ≤ m) ∧ H' = upd H q (.lst (ms.map V.int))) ∧ ∃ (x : Int) (v4 : Option V), (0 ≤ x ∧ x < 4294967296) ∧ σ = [some (.int c), some (.int n), some (.ref q), some (.int x), v4]) ⟨⟨[], rfl, by simp, rfl⟩, _, _, ⟨by omega, by omega⟩, rfl⟩ (fun _ _ _ _ _ => True.intro) ?_ ?_
  · rintro j x σ H2 H3 hj ⟨⟨ms, hl', h00, rfl⟩, x', v4, ⟨h0, h1⟩, rfl⟩ ⟨rfl, rfl⟩
    walk_at "rd"
    refine v_app (xs := ms.map V.int) upd_same (by rw [List.length_map]; omega) ?_
    walk_at "rd"
    refine ⟨⟨ms ++ [_], by simp [hl'], ?_, by rw [upd_upd, List.map_append]; rfl⟩, _, _, ⟨by omega, by omega⟩, rfl⟩
    intro m hm
    rcases List.mem_append.mp hm with hm | hm
    · exact h00 m hm
    · rw [List.mem_singleton] at hm; omega
  · rintro σ H2 ⟨⟨ms, hl', h00, rfl⟩, x', v4, _, rfl⟩
    walk_at "rd"
    exact k q _ ms hq ((Stp.refl _ _).new hq) upd_same (by omega) h00

def sp__law_digits (K : PySem.W.Frag) (A : Ad) : Sp := fun vs H Q _ => ∃ (a : Addr) (ns : List Int) (k : Nat) (b : Int), vs = [.ref a, .int k, .int b] ∧ (SqL K H a (ns.map V.int) ∧ 0 < b ∧ b < 1073741824) ∧
  ∀ (q : Addr) (H' : Hp) (ms : List Int), H q = none → Stp [] H H' → H' q = some (.lst (ms.map V.int)) → ms.length = 120 → (∀ m ∈ ms, 0 ≤ m ∧ m < b) → Q (.ref q) H'
theorem ok__law_digits {P : Program} {w : World} {K : PySem.W.Frag} {mg : Str → Option Value} {base : Heap} {A : Ad} {f : Addr} {fd : FuncData} (F : Fun K "_law_digits" "_law_digits" s__law_digits f fd) (T : Txt K mg A) (C__law_cell_at : SH.Cal P w K mg base CX0 1 "_law_cell_at" [] (sp__law_cell_at K A)) (C__law_stream : SH.Cal P w K mg base CX0 1 "_law_stream" [] (sp__law_stream K A)) : FnOk P w K mg base CX0 2 f fd ["_law_script", "_law_k", "_law_base"] (sp__law_digits K A) := by
  refine F.ok sc__law_digits (fun vs H Q E h => by obtain ⟨_, _, _, _, rfl, _⟩ := h; rfl) (fun cdv A' outer s H vs Q E hr h => ?_)
  obtain ⟨a, ns, k0, b, rfl, ⟨hS, hb, hb2⟩, k⟩ := h
  refine ⟨_, (pss_cons (ps_set (i := 3) sc__law_digits.nd rfl (Or.inl rfl) (SH.pe_callF C__law_stream hr (by rfl) pass0 (pa_cons (pe_op SH.oAdd (pe_callB (cr_sum rfl) (by rfl) T.z_sum (by decide +kernel) (pa_cons (pv 0) pa_nil)) (pv 1)) (pa_cons pe_int pa_nil))))
        (pss_cons (ps_set (i := 4) sc__law_digits.nd rfl (Or.inl rfl) (pe_lst pa_nil))
        (pss_cons (ps_for PassesOwn.never rfl (pi_list (pe_lst (pa_cons (SH.pe_callF C__law_cell_at hr (by rfl) pass0 (pa_cons (pv 0) (pa_cons (pv 1) pa_nil))) (pa_cons (SH.pe_callF C__law_cell_at hr (by rfl) pass0 (pa_cons (pv 0) (pa_cons (pe_op SH.oAdd (pv 1) pe_int) pa_nil))) pa_nil)))) (pg_name (i := 5) sc__law_digits.nd rfl (Or.inl rfl)) (pss_one (ps_for PassesOwn.never rfl (pi_range1 (by rfl) T.z_range (pa_cons pe_int pa_nil)) (pg_name (i := 6) sc__law_digits.nd rfl (Or.inl rfl)) (pss_cons (ps_if (pt_cmpR (SH.oLt hr.units0) (pv 5) pe_int (nomark _)) (pss_one (ps_set (i := 5) sc__law_digits.nd rfl (Or.inl rfl) (pe_ix SH.ixA (pv 3) (pe_callB SH.cLen (by rfl) T.z_len (by decide +kernel) (pa_cons (pv 4) pa_nil)) (fun _ _ => rfl)))) pss_nil)
        (pss_cons (ps_expr (pe_bm PySem.F.plainAttrs_list PySem.F.slot_list_append PySem.F.type_list_append mt_append (pv 4) (pa_cons (pe_op SH.oMod (pv 5) (pv 2)) pa_nil)))
        (pss_one (ps_set (i := 5) sc__law_digits.nd rfl (Or.inl rfl) (pe_op SH.oDiv (pv 5) (pv 2)))))))))
        (pss_one (ps_ret (pv 4)))))), ?_⟩
  walk_at "begin"
  walk_at "rd"
  refine v_sum hS ?_
  walk_at "rd"
  refine ⟨_, 120, rfl, by omega, fun st H1 ms hst S1 hSt hml hm0 => ?_⟩
  walk_at "rd"
  intro D hD
  have hD0 : H D = none := S1.dom _ hD
  walk_at "rd"
  refine ⟨a, ns, k0, rfl, by walk_at "sq", fun c1 => ?_⟩
  walk_at "rd"
  refine ⟨a, ns, k0 + 1, rfl, by walk_at "sq", fun c2 => ?_⟩
  walk_at "rd"
  intro l hl
  walk_at "rd"
  have hlD : l ≠ D := by rintro rfl; rw [upd_same] at hl; cases hl
  have hst2 : SqL K (upd (upd H1 D (.lst [])) l (.lst [.int c1, .int c2])) st (ms.map V.int) := sql_upd (sql_upd (SqL.of hSt) hD) hl
  have hstD : st ≠ D := by rintro rfl; rw [hSt] at hD; cases hD
  refine for_it (walk_list (xs := [.int c1, .int c2])) (fun j σ H' => Stp [] H H' ∧ SqL K H' l [.int c1, .int c2] ∧ SqL K H' st (ms.map V.int) ∧ (∃ fs : List Int, fs.length = 60 * j ∧ (∀ m ∈ fs, 0 ≤ m ∧ m < b) ∧ H' D = some (.lst (fs.map V.int))) ∧ ∃ v5 v6, σ = [some (.ref a), some (.int k0), some (.int b), some (.ref st), some (.ref D), v5, v6])
    ⟨(S1.new hD).new hl, SqL.of upd_same, hst2, ⟨[], rfl, by simp, upd_old upd_same hl⟩, _, _, rfl⟩ (fun _ _ _ _ z => z.2.1) ?_ ?_
  · rintro j x σ H2 H3 hj ⟨S, hl2, hst2, ⟨fs, hfl, hfb, hL⟩, v5, v6, rfl⟩ ⟨rfl, hx⟩
    have hj2 : j < 2 := hj
    have hxi : ∃ c, x = .int c := by
      rcases j with _ | _ | j
      · cases hx; exact ⟨_, rfl⟩
      · cases hx; exact ⟨_, rfl⟩
      · omega
    obtain ⟨c, rfl⟩ := hxi
    walk_at "rd"
    refine for_it walk_range (fun i σ H' => Stp [] H H' ∧ SqL K H' l [.int c1, .int c2] ∧ SqL K H' st (ms.map V.int) ∧ (∃ fs : List Int, fs.length = 60 * j + i ∧ (∀ m ∈ fs, 0 ≤ m ∧ m < b) ∧ H' D = some (.lst (fs.map V.int))) ∧ ∃ (c : Int) (v6 : Option V), σ = [some (.ref a), some (.int k0), some (.int b), some (.ref st), some (.ref D), some (.int c), v6])
      ⟨S, hl2, hst2, ⟨fs, by omega, hfb, hL⟩, _, _, rfl⟩ (fun _ _ _ _ _ => True.intro) ?_ ?_
    · rintro i x σ H4 H5 hi ⟨S, hl2, hst2, ⟨fs, hfl, hfb, hL⟩, c, v6, rfl⟩ ⟨rfl, rfl⟩
      walk_at "rd"
      refine r_wJ (W := fun σ H' => H' = H5 ∧ ∃ c : Int, σ = [some (.ref a), some (.int k0), some (.int b), some (.ref st), some (.ref D), some (.int c), some (.int (0 + (i : Nat)))]) ?_ (fun hc N hN => ?_) (fun hc N hN => ?_)
      · rintro σ H6 ⟨rfl, c, rfl⟩
        dsimp only
        walk_at "rd"
        refine v_app hL (by rw [List.length_map]; omega) ?_
        walk_at "rd"
        have m0 := Int.emod_nonneg c (show b ≠ 0 by omega)
        have m1 := Int.emod_lt_of_pos c hb
        refine ⟨S.putN hD0, sql_far hl2 hlD, sql_far hst2 hstD, ⟨fs ++ [c % b], by simp [hfl]; omega, fun m hm => ?_, by rw [upd_same, List.map_append]; rfl⟩, _, _, rfl⟩
        rcases List.mem_append.mp hm with hm | hm
        · exact hfb m hm
        · rw [List.mem_singleton] at hm; subst hm; exact ⟨m0, m1⟩
      · walk_at "rd"
        refine v_ixE (n := fs.length) hst2 rfl (by omega) ?_
        walk_at "rd"
        exact hN _ _ ⟨rfl, _, rfl⟩
      · walk_at "rd"
        exact hN _ _ ⟨rfl, _, rfl⟩
    · rintro σ H4 ⟨S, hl2, hst2, ⟨fs, hfl, hfb, hL⟩, c, v6, rfl⟩
      walk_at "rd"
      exact ⟨S, hl2, hst2, ⟨fs, by rw [hfl]; show 60 * j + 60 = _; omega, hfb, hL⟩, _, _, rfl⟩
  · rintro σ H2 ⟨S, hl2, hst2, ⟨fs, hfl, hfb, hL⟩, v5, v6, rfl⟩
    walk_at "rd"
    exact k D _ fs hD0 S hL hfl hfb

def sp__law_blocks (K : PySem.W.Frag) (A : Ad) : Sp := fun vs H Q _ => ∃ (a : Addr) (ns : List Int) (c : Int), vs = [.ref a, .int c] ∧ (SqL K H a (ns.map V.int) ∧ ns.length ≤ 200) ∧
  ∀ (q : Addr) (H' : Hp) (ms : List Int), H q = none → Stp [] H H' → H' q = some (.lst (ms.map V.int)) → ms.length ≤ ns.length → Q (.ref q) H'
theorem ok__law_blocks {P : Program} {w : World} {K : PySem.W.Frag} {mg : Str → Option Value} {base : Heap} {A : Ad} {f : Addr} {fd : FuncData} (F : Fun K "_law_blocks" "_law_blocks" s__law_blocks f fd) (T : Txt K mg A) (C__law_stream : SH.Cal P w K mg base CX0 1 "_law_stream" [] (sp__law_stream K A)) : FnOk P w K mg base CX0 2 f fd ["_law_keys_here", "_law_cell"] (sp__law_blocks K A) := by
  refine F.ok sc__law_blocks (fun vs H Q E h => by obtain ⟨_, _, _, rfl, _⟩ := h; rfl) (fun cdv A' outer s H vs Q E hr h => ?_)
  obtain ⟨a, ns, c, rfl, ⟨hS, hl⟩, k⟩ := h
  refine ⟨_, (pss_cons (ps_set (i := 2) sc__law_blocks.nd rfl (Or.inl rfl) (pe_lst pa_nil))
        (pss_cons (ps_for PassesOwn.never rfl (pi_list (SH.pe_callF C__law_stream hr (by rfl) pass0 (pa_cons (pv 1) (pa_cons (pe_callB SH.cLen (by rfl) T.z_len (by decide +kernel) (pa_cons (pv 0) pa_nil)) pa_nil)))) (pg_name (i := 3) sc__law_blocks.nd rfl (Or.inl rfl)) (pss_cons (ps_set (i := 4) sc__law_blocks.nd rfl (Or.inl rfl) (pe_callB cr_sortedI (by rfl) T.z_sorted (by decide +kernel) (pa_cons (pe_slice sl_list (pv 0) (po_some (pe_callB SH.cLen (by rfl) T.z_len (by decide +kernel) (pa_cons (pv 2) pa_nil))) (po_some (pe_op SH.oAdd (pe_op SH.oAdd (pe_callB SH.cLen (by rfl) T.z_len (by decide +kernel) (pa_cons (pv 2) pa_nil)) pe_int) (pe_op SH.oMod (pv 3) pe_int)))) pa_nil)))
        (pss_cons (ps_if (pt_cmpR (SH.oEq hr.units) (pe_op SH.oMod (pe_op SH.oDiv (pv 3) pe_int) pe_int) pe_int (nomark _)) (pss_one (ps_expr (pe_bm0 PySem.F.plainAttrs_list PySem.F.slot_list_reverse PySem.F.type_list_reverse mt_reverse (pv 4)))) pss_nil)
        (pss_one (ps_set (i := 2) sc__law_blocks.nd rfl (Or.inl rfl) (pe_op SH.oAdd (pv 2) (pv 4)))))))
        (pss_one (ps_ret (pv 2))))), ?_⟩
  walk_at "begin"
  walk_at "rd"
  intro r hr
  walk_at "rd"
  refine ⟨c, ns.length, rfl, by omega, fun st H1 ms hst S1 hSt hml hm0 => ?_⟩
  walk_at "rd"
  refine for_it (walk_list (xs := ms.map V.int)) (fun j σ H' => Stp [] H H' ∧ SqL K H' st (ms.map V.int) ∧ ∃ (r : Addr) (ks : List Int) (v3 v4 : Option V), H r = none ∧ H' r = some (.lst (ks.map V.int)) ∧ ks.length ≤ ns.length ∧ σ = [some (.ref a), some (.int c), some (.ref r), v3, v4])
    ⟨((Stp.refl _ _).new hr).then0 S1, SqL.of hSt, r, [], _, _, hr, S1.keep0 upd_same, Nat.zero_le _, rfl⟩ (fun _ _ _ _ z => z.2.1) ?_ ?_
  · rintro j x σ H2 H3 hj ⟨S, hq, r, ks, v3, v4, hr0, hR, hkl, rfl⟩ ⟨rfl, hx⟩
    obtain ⟨n, hn, rfl⟩ := map_at hx
    have hS3 := S.sql0 hS
    walk_at "rd"
    intro sl hsl
    rw [cut_map]
    have hcl : (cutL ns (some (ks.length : Int)) (some ((ks.length : Int) + 1 + n % 9))).length ≤ ns.length - ks.length := cutL_from_len _ _ _
    generalize cutL ns (some (ks.length : Int)) (some ((ks.length : Int) + 1 + n % 9)) = cs at hcl ⊢
    walk_at "rd"
    refine v_sortI (SqL.of upd_same) fun ps pt hpp _ hpt => ?_
    have hpl := hpp.length_eq
    walk_at "rd"
    refine r_wJ (W := fun σ H' => Stp [] H3 H' ∧ ∃ ps' : List Int, ps'.length = cs.length ∧ H' pt = some (.lst (ps'.map V.int)) ∧ σ = [some (.ref a), some (.int c), some (.ref r), some (.int n), some (.ref pt)]) ?_ (fun hc N hN => ?_) (fun hc N hN => ?_)
    · rintro σ H4 ⟨S4, ps', hpl', hP, rfl⟩
      dsimp only
      have hR4 := S4.keep0 hR
      walk_at "rd"
      refine v_addL hR4 hP (Nat.le_trans (m := 1000) (by rw [List.length_map, List.length_map]; omega) (by decide)) fun nr hnr => ?_
      walk_at "rd"
      exact ⟨(S.trans S4).new hnr, sql_upd (S4.sql0 hq) hnr, nr, ks ++ ps', _, _, (S.trans S4).dom _ hnr, by rw [upd_same, List.map_append], by rw [List.length_append]; omega, rfl⟩
    · walk_at "rd"
      refine v_rev upd_same ?_
      walk_at "rd"
      exact hN _ _ ⟨(((Stp.refl [] H3).new hsl).new hpt).putN (upd_free hpt).1, ps.reverse, by rw [List.length_reverse]; exact hpl, by rw [upd_same, List.map_reverse], rfl⟩
    · walk_at "rd"
      exact hN _ _ ⟨((Stp.refl [] H3).new hsl).new hpt, ps, hpl, upd_same, rfl⟩
  · rintro σ H2 ⟨S, hq, r, ks, v3, v4, hr0, hR, hkl, rfl⟩
    walk_at "rd"
    exact k r _ ks hr0 S hR hkl

def sp__law_nearly (K : PySem.W.Frag) (A : Ad) : Sp := fun vs H Q _ => ∃ (a : Addr) (ns : List Int) (c : Int), vs = [.ref a, .int c] ∧ (SqL K H a (ns.map V.int) ∧ ns.length ≤ 200) ∧
  ∀ (q : Addr) (H' : Hp) (ms : List Int), H q = none → Stp [] H H' → H' q = some (.lst (ms.map V.int)) → ms.length ≤ ns.length → Q (.ref q) H'
theorem ok__law_nearly {P : Program} {w : World} {K : PySem.W.Frag} {mg : Str → Option Value} {base : Heap} {A : Ad} {f : Addr} {fd : FuncData} (F : Fun K "_law_nearly" "_law_nearly" s__law_nearly f fd) (T : Txt K mg A) (C__law_stream : SH.Cal P w K mg base CX0 1 "_law_stream" [] (sp__law_stream K A)) : FnOk P w K mg base CX0 2 f fd ["_law_keys_here", "_law_cell"] (sp__law_nearly K A) := by
  refine F.ok sc__law_nearly (fun vs H Q E h => by obtain ⟨_, _, _, rfl, _⟩ := h; rfl) (fun cdv A' outer s H vs Q E hr h => ?_)
  obtain ⟨a, ns, c, rfl, ⟨hS, hl⟩, k⟩ := h
  refine ⟨_, (pss_cons (ps_set (i := 2) sc__law_nearly.nd rfl (Or.inl rfl) (pe_callB cr_sortedI (by rfl) T.z_sorted (by decide +kernel) (pa_cons (pv 0) pa_nil)))
        (pss_cons (ps_for PassesOwn.never rfl (pi_list (SH.pe_callF C__law_stream hr (by rfl) pass0 (pa_cons (pv 1) (pa_cons (pe_op SH.oMod (pv 1) pe_int) pa_nil)))) (pg_name (i := 3) sc__law_nearly.nd rfl (Or.inl rfl)) (pss_one (ps_if (pt_cmpR (SH.oNe hr.units) (pv 2) (pe_lst pa_nil) (nomark _)) (pss_cons (ps_set (i := 4) sc__law_nearly.nd rfl (Or.inl rfl) (pe_op SH.oMod (pv 3) (pe_callB SH.cLen (by rfl) T.z_len (by decide +kernel) (pa_cons (pv 2) pa_nil))))
        (pss_cons (ps_set (i := 5) sc__law_nearly.nd rfl (Or.inl rfl) (pe_bm PySem.F.plainAttrs_list PySem.F.slot_list_pop PySem.F.type_list_pop mt_popAt (pv 2) (pa_cons (pv 4) pa_nil)))
        (pss_one (ps_expr (pe_bm PySem.F.plainAttrs_list PySem.F.slot_list_insert PySem.F.type_list_insert SH.mIns (pv 2) (pa_cons (pe_callB (SH.cMax2 rfl) (by rfl) T.z_max (by decide +kernel) (pa_cons pe_int (pa_cons (pe_op SH.oSub (pe_op SH.oSub (pv 4) pe_int) (pe_op SH.oMod (pe_op SH.oDiv (pv 3) pe_int) pe_int)) pa_nil))) (pa_cons (pv 5) pa_nil))))))) pss_nil)))
        (pss_one (ps_ret (pv 2))))), ?_⟩
  walk_at "begin"
  walk_at "rd"
  refine v_sortI (by walk_at "sq") fun ps r hpp _ hr => ?_
  have hpl := hpp.length_eq
  walk_at "rd"
  obtain ⟨m, hmm⟩ : ∃ m : Nat, c % 6 = m := ⟨(c % 6).toNat, by omega⟩
  rw [hmm]
  refine ⟨c, m, rfl, by omega, fun st H1 ms hst S1 hSt hml hm0 => ?_⟩
  walk_at "rd"
  have hsr : st ≠ r := fun e => by subst e; rw [upd_same] at hst; cases hst
  refine for_it (walk_list (xs := ms.map V.int)) (fun j σ H' => Stp [] H H' ∧ SqL K H' st (ms.map V.int) ∧ ∃ (ks : List Int) (v3 v4 v5 : Option V), H' r = some (.lst (ks.map V.int)) ∧ ks.length ≤ ns.length ∧ σ = [some (.ref a), some (.int c), some (.ref r), v3, v4, v5])
    ⟨((Stp.refl _ _).new hr).then0 S1, SqL.of hSt, ps, _, _, _, S1.keep0 upd_same, by omega, rfl⟩ (fun _ _ _ _ z => z.2.1) ?_ ?_
  · rintro j x σ H2 H3 hj ⟨S, hq, ks, v3, v4, v5, hR, hkl, rfl⟩ ⟨rfl, hx⟩
    obtain ⟨n, hn, rfl⟩ := map_at hx
    have hn0 := hm0 n (List.mem_of_getElem? hn)
    walk_at "rd"
    intro z hz
    walk_at "rd"
    refine v_neE (x := ks) (y := []) (is_lst (by walk_at "sq") isl_ints) (is_lst (SqL.of upd_same) isl_nil) ?_
    walk_at "rd"
    have hR' : upd H3 z (.lst []) r = some (.lst (ks.map V.int)) := by walk_at "lk"
    refine r_nw (fun hne => ?_) fun he => ?_
    · have hlen : 0 < ks.length := List.length_pos_iff.mpr hne
      walk_at "rd"
      have m0 := Int.emod_nonneg n (show (ks.length : Int) ≠ 0 by omega)
      have m1 := Int.emod_lt_of_pos n (show (0 : Int) < (ks.length : Int) by omega)
      refine v_popAt (n := (n % (ks.length : Int)).toNat) (v := .int (getE ks (n % (ks.length : Int)).toNat)) hR' (by omega) (by omega) (getE_at (by omega)) ?_
      walk_at "rd"
      have hl2 : (ks.eraseIdx (n % (ks.length : Int)).toNat).length = ks.length - 1 := List.length_eraseIdx_of_lt (by omega)
      generalize hmx : (if n % (ks.length : Int) - 1 - n / 997 % 4 > 0 then n % (ks.length : Int) - 1 - n / 997 % 4 else 0) = mx
      have mx0 : 0 ≤ mx ∧ mx < 1000 := by
        rw [← hmx]
        split <;> omega
      refine w_insI upd_same mx0.1 (by omega) (by rw [List.length_eraseIdx_of_lt (by rw [List.length_map]; omega), List.length_map]; omega) ?_
      walk_at "rd"
      refine ⟨((S.new hz).putN hr).putN hr, sql_far (sql_far (sql_upd hq hz) hsr) hsr, (ks.eraseIdx (n % (ks.length : Int)).toNat).take mx.toNat ++ [getE ks (n % (ks.length : Int)).toNat] ++ (ks.eraseIdx (n % (ks.length : Int)).toNat).drop mx.toNat, _, _, _, ?_, ?_, rfl⟩
      · rw [upd_same]
        simp only [List.map_append, List.map_take, List.map_drop, List.eraseIdx_eq_take_drop_succ, List.map_cons, List.map_nil]
      · simp only [List.length_append, List.length_take, List.length_drop, List.length_singleton]; omega
    · walk_at "rd"
      exact ⟨S.new hz, sql_upd hq hz, ks, _, _, _, hR', hkl, rfl⟩
  · rintro σ H2 ⟨S, hq, ks, v3, v4, v5, hR, hkl, rfl⟩
    walk_at "rd"
    exact k r _ ks hr S hR hkl

def sp__law_keys (K : PySem.W.Frag) (A : Ad) : Sp := fun vs H Q _ => ∃ (a : Addr) (ns : List Int) (most : Nat), vs = [.ref a, .int most] ∧ (SqL K H a (ns.map V.int) ∧ ns.length ≤ 63 ∧ 0 < most ∧ most ≤ 100) ∧
  ∀ (q : Addr) (H' : Hp) (ms : List Int), H q = none → Stp [] H H' → H' q = some (.lst (ms.map V.int)) → ms.length < 2 * most → Q (.ref q) H'
theorem ok__law_keys {P : Program} {w : World} {K : PySem.W.Frag} {mg : Str → Option Value} {base : Heap} {A : Ad} {f : Addr} {fd : FuncData} (F : Fun K "_law_keys" "_law_keys" s__law_keys f fd) (T : Txt K mg A) (C__law_blocks : SH.Cal P w K mg base CX0 2 "_law_blocks" [] (sp__law_blocks K A)) (C__law_cell_at : SH.Cal P w K mg base CX0 1 "_law_cell_at" [] (sp__law_cell_at K A)) (C__law_digits : SH.Cal P w K mg base CX0 2 "_law_digits" [] (sp__law_digits K A)) (C__law_nearly : SH.Cal P w K mg base CX0 2 "_law_nearly" [] (sp__law_nearly K A)) (C__law_stream : SH.Cal P w K mg base CX0 1 "_law_stream" [] (sp__law_stream K A)) : FnOk P w K mg base CX0 3 f fd ["_law_script", "_law_most"] (sp__law_keys K A) := by
  refine F.ok sc__law_keys (fun vs H Q E h => by obtain ⟨_, _, _, rfl, _⟩ := h; rfl) (fun cdv A' outer s H vs Q E hr h => ?_)
  obtain ⟨a, ns, most, rfl, ⟨hS, hl, hm0, hm1⟩, k⟩ := h
  refine ⟨_, (pss_cons (ps_set (i := 2) sc__law_keys.nd rfl (Or.inl rfl) (SH.pe_callF C__law_cell_at hr (by rfl) pass0 (pa_cons (pv 0) (pa_cons pe_int pa_nil))))
        (pss_cons (ps_set (i := 3) sc__law_keys.nd rfl (Or.inl rfl) (SH.pe_callF C__law_cell_at hr (by rfl) pass0 (pa_cons (pv 0) (pa_cons pe_int pa_nil))))
        (pss_cons (ps_if (pt_cmpR (SH.oEq hr.units) (pe_op SH.oMod (pe_op SH.oDiv (pv 2) pe_int) pe_int) pe_int (nomark _)) (pss_one (ps_ret (pe_slice sl_list (SH.pe_callF C__law_digits hr (by rfl) pass0 (pa_cons (pv 0) (pa_cons pe_int (pa_cons pe_int pa_nil)))) po_none (po_some (pe_op SH.oMod (pe_op SH.oDiv (pv 2) pe_int) (pe_op SH.oMul pe_int (pv 1))))))) pss_nil)
        (pss_cons (ps_set (i := 4) sc__law_keys.nd rfl (Or.inr rfl) (pe_ix SH.ixA (pe_lst (pa_cons pe_int (pa_cons pe_int (pa_cons pe_int (pa_cons (pe_op SH.oPow pe_int pe_int) pa_nil))))) (pe_op SH.oMod (pv 2) pe_int) (fun _ _ => rfl)))
        (pss_cons (ps_setLc (i := 5) (own := [("_law_cell", 7)]) (g := (gName 7)) (tt := tYes) (by rfl) sc__law_keys.nd rfl rfl (sw_true rfl rfl rfl (by decide +kernel)) (pi_list (pe_slice sl_list (pv 0) (po_some pe_int) (po_some (pe_op SH.oAdd pe_int (pv 1))))) (blkOk_by (own := [("_law_cell", 7)]) (N := ["_law_script", "_law_most", "_law_mode", "_law_mix", "_law_width", "_law_keys_here", "_law_way", "_law_cell", "_law_number"]) (sc := defScope s__law_keys) (by decide +kernel)) (fun _ _ _ _ _ => (pg_name (i := 7) sc__law_keys.nd rfl (Or.inl rfl))) (fun _ _ _ _ _ => pts_nil) (fun _ _ _ _ _ => (pe_op SH.oSub (pe_op SH.oMod (pv 7) (pv 4)) (pe_op SH.oDiv (pv 4) pe_int))))
        (pss_cons (ps_set (i := 6) sc__law_keys.nd rfl (Or.inl rfl) (pe_op SH.oMod (pe_op SH.oDiv (pv 2) pe_int) pe_int))
        (pss_cons (ps_if (PW.pt (pw_or (pt_cmpR (SH.oEq hr.units) (pv 6) pe_int (nomark _)) (pw_or1 (pt_cmpR (SH.oEq hr.units) (pv 6) pe_int (nomark _))))) (pss_one (ps_ret (SH.pe_callF C__law_blocks hr (by rfl) pass0 (pa_cons (pv 5) (pa_cons (pv 3) pa_nil))))) pss_nil)
        (pss_cons (ps_if (pt_cmpR (SH.oEq hr.units) (pv 6) pe_int (nomark _)) (pss_one (ps_ret (pe_callB cr_sortedI (by rfl) T.z_sorted (by decide +kernel) (pa_cons (pv 5) pa_nil)))) pss_nil)
        (pss_cons (ps_if (pt_cmpR (SH.oEq hr.units) (pv 6) pe_int (nomark _)) (pss_one (ps_ret (SH.pe_lstRev (by rfl) T.z_list (by rfl) T.z_reversed (pe_callB cr_sortedI (by rfl) T.z_sorted (by decide +kernel) (pa_cons (pv 5) pa_nil))))) pss_nil)
        (pss_cons (ps_if (pt_cmpR (SH.oEq hr.units) (pv 6) pe_int (nomark _)) (pss_one (ps_ret (pe_lc (own := [("_law_number", 8)]) (g := (gName 8)) (tt := tYes) (by rfl) sc__law_keys.nd (pi_list (SH.pe_callF C__law_stream hr (by rfl) pass0 (pa_cons (pv 3) (pa_cons (pe_op SH.oMod (pv 3) (pe_op SH.oMul pe_int (pv 1))) pa_nil)))) (blkOk_by (own := [("_law_number", 8)]) (N := ["_law_script", "_law_most", "_law_mode", "_law_mix", "_law_width", "_law_keys_here", "_law_way", "_law_cell", "_law_number"]) (sc := defScope s__law_keys) (by decide +kernel)) (fun _ _ _ _ _ => (pg_name (i := 8) sc__law_keys.nd rfl (Or.inl rfl))) (fun _ _ _ _ _ => pts_nil) (fun _ _ _ _ _ => (pe_op SH.oSub (pe_op SH.oMod (pv 8) (pv 4)) (pe_op SH.oDiv (pv 4) pe_int)))))) pss_nil)
        (pss_cons (ps_if (pt_cmpR (SH.oEq hr.units) (pv 6) pe_int (nomark _)) (pss_one (ps_ret (SH.pe_callF C__law_nearly hr (by rfl) pass0 (pa_cons (pv 5) (pa_cons (pv 3) pa_nil))))) pss_nil)
        (pss_one (ps_ret (pv 5)))))))))))))), ?_⟩
  walk_at "begin"
  walk_at "rd"
  refine ⟨a, ns, 0, rfl, hS, fun mode => ?_⟩
  walk_at "rd"
  refine ⟨a, ns, 1, rfl, hS, fun mix => ?_⟩
  walk_at "rd"
  refine r_w (fun hdg => ?_) fun hdg => ?_
  · walk_at "rd"
    refine ⟨a, ns, 4, _, rfl, ⟨hS, by decide, by decide⟩, fun q H1 ms hq S1 hQ hml _ => ?_⟩
    walk_at "rd"
    intro q2 hq2
    rw [cut_map]
    obtain ⟨m, hmm⟩ : ∃ m : Nat, mode / 64 % (2 * (most : Int)) = m := ⟨(mode / 64 % (2 * (most : Int))).toNat, by have := Int.emod_nonneg (mode / 64) (show (2 * (most : Int)) ≠ 0 by omega); omega⟩
    have hmm2 : m < 2 * most := by have := Int.emod_lt_of_pos (mode / 64) (show (0 : Int) < 2 * (most : Int) by omega); omega
    rw [hmm, cutL_upto]
    exact k q2 _ _ (S1.dom _ hq2) (S1.new hq2) upd_same (by rw [List.length_take]; omega)
  walk_at "rd"
  intro wl hwl
  walk_at "rd"
  refine v_ixMod (m := 4) (by walk_at "sq") rfl (by decide) fun v hv => ?_
  have hv' : ∃ m : Int, v = .int m ∧ 0 < m := by
    rcases List.mem_cons.mp hv with rfl | hv
    · exact ⟨_, rfl, by decide⟩
    rcases List.mem_cons.mp hv with rfl | hv
    · exact ⟨_, rfl, by decide⟩
    rcases List.mem_cons.mp hv with rfl | hv
    · exact ⟨_, rfl, by decide⟩
    rw [List.mem_singleton] at hv
    exact ⟨_, hv, big60_pos⟩
  obtain ⟨width, rfl, hw⟩ := hv'
  clear hv
  walk_at "rd"
  intro sl hsl
  rw [cut_map]
  have hcl : (cutL ns (some 4) (some (4 + (most : Int)))).length ≤ most := by
    have e : (4 : Int) + (most : Int) = ((4 + most : Nat) : Int) := by omega
    rw [e, show (4 : Int) = ((4 : Nat) : Int) from rfl, cutL_span, List.length_take]
    omega
  generalize cutL ns (some 4) (some (4 + (most : Int))) = cs at hcl ⊢
  walk_at "rd"
  intro D hD
  refine lc_it (walk_list (xs := cs.map V.int)) (fun j H' => Stp [] H H' ∧ SqL K H' sl (cs.map V.int) ∧ ∃ ms : List Int, ms.length = j ∧ H' D = some (.lst (ms.map V.int))) ⟨((((Stp.refl [] H).new hwl).new hsl).new hD), by walk_at "sq", [], rfl, upd_same⟩ (fun j H' _ z => z.2.1) ?_ ?_
  · rintro j x H2 H3 hj ⟨S, hq, ms, hml, hL⟩ ⟨rfl, hx⟩
    obtain ⟨n, hn, rfl⟩ := map_at hx
    walk_at "rd"
    exact ⟨_, hL, Nat.lt_of_le_of_lt (m := 100) (by rw [List.length_map] at hj ⊢; omega) (by decide), S.putN ((upd_free (upd_free hD).1).1), sql_far hq (by rintro rfl; rw [upd_same] at hD; cases hD), ms ++ [_], by simp [hml], by rw [upd_same, List.map_append]; rfl⟩
  rintro H1 ⟨S1, _, ks, hkl, hL⟩
  have hD0 : H D = none := (upd_free (upd_free hD).1).1
  rw [List.length_map] at hkl
  clear hD hsl hwl
  walk_at "rd"
  refine r_b (fun hc => ?_) fun hc => ?_
  · walk_at "rd"
    refine ⟨D, ks, mix, rfl, ⟨SqL.of hL, by omega⟩, fun q H' ms hq S hQ hml => ?_⟩
    walk_at "rd"
    exact k q _ ms (S1.dom _ hq) (S1.trans S) hQ (by omega)
  walk_at "rd"
  refine r_w (fun hc => ?_) fun hc => ?_
  · walk_at "rd"
    refine ⟨D, ks, mix, rfl, ⟨SqL.of hL, by omega⟩, fun q H' ms hq S hQ hml => ?_⟩
    walk_at "rd"
    exact k q _ ms (S1.dom _ hq) (S1.trans S) hQ (by omega)
  walk_at "rd"
  refine r_w (fun hc => ?_) fun hc => ?_
  · walk_at "rd"
    refine v_sortI (SqL.of hL) fun ps q hpp _ hq => ?_
    have hpl := hpp.length_eq
    exact k q _ ps (S1.dom _ hq) (S1.new hq) upd_same (by omega)
  walk_at "rd"
  refine r_w (fun hc => ?_) fun hc => ?_
  · walk_at "rd"
    refine v_sortI (SqL.of hL) fun ps q hpp _ hq => ?_
    have hpl := hpp.length_eq
    walk_at "rd"
    intro q2 hq2
    exact k q2 _ ps.reverse (S1.dom _ (upd_free hq2).1) ((S1.new hq).new hq2) (by rw [upd_same, List.map_reverse]) (by rw [List.length_reverse]; omega)
  walk_at "rd"
  refine r_w (fun hc => ?_) fun hc => ?_
  · walk_at "rd"
    obtain ⟨m, hmm⟩ : ∃ m : Nat, mix % (2 * (most : Int)) = m := ⟨(mix % (2 * (most : Int))).toNat, by have := Int.emod_nonneg mix (show (2 * (most : Int)) ≠ 0 by omega); omega⟩
    have hmm2 : m < 2 * most := by have := Int.emod_lt_of_pos mix (show (0 : Int) < 2 * (most : Int) by omega); omega
    rw [hmm]
    refine ⟨mix, m, rfl, by omega, fun st H2 ms hst S2 hSt hml hm0' => ?_⟩
    walk_at "rd"
    intro D2 hD2
    have hD20 : H D2 = none := S1.dom _ (S2.dom _ hD2)
    refine lc_it (walk_list (xs := ms.map V.int)) (fun j H' => Stp [] H H' ∧ SqL K H' st (ms.map V.int) ∧ ∃ us : List Int, us.length = j ∧ H' D2 = some (.lst (us.map V.int))) ⟨(S1.trans S2).new hD2, by walk_at "sq", [], rfl, upd_same⟩ (fun j H' _ z => z.2.1) ?_ ?_
    · rintro j x H3 H4 hj ⟨S, hq, us, hul, hL⟩ ⟨rfl, hx⟩
      obtain ⟨n, hn, rfl⟩ := map_at hx
      walk_at "rd"
      exact ⟨_, hL, Nat.lt_of_le_of_lt (m := 200) (by rw [List.length_map] at hj ⊢; omega) (by decide), S.putN hD20, sql_far hq (by rintro rfl; rw [hSt] at hD2; cases hD2), us ++ [_], by simp [hul], by rw [upd_same, List.map_append]; rfl⟩
    rintro H3 ⟨S3, _, us, hul, hL⟩
    walk_at "rd"
    exact k D2 _ us hD20 S3 hL (by rw [List.length_map] at hul; omega)
  walk_at "rd"
  refine r_w (fun hc => ?_) fun hc => ?_
  · walk_at "rd"
    refine ⟨D, ks, mix, rfl, ⟨SqL.of hL, by omega⟩, fun q H' ms hq S hQ hml => ?_⟩
    walk_at "rd"
    exact k q _ ms (S1.dom _ hq) (S1.trans S) hQ (by omega)
  walk_at "rd"
  exact k D _ ks hD0 S1 hL (by omega)
/-! ### the spot of a place in an order, by halving -/
inductive Halv (ord : List Nat) (place : Nat) : Nat → Nat → List Ent → Nat → Prop
  | done (low : Nat) : Halv ord place low low [] low
  | up {low high o : Nat} {es : List Ent} {spot : Nat} (h : low < high) (ho : ord[(low + high) / 2]? = some o) (k : Halv ord place ((low + high) / 2 + 1) high es spot) : Halv ord place low high (⟨max o place, min o place, decide (place < o)⟩ :: es) spot
  | down {low high o : Nat} {es : List Ent} {spot : Nat} (h : low < high) (ho : ord[(low + high) / 2]? = some o) (k : Halv ord place low ((low + high) / 2) es spot) : Halv ord place low high (⟨max o place, min o place, !decide (place < o)⟩ :: es) spot
def sp_spot_of (K : PySem.W.Frag) (A : Ad) : Sp := fun vs H Q _ => ∃ (I : Ask) (log : List Ent) (a : Addr) (ord : List Nat) (place : Nat), vs = [.ref I.s, .ref a, .int place] ∧ (I.At K A H log ∧ SqL K H a (nv ord) ∧ a ∉ I.M ∧ place < I.n ∧ (∀ o ∈ ord, o < I.n ∧ o ≠ place) ∧ log.length + I.pre.length + ord.length < 100000) ∧
  ∀ H' spot es, Told I.or log es → Halv ord place 0 ord.length es spot → Stp I.M H H' → I.At K A H' (log ++ es) → Q (.int (spot : Nat)) H'
theorem ok_spot_of {P : Program} {w : World} {K : PySem.W.Frag} {mg : Str → Option Value} {base : Heap} {A : Ad} {f : Addr} {fd : FuncData} (F : Fun K "spot_of" "spot_of" s_spot_of f fd) (T : Txt K mg A) (M_Asker_ahead : SH.CalM P w K mg base CX0 3 A.Asker "ahead" [] (sp_Asker_ahead K A)) : FnOk P w K mg base CX0 4 f fd ["asker", "order", "place"] (sp_spot_of K A) := by
  refine F.ok sc_spot_of (fun vs H Q E h => by obtain ⟨_, _, _, _, _, rfl, _⟩ := h; rfl) (fun cdv A' outer s H vs Q E hr h => ?_)
  obtain ⟨I, log, a, ord, place, rfl, ⟨hA, hS, hnM, hp, hord, hlog⟩, k⟩ := h
  refine ⟨_, (pss_cons (ps_set (i := 3) sc_spot_of.nd rfl (Or.inl rfl) pe_int)
        (pss_cons (ps_set (i := 4) sc_spot_of.nd rfl (Or.inl rfl) (pe_callB SH.cLen (by rfl) T.z_len (by decide +kernel) (pa_cons (pv 1) pa_nil)))
        (pss_cons (ps_while PassesOwn.never (pt_cmpR (SH.oLt hr.units0) (pv 3) (pv 4) (nomark _)) (pss_cons (ps_set (i := 5) sc_spot_of.nd rfl (Or.inl rfl) (pe_op SH.oDiv (pe_op SH.oAdd (pv 3) (pv 4)) pe_int))
        (pss_one (ps_if (pt_val (SH.pe_methF (pv 0) M_Asker_ahead hr pass0 (pa_cons (pe_ix SH.ixA (pv 1) (pv 5) (fun _ _ => rfl)) (pa_cons (pv 2) pa_nil)))) (pss_one (ps_set (i := 3) sc_spot_of.nd rfl (Or.inl rfl) (pe_op SH.oAdd (pv 5) pe_int))) (pss_one (ps_set (i := 4) sc_spot_of.nd rfl (Or.inl rfl) (pv 5)))))))
        (pss_one (ps_ret (pv 3)))))), ?_⟩
  walk_at "begin"
  walk_at "rd"
  refine r_while (fun m σ H' => ∃ (low high : Nat) (es : List Ent) (v5 : Option V), m = high - low ∧ low ≤ high ∧ high ≤ ord.length ∧ es.length + (high - low) ≤ ord.length ∧ (∀ rest spot, Halv ord place low high rest spot → Halv ord place 0 ord.length (es ++ rest) spot) ∧
    Told I.or log es ∧ Stp I.M H H' ∧ I.At K A H' (log ++ es) ∧ σ = [some (.ref I.s), some (.ref a), some (.int place), some (.int low), some (.int high), v5])
    ⟨_, 0, ord.length, [], _, rfl, by omega, by omega, by simp, fun rest spot h => h, True.intro, .refl _ _, by rw [List.append_nil]; exact hA, rfl⟩ ?_
  rintro m σ H1 ⟨low, high, es, v5, rfl, h1, h2, h3, hH, hT, S, hA1, rfl⟩
  walk_at "rd"
  refine r_w (fun hlt => ?_) fun hlt => ?_
  · refine r_next_turn ?_
    walk_at "rd"
    have em : ((low : Int) + high) / 2 = (((low + high) / 2 : Nat) : Int) := by omega
    rw [em]
    have hm : (low + high) / 2 < ord.length := by omega
    have ho : ord[(low + high) / 2]? = some ord[(low + high) / 2] := List.getElem?_eq_getElem hm
    obtain ⟨o1, o2⟩ := hord _ (List.getElem_mem hm)
    generalize ord[(low + high) / 2] = o at ho o1 o2
    have hs1 := hA1.hs
    have hS1 := S.sql hS hnM
    walk_at "rd"
    refine v_ixLn (n := (low + high) / 2) (v := .int o) hS1 rfl (by unfold nv; rw [List.getElem?_map, ho]; rfl) ?_
    walk_at "rd"
    refine ⟨I, _, o, place, rfl, ⟨hA1, o1, hp, o2, by rw [List.length_append]; omega⟩, fun H2 said hsaid S2 hA2 => ?_⟩
    have hT2 := Told.app hT (Told.one (e := ⟨max o place, min o place, said⟩) hsaid)
    rw [List.append_assoc] at hA2
    walk_at "rd"
    refine r_w (fun hb => ?_) fun hb => ?_
    · walk_at "rd"
      refine ⟨high - ((low + high) / 2 + 1), by omega, (low + high) / 2 + 1, high, es ++ [⟨max o place, min o place, said⟩], _, rfl, by omega, h2, by rw [List.length_append, List.length_singleton]; omega, fun rest spot h => ?_, hT2, S.trans S2, hA2, rfl⟩
      rw [List.append_assoc, hb]
      exact hH _ _ (.up (by omega) ho h)
    · walk_at "rd"
      have hb' : said = !decide (place < o) := by cases said <;> cases hd : decide (place < o) <;> simp_all
      refine ⟨(low + high) / 2 - low, by omega, low, (low + high) / 2, es ++ [⟨max o place, min o place, said⟩], _, rfl, by omega, by omega, by rw [List.length_append, List.length_singleton]; omega, fun rest spot h => ?_, hT2, S.trans S2, hA2, rfl⟩
      rw [List.append_assoc, hb']
      exact hH _ _ (.down (by omega) ho h)
  · walk_at "rd"
    have e : low = high := by omega
    subst e
    have := hH [] low (.done low)
    rw [List.append_nil] at this
    exact k _ low es hT this S hA1
/-! ### orders by keys, and what halving finds -/
/-- o stands ahead of p -/
def Ahd (ks : List Int) (o p : Nat) : Prop := getE ks o < getE ks p ∨ (getE ks o = getE ks p ∧ o < p)
instance (ks : List Int) (o p : Nat) : Decidable (Ahd ks o p) := inferInstanceAs (Decidable (_ ∨ _))
theorem ahd_told {ks : List Int} {o p : Nat} (h : o ≠ p) : (decide (getE ks (max o p) < getE ks (min o p)) = decide (p < o)) ↔ Ahd ks o p := by
  unfold Ahd
  by_cases e : p < o
  · rw [Nat.max_eq_left (by omega), Nat.min_eq_right (by omega), decide_eq_true e]
    simp only [decide_eq_true_eq]
    omega
  · rw [Nat.max_eq_right (by omega), Nat.min_eq_left (by omega), decide_eq_false e]
    simp only [decide_eq_false_iff_not]
    omega
theorem Ahd.trans {ks : List Int} {a b c : Nat} (h : Ahd ks a b) (k : Ahd ks b c) : Ahd ks a c := by unfold Ahd at *; omega
theorem Ahd.asym {ks : List Int} {a b : Nat} (h : Ahd ks a b) : ¬ Ahd ks b a := by unfold Ahd at *; omega
theorem Ahd.tot {ks : List Int} {a b : Nat} (h : a ≠ b) : Ahd ks a b ∨ Ahd ks b a := by unfold Ahd; omega
theorem not_eq_ite {a b : Bool} (h : a = !b) : ¬ a = b := by cases a <;> cases b <;> simp_all
/-- what the halving tells: all before the spot stand ahead, all others don't -/
theorem Halv.spot {ks : List Int} {ord : List Nat} {place low high spot : Nat} {es : List Ent} (h : Halv ord place low high es spot) (hT : ∀ e ∈ es, e.c = decide (getE ks e.a < getE ks e.b)) (hne : ∀ o ∈ ord, o ≠ place)
    (hm : ∀ (i j : Nat) (a b : Nat), i < j → ord[i]? = some a → ord[j]? = some b → Ahd ks b place → Ahd ks a place) (h1 : low ≤ high) (h2 : high ≤ ord.length)
    (hlo : ∀ (i a : Nat), i < low → ord[i]? = some a → Ahd ks a place) (hhi : ∀ (i a : Nat), high ≤ i → ord[i]? = some a → ¬ Ahd ks a place) :
    spot ≤ ord.length ∧ (∀ (i a : Nat), i < spot → ord[i]? = some a → Ahd ks a place) ∧ (∀ (i a : Nat), spot ≤ i → ord[i]? = some a → ¬ Ahd ks a place) := by
  induction h with
  | done low => exact ⟨by omega, hlo, hhi⟩
  | @up low high o es spot h ho k ih =>
    have hA : Ahd ks o place := (ahd_told (hne o (List.mem_of_getElem? ho))).mp (hT _ (List.mem_cons_self ..)).symm
    refine ih (fun e he => hT e (by simp [he])) (by omega) h2 (fun i a hi ha => ?_) hhi
    by_cases e : i = (low + high) / 2
    · subst e; rw [ho] at ha; cases ha; exact hA
    · exact hm i _ a o (by omega) ha ho hA
  | @down low high o es spot h ho k ih =>
    have hA : ¬ Ahd ks o place := fun z => by
      have t : (!decide (place < o)) = decide (getE ks (max o place) < getE ks (min o place)) := hT _ (List.mem_cons_self ..)
      rw [(ahd_told (hne o (List.mem_of_getElem? ho))).mpr z] at t
      revert t
      cases decide (place < o) <;> decide
    refine ih (fun e he => hT e (by simp [he])) (by omega) (by omega) hlo (fun i a hi ha => ?_)
    by_cases e : i = (low + high) / 2
    · subst e; rw [ho] at ha; cases ha; exact hA
    · exact fun z => hA (hm _ i o a (by omega) ho ha z)
theorem filter_spot {α : Type} {p : α → Bool} {l : List α} {n : Nat} (h : n ≤ l.length) (h1 : ∀ (i : Nat) (a : α), i < n → l[i]? = some a → p a = true) (h2 : ∀ (i : Nat) (a : α), n ≤ i → l[i]? = some a → p a = false) : (l.filter p).length = n := by
  have e : l = l.take n ++ l.drop n := (List.take_append_drop n l).symm
  rw [e, List.filter_append]
  have a1 : (l.take n).filter p = l.take n := List.filter_eq_self.mpr fun a ha => by
    obtain ⟨i, hi, e⟩ := List.getElem_of_mem ha
    rw [List.length_take] at hi
    exact h1 i a (by omega) (by rw [← e, List.getElem_take]; exact List.getElem?_eq_getElem (by omega))
  have a2 : (l.drop n).filter p = [] := List.filter_eq_nil_iff.mpr fun a ha => by
    obtain ⟨i, hi, e⟩ := List.getElem_of_mem ha
    rw [List.length_drop] at hi
    rw [h2 (n + i) a (by omega) (by rw [← e, List.getElem_drop]; exact List.getElem?_eq_getElem (by omega))]
    simp
  rw [a1, a2, List.append_nil, List.length_take]
  omega
theorem bits_half {d : Nat} (h : 0 < d) : Builtin.Int.intBits (d : Int) = Builtin.Int.intBits ((d / 2 : Nat) : Int) + 1 := by
  unfold Builtin.Int.intBits
  rw [if_neg (by simp; omega)]
  have e1 : ((d : Nat) : Int).natAbs = d := by omega
  have e2 : ((d / 2 : Nat) : Int).natAbs = d / 2 := by omega
  rw [e1, e2]
  by_cases h2 : d / 2 = 0
  · have : d = 1 := by omega
    subst this
    rfl
  · rw [if_neg (by simp; omega), Nat.log2_def d, if_pos (by omega)]
theorem bits_mono {a b : Nat} (h : a ≤ b) : Builtin.Int.intBits (a : Int) ≤ Builtin.Int.intBits (b : Int) := by
  induction b using Nat.strongRecOn generalizing a with
  | _ b ih =>
    by_cases ha : a = 0
    · subst ha; simp [Builtin.Int.intBits]
    · rw [bits_half (by omega : 0 < a), bits_half (by omega : 0 < b)]
      have := ih (b / 2) (by omega) (a := a / 2) (by omega)
      omega
/-- at most as many asks as the number of places has bits -/
theorem Halv.few {ord : List Nat} {place low high spot : Nat} {es : List Ent} (h : Halv ord place low high es spot) : es.length ≤ Builtin.Int.intBits ((high - low : Nat) : Int) := by
  induction h with
  | done low => simp
  | @up low high o es spot h ho k ih =>
    rw [bits_half (by omega : 0 < high - low), List.length_cons]
    have := bits_mono (show high - ((low + high) / 2 + 1) ≤ (high - low) / 2 by omega)
    omega
  | @down low high o es spot h ho k ih =>
    rw [bits_half (by omega : 0 < high - low), List.length_cons]
    have := bits_mono (show (low + high) / 2 - low ≤ (high - low) / 2 by omega)
    omega
theorem Halv.inv {ord : List Nat} {place low high spot : Nat} {e : Ent} {es : List Ent} (h : Halv ord place low high (e :: es) spot) : low < high ∧ ∃ o, ord[(low + high) / 2]? = some o ∧ e.a = max o place ∧ e.b = min o place ∧
    ((e.c = decide (place < o) ∧ Halv ord place ((low + high) / 2 + 1) high es spot) ∨ (e.c = (!decide (place < o)) ∧ Halv ord place low ((low + high) / 2) es spot)) := by
  cases h with
  | up h ho k => exact ⟨h, _, ho, rfl, rfl, .inl ⟨rfl, k⟩⟩
  | down h ho k => exact ⟨h, _, ho, rfl, rfl, .inr ⟨rfl, k⟩⟩
theorem Halv.nil {ord : List Nat} {place low high spot : Nat} (h : Halv ord place low high [] spot) : low = high ∧ spot = low := by
  cases h; exact ⟨rfl, rfl⟩
/-! ### in order by keys -/
def sp__law_whole (K : PySem.W.Frag) (A : Ad) : Sp := fun vs H Q _ => ∃ (c : Int), vs = [.int c] ∧ Q (.bl true) H
theorem ok__law_whole {P : Program} {w : World} {K : PySem.W.Frag} {mg : Str → Option Value} {base : Heap} {A : Ad} {f : Addr} {fd : FuncData} (F : Fun K "_law_whole" "_law_whole" s__law_whole f fd) (T : Txt K mg A)  : FnOk P w K mg base CX0 1 f fd ["_law_found"] (sp__law_whole K A) := by
  refine F.ok sc__law_whole (fun vs H Q E h => by obtain ⟨_, rfl, _⟩ := h; rfl) (fun cdv A' outer s H vs Q E hr h => ?_)
  obtain ⟨c, rfl, k⟩ := h
  refine ⟨_, (pss_one (ps_ret (pe_and (pe_callB call_isi (by rfl) T.z_isinstance (by decide +kernel) (pa_cons (pv 0) (pa_cons (pe_bltn (v := .ty "int") (by rfl) T.z_int (by decide +kernel) rfl) pa_nil))) (pe_one (pe_not (pe_callB call_isi (by rfl) T.z_isinstance (by decide +kernel) (pa_cons (pv 0) (pa_cons (pe_bltn (v := .ty "bool") (by rfl) T.z_bool (by decide +kernel) rfl) pa_nil)))))))), ?_⟩
  walk_at "begin"
  walk_at "rd"
  exact k
theorem cut_from1 {ps : List Nat} : cutV (nv ps) (some 1) none = nv (ps.drop 1) := by rw [cut_map]; exact congrArg _ (cutL_from ps 1)
theorem nbs_at {ps : List Nat} {j : Nat} {x y : V} (hx : (nv ps)[j]? = some x) (hy : (nv (ps.drop 1))[j]? = some y) : ∃ u v : Nat, x = .int u ∧ y = .int v ∧ ps[j]? = some u ∧ ps[j + 1]? = some v := by
  obtain ⟨u, hu, rfl⟩ := map_at hx
  obtain ⟨v, hv, rfl⟩ := map_at hy
  rw [List.getElem?_drop] at hv
  exact ⟨u, v, rfl, rfl, hu, by rw [Nat.add_comm]; exact hv⟩
def sp__law_in_order (K : PySem.W.Frag) (A : Ad) : Sp := fun vs H Q _ => ∃ (o kl : Addr) (ord : List Nat) (ks : List Int), vs = [.ref o, .ref kl, .int ord.length] ∧
  (H o = some (.lst (nv ord)) ∧ SqL K H kl (ks.map V.int) ∧ (∀ p ∈ ord, p < ks.length) ∧ ord.length ≤ 100000 ∧ (∀ (i u v : Nat), ord[i]? = some u → ord[i + 1]? = some v → Ahd ks u v)) ∧ ∀ H', Stp [] H H' → Q (.bl true) H'
theorem ok__law_in_order {P : Program} {w : World} {K : PySem.W.Frag} {mg : Str → Option Value} {base : Heap} {A : Ad} {f : Addr} {fd : FuncData} (F : Fun K "_law_in_order" "_law_in_order" s__law_in_order f fd) (T : Txt K mg A) (C__law_whole : SH.Cal P w K mg base CX0 1 "_law_whole" [] (sp__law_whole K A)) : FnOk P w K mg base CX0 2 f fd ["_law_order", "_law_keys_here", "_law_many"] (sp__law_in_order K A) := by
  refine F.ok sc__law_in_order (fun vs H Q E h => by obtain ⟨_, _, _, _, rfl, _⟩ := h; rfl) (fun cdv A' outer s H vs Q E hr h => ?_)
  obtain ⟨o, kl, ord, ks, rfl, ⟨hO, hK, hlt, hol, hnb⟩, k⟩ := h
  refine ⟨_, (pss_cons (ps_if (PW.pt (pw_or (pt_not (pt_val (pe_callB call_isi (by rfl) T.z_isinstance (by decide +kernel) (pa_cons (pv 0) (pa_cons (pe_bltn (v := .ty "list") (by rfl) T.z_list (by decide +kernel) rfl) pa_nil))))) (pw_or1 (pt_cmpR (SH.oNe hr.units) (pe_callB SH.cLen (by rfl) T.z_len (by decide +kernel) (pa_cons (pv 0) pa_nil)) (pv 2) (nomark _))))) (pss_one (ps_ret pe_bl)) pss_nil)
        (pss_cons (ps_for PassesOwn.never rfl (pi_list (pv 0)) (pg_name (i := 3) sc__law_in_order.nd rfl (Or.inl rfl)) (pss_one (ps_if (PW.pt (pw_or (pt_not (pt_val (SH.pe_callF C__law_whole hr (by rfl) pass0 (pa_cons (pv 3) pa_nil)))) (pw_or (pt_cmpR (SH.oLt hr.units0) (pv 3) pe_int (nomark _)) (pw_or1 (pt_cmpR SH.oGe (pv 3) (pe_callB SH.cLen (by rfl) T.z_len (by decide +kernel) (pa_cons (pv 1) pa_nil)) (nomark _)))))) (pss_one (ps_ret pe_bl)) pss_nil)))
        (pss_cons (ps_for PassesOwn.never rfl (pi_zip (by rfl) T.z_zip (pa_cons (pv 0) (pa_cons (pe_slice sl_list (pv 0) (po_some pe_int) po_none) pa_nil))) (pg_tup (by rfl) (pgs_cons (pg_name (i := 4) sc__law_in_order.nd rfl (Or.inl rfl)) (pgs_cons (pg_name (i := 5) sc__law_in_order.nd rfl (Or.inl rfl)) pgs_nil))) (pss_one (ps_if (pt_cmpR (SH.oGeT hr.units) (pe_tup (pa_cons (pe_ix SH.ixA (pv 1) (pv 4) (fun _ _ => rfl)) (pa_cons (pv 4) pa_nil))) (pe_tup (pa_cons (pe_ix SH.ixA (pv 1) (pv 5) (fun _ _ => rfl)) (pa_cons (pv 5) pa_nil))) (nomark _)) (pss_one (ps_ret pe_bl)) pss_nil)))
        (pss_one (ps_ret pe_bl))))), ?_⟩
  walk_at "begin"
  walk_at "rd"
  refine r_nwF rfl ?_
  walk_at "rd"
  refine for_it (walk_list (xs := nv ord)) (fun j σ H' => Stp [] H H' ∧ ∃ v3, σ = [some (.ref o), some (.ref kl), some (.int ord.length), v3, none, none]) ⟨.refl _ _, _, rfl⟩ (fun _ _ _ _ z => z.1.sql0 (SqL.of hO)) ?_ ?_
  · rintro j x σ H1 H2 hj ⟨S, v3, rfl⟩ ⟨rfl, hx⟩
    obtain ⟨p, hp, rfl⟩ := map_at hx
    have hpl := hlt p (List.mem_of_getElem? hp)
    have hK1 := S.sql0 hK
    walk_at "rd"
    refine ⟨_, rfl, ?_⟩
    walk_at "rd"
    refine r_wF (by omega) ?_
    walk_at "rd"
    refine r_wF (by omega) ?_
    walk_at "rd"
    exact ⟨S, _, rfl⟩
  rintro σ H1 ⟨S, v3, rfl⟩
  have hO1 := S.keep0 hO
  have hK1 := S.sql0 hK
  walk_at "rd"
  intro q1 hq1
  rw [cut_from1]
  have S1 := S.new (o := .lst (nv (ord.drop 1))) hq1
  have hO2 := upd_old (u := .lst (nv (ord.drop 1))) hO1 hq1
  have hq2 := upd_same (H := H1) (a := q1) (o := .lst (nv (ord.drop 1)))
  generalize upd H1 q1 (.lst (nv (ord.drop 1))) = H2 at S1 hO2 hq2 ⊢
  clear S hO1 hK1 hq1
  walk_at "rd"
  refine for_it (walk_zip rfl) (fun j σ H' => Stp [] H2 H' ∧ ∃ v3 v4 v5, σ = [some (.ref o), some (.ref kl), some (.int ord.length), v3, v4, v5]) ⟨.refl _ _, _, _, _, rfl⟩ (fun _ _ _ _ z => ⟨z.1.sql0 (SqL.of hO2), z.1.sql0 (SqL.of hq2)⟩) ?_ ?_
  · rintro j x σ H3 H4 hj ⟨S, v3, v4, v5, rfl⟩ ⟨T0, x0, y0, rfl, hT0, rfl, hx0, hy0⟩
    obtain ⟨u, v, rfl, rfl, hu, hv⟩ := nbs_at hx0 hy0
    have hul := hlt u (List.mem_of_getElem? hu)
    have hvl := hlt v (List.mem_of_getElem? hv)
    have hA := hnb j u v hu hv
    have S3 := (S1.trans S).new (o := .tup [.int u, .int v]) hT0
    have S3' := S.new (o := .tup [.int u, .int v]) hT0
    have hT := upd_same (H := H3) (a := T0) (o := .tup [.int u, .int v])
    generalize upd H3 T0 (.tup [.int u, .int v]) = H4 at S3 S3' hT ⊢
    clear S hT0
    have hK3 := S3.sql0 hK
    walk_at "rd"
    refine v_ixE (n := u) hK3 rfl hul ?_
    walk_at "rd"
    intro t1 ht1
    walk_at "rd"
    refine v_ixE (n := v) (sql_upd hK3 ht1) rfl hvl ?_
    walk_at "rd"
    intro t2 ht2
    refine v_geT (SqT.of (upd_old upd_same ht2)) (SqT.of upd_same) ?_
    refine ⟨_, rfl, r_wF (c := ¬ (getE ks u < getE ks v ∨ (getE ks u = getE ks v ∧ ((u : Nat) : Int) < (v : Nat)))) (fun z => z (by unfold Ahd at hA; omega)) ?_⟩
    walk_at "rd"
    exact ⟨(S3'.new ht1).new ht2, _, _, _, rfl⟩
  · rintro σ H3 ⟨S, v3, v4, v5, rfl⟩
    walk_at "rd"
    exact k _ (S1.trans S)
/-! ### each two neighbours were asked about -/
theorem isl_ent {K : PySem.W.Frag} {H : Hp} {evs : List V} {log : List Ent} (hI : IsL K H evs log) {j : Nat} {x : V} (hx : evs[j]? = some x) : ∃ (e : Ent) (t : Addr), log[j]? = some e ∧ x = .ref t ∧ SqT K H t [.int (e.a : Nat), .int (e.b : Nat), .bl e.c] := by
  obtain ⟨e, he, hIe⟩ := isl_at hI hx
  obtain ⟨ea, eb, ec⟩ := e
  cases hIe with
  | @tup t xs ds hs ha =>
    refine ⟨_, t, he, rfl, ?_⟩
    cases ha with | cons h1 h2 => cases h2 with | cons h3 h4 => cases h4 with | cons h5 h6 => cases h6; cases h1; cases h3; cases h5; exact hs
def tr (log : List Ent) : List Ent := log.map fun e => ⟨e.a, e.b, true⟩
theorem tr_app {log : List Ent} {e : Ent} : tr (log ++ [e]) = tr log ++ [⟨e.a, e.b, true⟩] := by simp [tr]
theorem tr_mem {log : List Ent} {a b : Nat} (h : ∃ e ∈ log, e.a = a ∧ e.b = b) : ∃ e ∈ tr log, e.a = a ∧ e.b = b := by
  obtain ⟨e, he, h1, h2⟩ := h
  exact ⟨_, List.mem_map.mpr ⟨e, he, rfl⟩, h1, h2⟩
def sp__law_shown (K : PySem.W.Frag) (A : Ad) : Sp := fun vs H Q _ => ∃ (o l : Addr) (ord : List Nat) (evs : List V) (log : List Ent), vs = [.ref o, .ref l] ∧
  (SqL K H o (nv ord) ∧ SqL K H l evs ∧ IsL K H evs log ∧ (∀ e ∈ log, e.b < e.a) ∧ log.length ≤ 200000 ∧ (∀ (i u v : Nat), ord[i]? = some u → ord[i + 1]? = some v → ∃ e ∈ log, e.a = max u v ∧ e.b = min u v)) ∧ ∀ H', Stp [] H H' → Q (.bl true) H'
theorem ok__law_shown {P : Program} {w : World} {K : PySem.W.Frag} {mg : Str → Option Value} {base : Heap} {A : Ad} {f : Addr} {fd : FuncData} (F : Fun K "_law_shown" "_law_shown" s__law_shown f fd) (T : Txt K mg A)  : FnOk P w K mg base CX0 1 f fd ["_law_order", "_law_log"] (sp__law_shown K A) := by
  refine F.ok sc__law_shown (fun vs H Q E h => by obtain ⟨_, _, _, _, _, rfl, _⟩ := h; rfl) (fun cdv A' outer s H vs Q E hr h => ?_)
  obtain ⟨o, l, ord, evs, log, rfl, ⟨hO, hL, hI, hgt, hll, hnb⟩, k⟩ := h
  refine ⟨_, (pss_cons (ps_set (i := 2) sc__law_shown.nd rfl (Or.inl rfl) pe_dnewT)
        (pss_cons (ps_for PassesOwn.never rfl (pi_list (pv 1)) (pg_tup (by rfl) (pgs_cons (pg_name (i := 3) sc__law_shown.nd rfl (Or.inl rfl)) (pgs_cons (pg_name (i := 4) sc__law_shown.nd rfl (Or.inl rfl)) (pgs_cons (pg_name (i := 5) sc__law_shown.nd rfl (Or.inl rfl)) pgs_nil)))) (pss_cons (ps_if (pt_cmpR SH.oLe (pv 3) (pv 4) (nomark _)) (pss_one (ps_ret pe_bl)) pss_nil)
        (pss_one (ps_dput (hu_of hr) (pv 2) (pe_tup (pa_cons (pv 3) (pa_cons (pv 4) pa_nil))) pe_bl rfl))))
        (pss_cons (ps_for PassesOwn.never rfl (pi_zip (by rfl) T.z_zip (pa_cons (pv 0) (pa_cons (pe_slice sl_list (pv 0) (po_some pe_int) po_none) pa_nil))) (pg_tup (by rfl) (pgs_cons (pg_name (i := 6) sc__law_shown.nd rfl (Or.inl rfl)) (pgs_cons (pg_name (i := 7) sc__law_shown.nd rfl (Or.inl rfl)) pgs_nil))) (pss_one (ps_if (pt_cmp (pc_dnotin (hu_of hr) (pe_tup (pa_cons (pe_callB (SH.cMax2 rfl) (by rfl) T.z_max (by decide +kernel) (pa_cons (pv 6) (pa_cons (pv 7) pa_nil))) (pa_cons (pe_callB (SH.cMin2 rfl) (by rfl) T.z_min (by decide +kernel) (pa_cons (pv 6) (pa_cons (pv 7) pa_nil))) pa_nil))) (pv 2)) (by rfl)) (pss_one (ps_ret pe_bl)) pss_nil)))
        (pss_one (ps_ret pe_bl))))), ?_⟩
  walk_at "begin"
  have hel := isl_len hI
  walk_at "rd"
  intro D hD
  walk_at "rd"
  refine for_it (walk_list (xs := evs)) (fun j σ H' => Stp [] H H' ∧ H' D = some (.dT (kn (tr (log.take j)))) ∧ ∃ v3 v4 v5, σ = [some (.ref o), some (.ref l), some (.ref D), v3, v4, v5, none, none]) ⟨(Stp.refl _ _).new hD, upd_same, _, _, _, rfl⟩ (fun _ _ _ _ z => z.1.sql0 hL) ?_ ?_
  · rintro j x σ H1 H2 hj ⟨S, hDj, v3, v4, v5, rfl⟩ ⟨rfl, hx⟩
    obtain ⟨e, t, he, rfl, ht⟩ := isl_ent hI hx
    have hg := hgt e (List.mem_of_getElem? he)
    have ht2 := S.sqtM ht
    walk_at "rd"
    refine r_wF (by omega) ?_
    walk_at "rd"
    intro t2 ht2'
    refine v_dputT (ks := pk e.a e.b) (upd_old hDj ht2') upd_same (Nat.lt_of_le_of_lt (kn_len _) (by unfold tr; rw [List.length_map, List.length_take]; omega)) ?_
    walk_at "rd"
    refine ⟨(S.new ht2').putN hD, ?_, _, _, _, rfl⟩
    rw [upd_same, List.take_succ, he]
    exact congrArg (fun z => some (HO.dT z)) (by show _ = kn (tr (log.take j ++ [e])); rw [tr_app]; exact (kn_app (e := ⟨e.a, e.b, true⟩)).symm)
  rintro σ H1 ⟨S, hD1, v3, v4, v5, rfl⟩
  rw [List.take_of_length_le (by omega)] at hD1
  have hO1 := S.sql0 hO
  walk_at "rd"
  intro q1 hq1
  rw [cut_from1]
  have S1 := S.new (o := .lst (nv (ord.drop 1))) hq1
  have hq2 := upd_same (H := H1) (a := q1) (o := .lst (nv (ord.drop 1)))
  have hD2 := upd_old (u := .lst (nv (ord.drop 1))) hD1 hq1
  have hO2 := S1.sql0 hO
  generalize upd H1 q1 (.lst (nv (ord.drop 1))) = H2 at S1 hO2 hq2 hD2 ⊢
  clear S hO1 hq1 hD1
  walk_at "rd"
  refine for_it (walk_zip rfl) (fun j σ H' => Stp [] H2 H' ∧ ∃ v3 v4 v5 v6 v7, σ = [some (.ref o), some (.ref l), some (.ref D), v3, v4, v5, v6, v7]) ⟨.refl _ _, _, _, _, _, _, rfl⟩ (fun _ _ _ _ z => ⟨z.1.sql0 hO2, z.1.sql0 (SqL.of hq2)⟩) ?_ ?_
  · rintro j x σ H3 H4 hj ⟨S, v3, v4, v5, v6, v7, rfl⟩ ⟨T0, x0, y0, rfl, hT0, rfl, hx0, hy0⟩
    obtain ⟨u, v, rfl, rfl, hu, hv⟩ := nbs_at hx0 hy0
    have S3 := S.new (o := .tup [.int u, .int v]) hT0
    have hT := upd_same (H := H3) (a := T0) (o := .tup [.int u, .int v])
    generalize upd H3 T0 (.tup [.int u, .int v]) = H4 at S3 hT ⊢
    clear S hT0
    have hD3 := S3.keep0 hD2
    walk_at "rd"
    rw [max_v, min_v]
    intro t2 ht2'
    walk_at "rd"
    refine v_dnotin (ks := pk (max u v) (min u v)) (upd_old hD3 ht2') upd_same ?_
    rw [kn_get (f := fun _ _ => true) (fun e he => by unfold tr at he; obtain ⟨e', _, rfl⟩ := List.mem_map.mp he; rfl) (tr_mem (hnb j u v hu hv))]
    walk_at "rd"
    exact ⟨S3.new ht2', _, _, _, _, _, rfl⟩
  · rintro σ H3 ⟨S, v3, v4, v5, v6, v7, rfl⟩
    walk_at "rd"
    exact k _ (S1.trans S)
/-! ### the answers show the paper -/
def sp_agrees (K : PySem.W.Frag) (A : Ad) : Sp := fun vs H Q _ => ∃ (o l : Addr) (ord : List Nat) (evs : List V) (log : List Ent), vs = [.ref o, .ref l] ∧
  (SqL K H o (nv ord) ∧ SqL K H l evs ∧ IsL K H evs log ∧ Pap ord ∧ ord.length ≤ 100000 ∧ (∀ e ∈ log, e.a < ord.length ∧ e.b < ord.length ∧ e.c = decide (ord.idxOf e.a < ord.idxOf e.b))) ∧ ∀ H', Stp [] H H' → Q (.bl true) H'
theorem ok_agrees {P : Program} {w : World} {K : PySem.W.Frag} {mg : Str → Option Value} {base : Heap} {A : Ad} {f : Addr} {fd : FuncData} (F : Fun K "agrees" "agrees" s_agrees f fd) (T : Txt K mg A) (C_back : SH.Cal P w K mg base CX0 4 "back" [] (sp_back K A)) : FnOk P w K mg base CX0 5 f fd ["paper", "answers"] (sp_agrees K A) := by
  refine F.ok sc_agrees (fun vs H Q E h => by obtain ⟨_, _, _, _, _, rfl, _⟩ := h; rfl) (fun cdv A' outer s H vs Q E hr h => ?_)
  obtain ⟨o, l, ord, evs, log, rfl, ⟨hO, hL, hI, hP, hol, hag⟩, k⟩ := h
  refine ⟨_, (pss_cons (ps_set (i := 2) sc_agrees.nd rfl (Or.inl rfl) (SH.pe_callF C_back hr (by rfl) pass0 (pa_cons (pv 0) pa_nil)))
        (pss_cons (ps_for PassesOwn.never rfl (pi_list (pv 1)) (pg_tup (by rfl) (pgs_cons (pg_name (i := 3) sc_agrees.nd rfl (Or.inl rfl)) (pgs_cons (pg_name (i := 4) sc_agrees.nd rfl (Or.inl rfl)) (pgs_cons (pg_name (i := 5) sc_agrees.nd rfl (Or.inl rfl)) pgs_nil)))) (pss_one (ps_if (pt_cmpR (SH.oNe hr.units) (pe_cmpR (SH.oLt hr.units0) (pe_ix SH.ixA (pv 2) (pv 3) (fun _ _ => rfl)) (pe_ix SH.ixA (pv 2) (pv 4) (fun _ _ => rfl)) (nomark _)) (pv 5) (nomark _)) (pss_one (ps_ret pe_bl)) pss_nil)))
        (pss_one (ps_ret pe_bl)))), ?_⟩
  walk_at "begin"
  walk_at "rd"
  refine ⟨o, ord, rfl, ⟨hO, hol, hP⟩, fun q H1 hq S1 hq1 => ?_⟩
  have hL1 := S1.sql0 hL
  have hI1 := isl_stp S1 hI
  walk_at "rd"
  refine for_it (walk_list (xs := evs)) (fun j σ H' => Stp [] H1 H' ∧ ∃ v3 v4 v5, σ = [some (.ref o), some (.ref l), some (.ref q), v3, v4, v5]) ⟨.refl _ _, _, _, _, rfl⟩ (fun _ _ _ _ z => z.1.sql0 hL1) ?_ ?_
  · rintro j x σ H2 H3 hj ⟨S, v3, v4, v5, rfl⟩ ⟨rfl, hx⟩
    obtain ⟨e, t, he, rfl, ht⟩ := isl_ent hI1 hx
    obtain ⟨h1, h2, h3⟩ := hag e (List.mem_of_getElem? he)
    have ht2 := S.sqtM ht
    have hq2 := S.keep0 hq1
    walk_at "rd"
    refine v_ixLn (n := e.a) (v := .int (ord.idxOf e.a : Nat)) (SqL.of hq2) rfl (by unfold nv; rw [List.getElem?_map, inv_at h1]; rfl) ?_
    walk_at "rd"
    refine v_ixLn (n := e.b) (v := .int (ord.idxOf e.b : Nat)) (SqL.of hq2) rfl (by unfold nv; rw [List.getElem?_map, inv_at h2]; rfl) ?_
    walk_at "rd"
    rw [h3]
    refine r_nwF (decide_eq_decide.mpr (by omega)) ?_
    walk_at "rd"
    exact ⟨S, _, _, _, rfl⟩
  · rintro σ H2 ⟨S, v3, v4, v5, rfl⟩
    walk_at "rd"
    exact k _ (S1.trans S)
def sp_shows (K : PySem.W.Frag) (A : Ad) : Sp := fun vs H Q _ => ∃ (o l : Addr) (ord : List Nat) (evs : List V) (log : List Ent), vs = [.ref o, .ref l] ∧
  (SqL K H o (nv ord) ∧ SqL K H l evs ∧ IsL K H evs log ∧ Pap ord ∧ ord.length ≤ 100000 ∧ log.length ≤ 200000 ∧ (∀ e ∈ log, e.a < ord.length ∧ e.b < ord.length ∧ e.c = decide (ord.idxOf e.a < ord.idxOf e.b)) ∧
    (∀ (i u v : Nat), ord[i]? = some u → ord[i + 1]? = some v → ∃ e ∈ log, e.a = max u v ∧ e.b = min u v)) ∧ ∀ H', Stp [] H H' → Q (.bl true) H'
theorem ok_shows {P : Program} {w : World} {K : PySem.W.Frag} {mg : Str → Option Value} {base : Heap} {A : Ad} {f : Addr} {fd : FuncData} (F : Fun K "shows" "shows" s_shows f fd) (T : Txt K mg A) (C_agrees : SH.Cal P w K mg base CX0 5 "agrees" [] (sp_agrees K A)) : FnOk P w K mg base CX0 6 f fd ["paper", "answers"] (sp_shows K A) := by
  refine F.ok sc_shows (fun vs H Q E h => by obtain ⟨_, _, _, _, _, rfl, _⟩ := h; rfl) (fun cdv A' outer s H vs Q E hr h => ?_)
  obtain ⟨o, l, ord, evs, log, rfl, ⟨hO, hL, hI, hP, hol, hll, hag, hnb⟩, k⟩ := h
  refine ⟨_, (pss_cons (ps_set (i := 2) sc_shows.nd rfl (Or.inl rfl) pe_dnewT)
        (pss_cons (ps_for PassesOwn.never rfl (pi_list (pv 1)) (pg_tup (by rfl) (pgs_cons (pg_name (i := 3) sc_shows.nd rfl (Or.inl rfl)) (pgs_cons (pg_name (i := 4) sc_shows.nd rfl (Or.inl rfl)) (pgs_cons (pg_name (i := 5) sc_shows.nd rfl (Or.inl rfl)) pgs_nil)))) (pss_one (ps_dput (hu_of hr) (pv 2) (pe_tup (pa_cons (pv 3) (pa_cons (pv 4) pa_nil))) (pv 5) rfl)))
        (pss_cons (ps_for PassesOwn.never rfl (pi_zip (by rfl) T.z_zip (pa_cons (pv 0) (pa_cons (pe_slice sl_list (pv 0) (po_some pe_int) po_none) pa_nil))) (pg_tup (by rfl) (pgs_cons (pg_name (i := 6) sc_shows.nd rfl (Or.inl rfl)) (pgs_cons (pg_name (i := 7) sc_shows.nd rfl (Or.inl rfl)) pgs_nil))) (pss_one (ps_if (pt_cmp (pc_dnotin (hu_of hr) (pe_tup (pa_cons (pe_callB (SH.cMax2 rfl) (by rfl) T.z_max (by decide +kernel) (pa_cons (pv 6) (pa_cons (pv 7) pa_nil))) (pa_cons (pe_callB (SH.cMin2 rfl) (by rfl) T.z_min (by decide +kernel) (pa_cons (pv 6) (pa_cons (pv 7) pa_nil))) pa_nil))) (pv 2)) (by rfl)) (pss_one (ps_ret pe_bl)) pss_nil)))
        (pss_one (ps_ret (SH.pe_callF C_agrees hr (by rfl) pass0 (pa_cons (pv 0) (pa_cons (pv 1) pa_nil)))))))), ?_⟩
  walk_at "begin"
  have hel := isl_len hI
  walk_at "rd"
  intro D hD
  walk_at "rd"
  refine for_it (walk_list (xs := evs)) (fun j σ H' => Stp [] H H' ∧ H' D = some (.dT (kn (log.take j))) ∧ ∃ v3 v4 v5, σ = [some (.ref o), some (.ref l), some (.ref D), v3, v4, v5, none, none]) ⟨(Stp.refl _ _).new hD, upd_same, _, _, _, rfl⟩ (fun _ _ _ _ z => z.1.sql0 hL) ?_ ?_
  · rintro j x σ H1 H2 hj ⟨S, hDj, v3, v4, v5, rfl⟩ ⟨rfl, hx⟩
    obtain ⟨e, t, he, rfl, ht⟩ := isl_ent hI hx
    have ht2 := S.sqtM ht
    walk_at "rd"
    intro t2 ht2'
    refine v_dputT (ks := pk e.a e.b) (upd_old hDj ht2') upd_same (Nat.lt_of_le_of_lt (kn_len _) (by rw [List.length_take]; omega)) ?_
    walk_at "rd"
    refine ⟨(S.new ht2').putN hD, ?_, _, _, _, rfl⟩
    rw [upd_same, List.take_succ, he]
    exact congrArg (fun z => some (HO.dT z)) (by show _ = kn (log.take j ++ [e]); exact kn_app.symm)
  rintro σ H1 ⟨S, hD1, v3, v4, v5, rfl⟩
  rw [List.take_of_length_le (by omega)] at hD1
  have hO1 := S.sql0 hO
  walk_at "rd"
  intro q1 hq1
  rw [cut_from1]
  have S1 := S.new (o := .lst (nv (ord.drop 1))) hq1
  have hq2 := upd_same (H := H1) (a := q1) (o := .lst (nv (ord.drop 1)))
  have hD2 := upd_old (u := .lst (nv (ord.drop 1))) hD1 hq1
  have hO2 := S1.sql0 hO
  generalize upd H1 q1 (.lst (nv (ord.drop 1))) = H2 at S1 hO2 hq2 hD2 ⊢
  clear S hO1 hq1 hD1
  walk_at "rd"
  refine for_it (walk_zip rfl) (fun j σ H' => Stp [] H2 H' ∧ ∃ v3 v4 v5 v6 v7, σ = [some (.ref o), some (.ref l), some (.ref D), v3, v4, v5, v6, v7]) ⟨.refl _ _, _, _, _, _, _, rfl⟩ (fun _ _ _ _ z => ⟨z.1.sql0 hO2, z.1.sql0 (SqL.of hq2)⟩) ?_ ?_
  · rintro j x σ H3 H4 hj ⟨S, v3, v4, v5, v6, v7, rfl⟩ ⟨T0, x0, y0, rfl, hT0, rfl, hx0, hy0⟩
    obtain ⟨u, v, rfl, rfl, hu, hv⟩ := nbs_at hx0 hy0
    have S3 := S.new (o := .tup [.int u, .int v]) hT0
    have hT := upd_same (H := H3) (a := T0) (o := .tup [.int u, .int v])
    generalize upd H3 T0 (.tup [.int u, .int v]) = H4 at S3 hT ⊢
    clear S hT0
    have hD3 := S3.keep0 hD2
    walk_at "rd"
    rw [max_v, min_v]
    intro t2 ht2'
    walk_at "rd"
    refine v_dnotin (ks := pk (max u v) (min u v)) (upd_old hD3 ht2') upd_same ?_
    rw [kn_get (f := fun a b => decide (ord.idxOf a < ord.idxOf b)) (fun e he => (hag e he).2.2) (hnb j u v hu hv)]
    walk_at "rd"
    exact ⟨S3.new ht2', _, _, _, _, _, rfl⟩
  · rintro σ H3 ⟨S, v3, v4, v5, v6, v7, rfl⟩
    have S3 := S1.trans S
    have hO3 := S3.sql0 hO
    have hL3 := S3.sql0 hL
    have hI3 := isl_stp S3 hI
    clear S1 S
    walk_at "rd"
    exact ⟨o, l, ord, evs, log, rfl, ⟨hO3, hL3, hI3, hP, hol, hag⟩, fun H' S4 => k _ (S3.trans S4)⟩
/-! ### put in, one by one: what stands so far -/
def ins (ord : List Nat) (r p : Nat) : List Nat := ord.take r ++ p :: ord.drop r
theorem ins_perm {ord : List Nat} {r p : Nat} : (ins ord r p).Perm (p :: ord) := by
  unfold ins
  exact List.perm_middle.trans (by rw [List.take_append_drop])
theorem v_insN {H : Hp} {Q : VK} {a : Addr} {ps : List Nat} {r p : Nat} (h : H a = some (.lst (nv ps))) (hr : r ≤ ps.length) (hl : ps.length < 1000000) (k : Q .non (upd H a (.lst (nv (ins ps r p))))) : rIns (.ref a) [.int (r : Nat), .int (p : Nat)] H Q := by
  refine w_ins (n := r) h rfl (by omega) (by rw [List.length_map]; exact hl) ?_
  have e : (nv ps).take r ++ [V.int (p : Nat)] ++ (nv ps).drop r = nv (ins ps r p) := by
    unfold ins nv
    rw [List.map_append, List.map_cons, List.map_take, List.map_drop, List.append_assoc]
    rfl
  rw [e]
  exact k
theorem pw_nb {R : Nat → Nat → Prop} {l : List Nat} (h : l.Pairwise R) {i u v : Nat} (hu : l[i]? = some u) (hv : l[i + 1]? = some v) : R u v := by
  obtain ⟨hi, hu⟩ := List.getElem?_eq_some_iff.mp hu
  obtain ⟨hj, hv⟩ := List.getElem?_eq_some_iff.mp hv
  have := List.pairwise_iff_getElem.mp h i (i + 1) hi hj (by omega)
  rwa [hu, hv] at this
theorem ins_at {ord : List Nat} {r p i : Nat} (hr : r ≤ ord.length) : (ins ord r p)[i]? = if i < r then ord[i]? else if i = r then some p else ord[i - 1]? := by
  unfold ins
  have hl : (ord.take r).length = r := by rw [List.length_take]; omega
  by_cases h : i < r
  · rw [if_pos h, List.getElem?_append_left (by omega), List.getElem?_take_of_lt h]
  · rw [if_neg h, List.getElem?_append_right (by omega), hl]
    by_cases e : i = r
    · subst e; rw [if_pos rfl, Nat.sub_self]; rfl
    · rw [if_neg e]
      obtain ⟨d, hd⟩ : ∃ d, i - r = d + 1 := ⟨i - r - 1, by omega⟩
      rw [hd, List.getElem?_cons_succ, List.getElem?_drop]
      congr 1
      omega
/-- put in at a spot that fits: still in order -/
theorem ins_pw {R : Nat → Nat → Prop} {ord : List Nat} {r p : Nat} (h : ord.Pairwise R) (h1 : ∀ o ∈ ord.take r, R o p) (h2 : ∀ o ∈ ord.drop r, R p o) : (ins ord r p).Pairwise R := by
  unfold ins
  rw [← List.take_append_drop r ord, List.pairwise_append] at h
  obtain ⟨a, b, c⟩ := h
  rw [List.pairwise_append]
  refine ⟨a, List.pairwise_cons.mpr ⟨h2, b⟩, fun x hx y hy => ?_⟩
  rcases List.mem_cons.mp hy with rfl | hy
  · exact h1 x hx
  · exact c x hx y hy
def Asked (log : List Ent) (ord : List Nat) : Prop := ∀ (i u v : Nat), ord[i]? = some u → ord[i + 1]? = some v → ∃ e ∈ log, e.a = max u v ∧ e.b = min u v
theorem Asked.ins {log es : List Ent} {ord : List Nat} {r p : Nat} (h : Asked log ord) (hr : r ≤ ord.length) (hlt : ∀ o ∈ ord, o < p) (h1 : 0 < r → ∃ o, ord[r - 1]? = some o ∧ ∃ c, (⟨p, o, c⟩ : Ent) ∈ es) (h2 : r < ord.length → ∃ o, ord[r]? = some o ∧ ∃ c, (⟨p, o, c⟩ : Ent) ∈ es) : Asked (log ++ es) (ins ord r p) := by
  intro i u v hu hv
  rw [ins_at hr] at hu hv
  by_cases c1 : i + 1 < r
  · rw [if_pos (by omega)] at hu
    rw [if_pos c1] at hv
    obtain ⟨e, he, q⟩ := h i u v hu hv
    exact ⟨e, List.mem_append_left _ he, q⟩
  · rw [if_neg c1] at hv
    by_cases c2 : i + 1 = r
    · rw [if_pos c2] at hv
      rw [if_pos (by omega)] at hu
      cases hv
      obtain ⟨o, ho, c, he⟩ := h1 (by omega)
      rw [show r - 1 = i by omega, hu] at ho
      cases ho
      have := hlt u (List.mem_of_getElem? hu)
      exact ⟨_, List.mem_append_right _ he, by show p = max u p; omega, by show u = min u p; omega⟩
    · rw [if_neg c2] at hv
      rw [if_neg (by omega)] at hu
      rw [Nat.add_sub_cancel] at hv
      by_cases c3 : i = r
      · rw [if_pos c3] at hu
        cases hu
        subst c3
        obtain ⟨o, ho, c, he⟩ := h2 (List.getElem?_eq_some_iff.mp hv).1
        rw [hv] at ho
        cases ho
        have := hlt v (List.mem_of_getElem? hv)
        exact ⟨_, List.mem_append_right _ he, by show p = max p v; omega, by show v = min p v; omega⟩
      · rw [if_neg c3] at hu
        obtain ⟨e, he, q⟩ := h (i - 1) u v hu (by rw [show i - 1 + 1 = i by omega]; exact hv)
        exact ⟨e, List.mem_append_left _ he, q⟩
/-- what stands so far -/
structure Sofar (ks : List Int) (p : Nat) (ord : List Nat) (log : List Ent) : Prop where
  perm : ord.Perm (List.range p)
  pw : ord.Pairwise (Ahd ks)
  ask : Asked log ord
  ent : ∀ e ∈ log, e.b < e.a ∧ e.a < p
theorem Sofar.lt {ks : List Int} {p : Nat} {ord : List Nat} {log : List Ent} (h : Sofar ks p ord log) {o : Nat} (ho : o ∈ ord) : o < p := List.mem_range.mp (h.perm.mem_iff.mp ho)
theorem Sofar.len {ks : List Int} {p : Nat} {ord : List Nat} {log : List Ent} (h : Sofar ks p ord log) : ord.length = p := by have := h.perm.length_eq; rwa [List.length_range] at this
theorem Sofar.put {ks : List Int} {p r : Nat} {ord : List Nat} {log es : List Ent} (h : Sofar ks p ord log) (hr : r ≤ ord.length) (h1 : ∀ o ∈ ord.take r, ¬ getE ks p < getE ks o) (h2 : ∀ o ∈ ord.drop r, getE ks p < getE ks o)
    (he : ∀ e ∈ es, e.a = p ∧ e.b ∈ ord) (n1 : 0 < r → ∃ o, ord[r - 1]? = some o ∧ ∃ c, (⟨p, o, c⟩ : Ent) ∈ es) (n2 : r < ord.length → ∃ o, ord[r]? = some o ∧ ∃ c, (⟨p, o, c⟩ : Ent) ∈ es) : Sofar ks (p + 1) (ins ord r p) (log ++ es) := by
  refine ⟨?_, ins_pw h.pw (fun o ho => ?_) (fun o ho => ?_), h.ask.ins hr (fun o ho => h.lt ho) n1 n2, fun e hm => ?_⟩
  · rw [List.range_succ]
    exact ins_perm.trans ((h.perm.cons p).trans (List.perm_append_singleton p _).symm)
  · have := h.lt (List.mem_of_mem_take ho)
    have := h1 o ho
    unfold Ahd
    omega
  · have := h2 o ho
    unfold Ahd
    omega
  · rcases List.mem_append.mp hm with hm | hm
    · have := h.ent e hm; omega
    · obtain ⟨q1, q2⟩ := he e hm
      have := h.lt q2
      omega
theorem sofar0 {ks : List Int} : Sofar ks 0 [] [] := ⟨.refl _, .nil, fun i u v hu => by simp at hu, by simp⟩
/-- how many stand behind the spot -/
theorem behind_spot {ks : List Int} {p r : Nat} {ord : List Nat} {log : List Ent} (h : Sofar ks p ord log) (hr : r ≤ ord.length) (h1 : ∀ o ∈ ord.take r, ¬ getE ks p < getE ks o) (h2 : ∀ o ∈ ord.drop r, getE ks p < getE ks o) : ((List.range p).filter fun o => decide (getE ks p < getE ks o)).length = ord.length - r := by
  rw [(h.perm.symm.filter _).length_eq]
  rw [← List.take_append_drop r ord, List.filter_append, List.filter_eq_nil_iff.mpr (fun o ho => by simpa using h1 o ho), List.filter_eq_self.mpr (fun o ho => by simpa using h2 o ho), List.nil_append, List.length_drop, List.take_append_drop]
/-- the asks of a place in the paper: idxOf -/
theorem idx_of {ks : List Int} {n : Nat} {ord : List Nat} (hp : ord.Perm (List.range n)) (hs : ord.Pairwise (Ahd ks)) {a b : Nat} (ha : a < n) (hb : b < n) (hne : b < a) : decide (ord.idxOf a < ord.idxOf b) = decide (getE ks a < getE ks b) := by
  have key : ∀ x, x < n → ∃ hx : ord.idxOf x < ord.length, ord[ord.idxOf x] = x := fun x hx => by
    have hm : x ∈ ord := hp.mem_iff.mpr (List.mem_range.mpr hx)
    exact ⟨List.idxOf_lt_length_of_mem hm, by simp⟩
  obtain ⟨xa, ea⟩ := key a ha
  obtain ⟨xb, eb⟩ := key b hb
  have pw := List.pairwise_iff_getElem.mp hs
  refine decide_eq_decide.mpr ⟨fun h => ?_, fun h => ?_⟩
  · have := pw _ _ xa xb h
    rw [ea, eb] at this
    unfold Ahd at this
    omega
  · apply Classical.byContradiction
    intro z
    by_cases e : ord.idxOf a = ord.idxOf b
    · have : a = b := by rw [← ea, ← eb]; congr 1
      omega
    · have := pw _ _ xb xa (by omega)
      rw [ea, eb] at this
      unfold Ahd at this
      omega
/-! ### putting in: what it asks, by keys -/
/-- the places from p on put in, each at its spot by halving -/
inductive PO (n : Nat) : Nat → List Nat → List Ent → List Nat → Prop
  | done {p : Nat} {ord : List Nat} (h : n ≤ p) : PO n p ord [] ord
  | put {p r : Nat} {ord res : List Nat} {es1 es : List Ent} (h : p < n) (k : Halv ord p 0 ord.length es1 r) (kk : PO n (p + 1) (ins ord r p) es res) : PO n p ord (es1 ++ es) res
theorem Halv.bd {ord : List Nat} {p lo hi r : Nat} {es : List Ent} (h : Halv ord p lo hi es r) : lo ≤ hi → lo ≤ r ∧ r ≤ hi ∧ es.length ≤ hi - lo := by
  induction h with
  | done low => intro _; simp
  | @up low high o es spot h ho k ih => intro _; have := ih (by omega); rw [List.length_cons]; omega
  | @down low high o es spot h ho k ih => intro _; have := ih (by omega); rw [List.length_cons]; omega
theorem Halv.ends {ord : List Nat} {p lo hi r : Nat} {es : List Ent} (h : Halv ord p lo hi es r) (hlt : ∀ o ∈ ord, o < p) : (r = lo ∨ ∃ o, ord[r - 1]? = some o ∧ (⟨p, o, false⟩ : Ent) ∈ es) ∧ (r = hi ∨ ∃ o, ord[r]? = some o ∧ (⟨p, o, true⟩ : Ent) ∈ es) := by
  induction h with
  | done low => exact ⟨.inl rfl, .inl rfl⟩
  | @up low high o es spot h ho k ih =>
    have hop := hlt _ (List.mem_of_getElem? ho)
    obtain ⟨a, b⟩ := ih
    refine ⟨.inr ?_, b.imp id fun ⟨o', h1, h2⟩ => ⟨o', h1, List.mem_cons_of_mem _ h2⟩⟩
    rcases a with a | ⟨o', h1, h2⟩
    · subst a
      refine ⟨o, by rw [Nat.add_sub_cancel]; exact ho, ?_⟩
      rw [show (⟨p, o, false⟩ : Ent) = ⟨max o p, min o p, decide (p < o)⟩ by rw [Nat.max_eq_right (by omega), Nat.min_eq_left (by omega), decide_eq_false (by omega : ¬ p < o)]]
      exact List.mem_cons_self ..
    · exact ⟨o', h1, List.mem_cons_of_mem _ h2⟩
  | @down low high o es spot h ho k ih =>
    have hop := hlt _ (List.mem_of_getElem? ho)
    obtain ⟨a, b⟩ := ih
    refine ⟨a.imp id fun ⟨o', h1, h2⟩ => ⟨o', h1, List.mem_cons_of_mem _ h2⟩, .inr ?_⟩
    rcases b with b | ⟨o', h1, h2⟩
    · subst b
      refine ⟨o, ho, ?_⟩
      rw [show (⟨p, o, true⟩ : Ent) = ⟨max o p, min o p, !decide (p < o)⟩ by rw [Nat.max_eq_right (by omega), Nat.min_eq_left (by omega), decide_eq_false (by omega : ¬ p < o)]; rfl]
      exact List.mem_cons_self ..
    · exact ⟨o', h1, List.mem_cons_of_mem _ h2⟩
theorem Halv.ent {ord : List Nat} {p lo hi r : Nat} {es : List Ent} (h : Halv ord p lo hi es r) (hlt : ∀ o ∈ ord, o < p) : ∀ e ∈ es, e.a = p ∧ e.b ∈ ord := by
  induction h with
  | done low => simp
  | @up low high o es spot h ho k ih =>
    have hop := hlt _ (List.mem_of_getElem? ho)
    intro e he
    rcases List.mem_cons.mp he with rfl | he
    · exact ⟨by show max o p = p; omega, by show min o p ∈ ord; rw [Nat.min_eq_left (by omega)]; exact List.mem_of_getElem? ho⟩
    · exact ih e he
  | @down low high o es spot h ho k ih =>
    have hop := hlt _ (List.mem_of_getElem? ho)
    intro e he
    rcases List.mem_cons.mp he with rfl | he
    · exact ⟨by show max o p = p; omega, by show min o p ∈ ord; rw [Nat.min_eq_left (by omega)]; exact List.mem_of_getElem? ho⟩
    · exact ih e he
theorem Halv.uniq {f : Nat → Nat → Bool} {ord : List Nat} {p lo hi r r' : Nat} {es es' : List Ent} (h : Halv ord p lo hi es r) (h' : Halv ord p lo hi es' r') (hT : ∀ e ∈ es, e.c = f e.a e.b) (hT' : ∀ e ∈ es', e.c = f e.a e.b) : es = es' ∧ r = r' := by
  induction h generalizing es' with
  | done low =>
    cases h' with
    | done => exact ⟨rfl, rfl⟩
    | up h _ _ => omega
    | down h _ _ => omega
  | @up low high o es spot h ho k ih =>
    have t1 := hT _ (List.mem_cons_self ..)
    cases h' with
    | done => omega
    | up h2 ho2 k2 =>
      rw [ho] at ho2; cases ho2
      obtain ⟨rfl, rfl⟩ := ih k2 (fun e he => hT e (List.mem_cons_of_mem _ he)) fun e he => hT' e (List.mem_cons_of_mem _ he)
      exact ⟨rfl, rfl⟩
    | down h2 ho2 k2 =>
      rw [ho] at ho2; cases ho2
      have t2 := hT' _ (List.mem_cons_self ..)
      dsimp only at t1 t2
      rw [← t1] at t2
      exact absurd t2 (by cases decide (p < o) <;> decide)
  | @down low high o es spot h ho k ih =>
    have t1 := hT _ (List.mem_cons_self ..)
    cases h' with
    | done => omega
    | down h2 ho2 k2 =>
      rw [ho] at ho2; cases ho2
      obtain ⟨rfl, rfl⟩ := ih k2 (fun e he => hT e (List.mem_cons_of_mem _ he)) fun e he => hT' e (List.mem_cons_of_mem _ he)
      exact ⟨rfl, rfl⟩
    | up h2 ho2 k2 =>
      rw [ho] at ho2; cases ho2
      have t2 := hT' _ (List.mem_cons_self ..)
      dsimp only at t1 t2
      rw [← t1] at t2
      exact absurd t2 (by cases decide (p < o) <;> decide)
theorem Halv.take {ks : List Int} {p r : Nat} {ord : List Nat} {log es : List Ent} (h : Sofar ks p ord log) (hw : Halv ord p 0 ord.length es r) (hT : ∀ e ∈ es, e.c = decide (getE ks e.a < getE ks e.b)) :
    (∀ o ∈ ord.take r, ¬ getE ks p < getE ks o) ∧ (∀ o ∈ ord.drop r, getE ks p < getE ks o) := by
  have hlt : ∀ o ∈ ord, o < p := fun o ho => h.lt ho
  obtain ⟨_, a, b⟩ := hw.spot hT (fun o ho => by have := hlt o ho; omega) (fun i j x y hij hx hy hA => by
    obtain ⟨hi, hx⟩ := List.getElem?_eq_some_iff.mp hx
    obtain ⟨hj, hy⟩ := List.getElem?_eq_some_iff.mp hy
    have := List.pairwise_iff_getElem.mp h.pw i j hi hj hij
    rw [hx, hy] at this
    exact this.trans hA) (Nat.zero_le _) (Nat.le_refl _) (fun i x hi => by omega) (fun i x hi hx => by have := (List.getElem?_eq_some_iff.mp hx).1; omega)
  refine ⟨fun o ho => ?_, fun o ho => ?_⟩
  · obtain ⟨i, hi, e⟩ := List.getElem_of_mem ho
    rw [List.length_take] at hi
    rw [List.getElem_take] at e
    have := a i o (by omega) (by rw [List.getElem?_eq_getElem (by omega), e])
    have := hlt o (List.mem_of_mem_take ho)
    unfold Ahd at *
    omega
  · obtain ⟨i, hi, e⟩ := List.getElem_of_mem ho
    rw [List.length_drop] at hi
    rw [List.getElem_drop] at e
    have := b (r + i) o (by omega) (by rw [List.getElem?_eq_getElem (by omega), e])
    have := hlt o (List.mem_of_mem_drop ho)
    unfold Ahd at *
    omega
theorem Sofar.put2 {ks : List Int} {p r : Nat} {ord : List Nat} {log es : List Ent} (h : Sofar ks p ord log) (hw : Halv ord p 0 ord.length es r) (hT : ∀ e ∈ es, e.c = decide (getE ks e.a < getE ks e.b)) : Sofar ks (p + 1) (ins ord r p) (log ++ es) := by
  have hlt : ∀ o ∈ ord, o < p := fun o ho => h.lt ho
  obtain ⟨h1, h2⟩ := Halv.take h hw hT
  obtain ⟨n1, n2⟩ := hw.ends hlt
  have hb := hw.bd (Nat.zero_le _)
  exact h.put hb.2.1 h1 h2 (hw.ent hlt) (fun z => by rcases n1 with n1 | ⟨o, a, b⟩; omega; exact ⟨o, a, _, b⟩) (fun z => by rcases n2 with n2 | ⟨o, a, b⟩; omega; exact ⟨o, a, _, b⟩)
theorem PO.sofar {ks : List Int} {n p : Nat} {ord res : List Nat} {log es : List Ent} (hw : PO n p ord es res) (h : Sofar ks p ord log) (hp : p ≤ n) (hT : ∀ e ∈ es, e.c = decide (getE ks e.a < getE ks e.b)) : Sofar ks n res (log ++ es) := by
  induction hw generalizing log with
  | @done p ord hh => rw [List.append_nil, show n = p by omega]; exact h
  | @put p r ord res es1 es hh k kk ih =>
    rw [← List.append_assoc]
    exact ih (h.put2 k fun e he => hT e (List.mem_append_left _ he)) (by omega) fun e he => hT e (List.mem_append_right _ he)
theorem PO.uniq {f : Nat → Nat → Bool} {n p : Nat} {ord res res' : List Nat} {es es' : List Ent} (h : PO n p ord es res) (h' : PO n p ord es' res') (hT : ∀ e ∈ es, e.c = f e.a e.b) (hT' : ∀ e ∈ es', e.c = f e.a e.b) : es = es' ∧ res = res' := by
  induction h generalizing es' with
  | @done p ord hh =>
    cases h' with
    | done => exact ⟨rfl, rfl⟩
    | put h _ _ => omega
  | @put p r ord res es1 es hh k kk ih =>
    cases h' with
    | done => omega
    | put h2 k2 kk2 =>
      obtain ⟨rfl, rfl⟩ := k.uniq k2 (fun e he => hT e (List.mem_append_left _ he)) fun e he => hT' e (List.mem_append_left _ he)
      obtain ⟨rfl, rfl⟩ := ih kk2 (fun e he => hT e (List.mem_append_right _ he)) fun e he => hT' e (List.mem_append_right _ he)
      exact ⟨rfl, rfl⟩
/-- the bits of all numbers below -/
def bsum (n : Nat) : Nat := ((List.range n).map fun k => Builtin.Int.intBits ((k : Nat) : Int)).sum
theorem bsum_succ {n : Nat} : bsum (n + 1) = bsum n + Builtin.Int.intBits ((n : Nat) : Int) := by
  unfold bsum
  rw [List.range_succ, List.map_append, List.sum_append]
  simp
theorem bsum_mono {m n : Nat} (h : m ≤ n) : bsum m ≤ bsum n := by
  induction n with
  | zero => rw [show m = 0 by omega]; exact Nat.le_refl _
  | succ n ih =>
    by_cases e : m = n + 1
    · subst e; exact Nat.le_refl _
    · have := ih (by omega); rw [bsum_succ]; omega
theorem PO.few {n p : Nat} {ord res : List Nat} {es : List Ent} (h : PO n p ord es res) (hl : ord.length = p) (hp : p ≤ n) : es.length + bsum p ≤ bsum n := by
  induction h with
  | @done p ord hh => simpa using bsum_mono hp
  | @put p r ord res es1 es hh k kk ih =>
    have h1 := k.few
    have h2 := k.bd (Nat.zero_le _)
    have h3 := ih (by rw [ins_perm.length_eq, List.length_cons, hl]) (by omega)
    rw [bsum_succ] at h3
    rw [Nat.sub_zero, hl] at h1
    rw [List.length_append]
    omega
theorem bsum_int (m : Nat) : ((List.range m).map fun k => ((Builtin.Int.intBits ((k + 1 : Nat) : Int) : Nat) : Int)).sum = (bsum (m + 1) : Nat) := by
  induction m with
  | zero => rfl
  | succ m ih =>
    rw [List.range_succ, List.map_append, List.sum_append, ih, bsum_succ (n := m + 1)]
    simp
/-! ### put in within a reach -/
/-- the ask ahead of the last places -/
inductive Pre1 (r p : Nat) (ord : List Nat) : List Ent → Prop
  | none (h : ord.length ≤ r) : Pre1 r p ord []
  | one {o : Nat} (h : r < ord.length) (ho : ord[ord.length - r - 1]? = some o) : Pre1 r p ord [⟨p, o, false⟩]
/-- places put in one by one, none past more than r others; or the first that would be -/
inductive RO (n r : Nat) : Nat → List Nat → List Ent → (List Nat ⊕ (Nat × List Nat)) → Prop
  | done {p : Nat} {ord : List Nat} (h : n ≤ p) : RO n r p ord [] (.inl ord)
  | far {p o : Nat} {ord : List Nat} (h : p < n) (hr : r < ord.length) (ho : ord[ord.length - r - 1]? = some o) : RO n r p ord [⟨p, o, true⟩] (.inr (p, ord))
  | put {p t : Nat} {ord : List Nat} {es0 es1 es : List Ent} {res : List Nat ⊕ (Nat × List Nat)} (h : p < n) (k0 : Pre1 r p ord es0) (k : Halv (ord.drop (ord.length - r)) p 0 (ord.drop (ord.length - r)).length es1 t) (kk : RO n r (p + 1) (ins ord (ord.length - r + t) p) es res) : RO n r p ord (es0 ++ es1 ++ es) res
/-- how many ahead in the row have a greater key -/
def crs (ks : List Int) (p : Nat) : Nat := ((List.range p).filter fun o => decide (getE ks p < getE ks o)).length
theorem drop_pw {ks : List Int} {ord : List Nat} (h : ord.Pairwise (Ahd ks)) {i j a b : Nat} (hij : i < j) (ha : ord[i]? = some a) (hb : ord[j]? = some b) : Ahd ks a b := by
  obtain ⟨hi, ha⟩ := List.getElem?_eq_some_iff.mp ha
  obtain ⟨hj, hb⟩ := List.getElem?_eq_some_iff.mp hb
  have := List.pairwise_iff_getElem.mp h i j hi hj hij
  rwa [ha, hb] at this
theorem mem_at {l : List Nat} {o : Nat} (h : o ∈ l) : ∃ i : Nat, l[i]? = some o := by
  obtain ⟨i, hi, e⟩ := List.getElem_of_mem h
  exact ⟨i, by rw [List.getElem?_eq_getElem hi, e]⟩
/-- a place put in within its reach: what stands so far -/
theorem Sofar.reach {ks : List Int} {p r t : Nat} {ord : List Nat} {log es0 es1 : List Ent} (h : Sofar ks p ord log) (k0 : Pre1 r p ord es0) (k : Halv (ord.drop (ord.length - r)) p 0 (ord.drop (ord.length - r)).length es1 t)
    (hT0 : ∀ e ∈ es0, e.c = decide (getE ks e.a < getE ks e.b)) (hT : ∀ e ∈ es1, e.c = decide (getE ks e.a < getE ks e.b)) : Sofar ks (p + 1) (ins ord (ord.length - r + t) p) (log ++ (es0 ++ es1)) ∧ crs ks p ≤ r ∧ ord.length - r + t ≤ ord.length := by
  have hlt : ∀ o ∈ ord, o < p := fun o ho => h.lt ho
  have hb := k.bd (Nat.zero_le _)
  rw [List.length_drop] at hb
  have hdl : ∀ o ∈ ord.drop (ord.length - r), o < p := fun o ho => hlt o (List.mem_of_mem_drop ho)
  obtain ⟨s1, s2, s3⟩ := k.spot hT (fun o ho => by have := hdl o ho; omega) (fun i j x y hij hx hy hA => by
    rw [List.getElem?_drop] at hx hy
    exact (drop_pw h.pw (by omega) hx hy).trans hA) (Nat.zero_le _) (Nat.le_refl _) (fun i x hi => by omega) (fun i x hi hx => by have := (List.getElem?_eq_some_iff.mp hx).1; omega)
  have hfst : ∀ o ∈ ord.take (ord.length - r), ¬ getE ks p < getE ks o := fun o ho => by
    obtain ⟨i, hi⟩ := mem_at ho
    have hil := (List.getElem?_eq_some_iff.mp hi).1
    rw [List.length_take] at hil
    cases k0 with
    | none hh => omega
    | @one o0 hh ho0 =>
      have t0 := hT0 _ (List.mem_singleton.mpr rfl)
      have t0 : ¬ getE ks p < getE ks o0 := by simpa using t0
      rw [List.getElem?_take_of_lt (by omega)] at hi
      by_cases e : i = ord.length - r - 1
      · rw [e, ho0] at hi
        cases hi
        exact t0
      · have := drop_pw h.pw (show i < ord.length - r - 1 by omega) hi ho0
        unfold Ahd at this
        omega
  have h1 : ∀ o ∈ ord.take (ord.length - r + t), ¬ getE ks p < getE ks o := fun o ho => by
    rw [List.take_add] at ho
    rcases List.mem_append.mp ho with ho | ho
    · exact hfst o ho
    · obtain ⟨i, hi⟩ := mem_at ho
      have hil := (List.getElem?_eq_some_iff.mp hi).1
      rw [List.length_take] at hil
      rw [List.getElem?_take_of_lt (by omega)] at hi
      have a := s2 i o (by omega) hi
      have := hdl o (List.mem_of_getElem? hi)
      unfold Ahd at a
      omega
  have h2 : ∀ o ∈ ord.drop (ord.length - r + t), getE ks p < getE ks o := fun o ho => by
    rw [← List.drop_drop] at ho
    obtain ⟨i, hi⟩ := mem_at ho
    rw [List.getElem?_drop] at hi
    have a := s3 (t + i) o (by omega) hi
    have := hdl o (List.mem_of_getElem? hi)
    unfold Ahd at a
    omega
  obtain ⟨n1, n2⟩ := k.ends hdl
  refine ⟨h.put (by omega) h1 h2 (fun e he => ?_) (fun z => ?_) (fun z => ?_), ?_, by omega⟩
  · rcases List.mem_append.mp he with he | he
    · cases k0 with
      | none hh => cases he
      | one hh ho0 =>
        rw [List.mem_singleton] at he
        subst he
        exact ⟨rfl, List.mem_of_getElem? ho0⟩
    · obtain ⟨q1, q2⟩ := k.ent hdl e he
      exact ⟨q1, List.mem_of_mem_drop q2⟩
  · rcases n1 with n1 | ⟨o, a, b⟩
    · subst n1
      cases k0 with
      | none hh => omega
      | @one o0 hh ho0 => exact ⟨o0, by rw [Nat.add_zero]; exact ho0, false, List.mem_append_left _ (List.mem_singleton.mpr rfl)⟩
    · rw [List.getElem?_drop] at a
      by_cases ht : t = 0
      · subst ht
        cases k0 with
        | none hh => omega
        | @one o0 hh ho0 => exact ⟨o0, by rw [Nat.add_zero]; exact ho0, false, List.mem_append_left _ (List.mem_singleton.mpr rfl)⟩
      · exact ⟨o, by rw [← a]; congr 1; omega, false, List.mem_append_right _ b⟩
  · rcases n2 with n2 | ⟨o, a, b⟩
    · rw [List.length_drop] at n2
      omega
    · rw [List.getElem?_drop] at a
      exact ⟨o, a, true, List.mem_append_right _ b⟩
  · have := behind_spot h (show ord.length - r + t ≤ ord.length by omega) h1 h2
    unfold crs
    rw [this]
    omega
theorem told_app {f : Ent → Bool} {a b : List Ent} (h : ∀ e ∈ a ++ b, e.c = f e) : (∀ e ∈ a, e.c = f e) ∧ ∀ e ∈ b, e.c = f e := ⟨fun e he => h e (List.mem_append_left _ he), fun e he => h e (List.mem_append_right _ he)⟩
theorem RO.paper {ks : List Int} {n r p : Nat} {ord res : List Nat} {es : List Ent} {out : List Nat ⊕ (Nat × List Nat)} (hw : RO n r p ord es out) (ho : out = .inl res) {log : List Ent} (h : Sofar ks p ord log) (hp : p ≤ n) (hT : ∀ e ∈ es, e.c = decide (getE ks e.a < getE ks e.b)) : Sofar ks n res (log ++ es) ∧ ∀ q, p ≤ q → q < n → crs ks q ≤ r := by
  induction hw generalizing log with
  | @done p ord hh =>
    cases ho
    rw [List.append_nil, show n = p by omega]
    exact ⟨h, fun q a b => by omega⟩
  | far => cases ho
  | @put p t ord es0 es1 es out hh k0 k kk ih =>
    obtain ⟨t1, t2⟩ := told_app (f := fun e => decide (getE ks e.a < getE ks e.b)) hT
    obtain ⟨t3, t4⟩ := told_app (f := fun e => decide (getE ks e.a < getE ks e.b)) t1
    obtain ⟨s1, s2, s3⟩ := h.reach k0 k t3 t4
    obtain ⟨i1, i2⟩ := ih ho s1 (by omega) t2
    rw [← List.append_assoc]
    refine ⟨i1, fun q a b => ?_⟩
    by_cases e : q = p
    · subst e; exact s2
    · exact i2 q (by omega) b
theorem RO.over {ks : List Int} {n r p q : Nat} {ord ord' : List Nat} {es : List Ent} {out : List Nat ⊕ (Nat × List Nat)} (hw : RO n r p ord es out) (ho : out = .inr (q, ord')) {log : List Ent} (h : Sofar ks p ord log) (hT : ∀ e ∈ es, e.c = decide (getE ks e.a < getE ks e.b)) :
    (∃ log', Sofar ks q ord' log') ∧ p ≤ q ∧ q < n ∧ (∀ j, p ≤ j → j < q → crs ks j ≤ r) ∧ r < ord'.length ∧ (∀ x ∈ ord'.drop (ord'.length - r - 1), getE ks q < getE ks x) ∧ (∀ e ∈ es, e.b < e.a ∧ e.a ≤ q) := by
  induction hw generalizing log with
  | done => cases ho
  | @far p o ord hh hr ho' =>
    cases ho
    have t0 : getE ks q < getE ks o := by simpa using hT _ (List.mem_singleton.mpr rfl)
    refine ⟨⟨_, h⟩, Nat.le_refl _, hh, fun j a b => by omega, hr, fun x hx => ?_, fun e he => ?_⟩
    · obtain ⟨i, hi⟩ := mem_at hx
      rw [List.getElem?_drop] at hi
      by_cases e : i = 0
      · subst e
        rw [Nat.add_zero, ho'] at hi
        cases hi
        exact t0
      · have := drop_pw h.pw (show ord'.length - r - 1 < ord'.length - r - 1 + i by omega) ho' hi
        unfold Ahd at this
        omega
    · rw [List.mem_singleton] at he
      subst he
      exact ⟨h.lt (List.mem_of_getElem? ho'), Nat.le_refl _⟩
  | @put p t ord es0 es1 es out hh k0 k kk ih =>
    obtain ⟨t1, t2⟩ := told_app (f := fun e => decide (getE ks e.a < getE ks e.b)) hT
    obtain ⟨t3, t4⟩ := told_app (f := fun e => decide (getE ks e.a < getE ks e.b)) t1
    obtain ⟨s1, s2, s3⟩ := h.reach k0 k t3 t4
    obtain ⟨i1, i2, i3, i4, i5, i6, i7⟩ := ih ho s1 t2
    refine ⟨i1, by omega, i3, fun j a b => ?_, i5, i6, fun e he => ?_⟩
    · by_cases e : j = p
      · subst e; exact s2
      · exact i4 j (by omega) b
    · rcases List.mem_append.mp he with he | he
      · have := s1.ent e (List.mem_append_right _ he)
        omega
      · exact i7 e he
/-- more than the reach stand behind -/
theorem over_crs {ks : List Int} {q r : Nat} {ord log} (h : Sofar ks q ord log) (hr : r < ord.length) (hx : ∀ x ∈ ord.drop (ord.length - r - 1), getE ks q < getE ks x) : r < crs ks q := by
  unfold crs
  have e : ((ord.drop (ord.length - r - 1)).filter fun o => decide (getE ks q < getE ks o)) = ord.drop (ord.length - r - 1) := List.filter_eq_self.mpr (fun o ho => by simpa using hx o ho)
  rw [(h.perm.symm.filter _).length_eq, ← List.take_append_drop (ord.length - r - 1) ord, List.filter_append, List.length_append, e, List.length_drop]
  omega
/-- no place is asked about more often than once and the reach's bits -/
def cntA (es : List Ent) (a : Nat) : Nat := (es.filter fun e => decide (e.a = a)).length
theorem cntA_app (es fs : List Ent) (a : Nat) : cntA (es ++ fs) a = cntA es a + cntA fs a := by unfold cntA; rw [List.filter_append, List.length_append]
theorem cntA_le (es : List Ent) (a : Nat) : cntA es a ≤ es.length := List.length_filter_le _ _
theorem cntA_no {es : List Ent} {a : Nat} (h : ∀ e ∈ es, e.a ≠ a) : cntA es a = 0 := by
  unfold cntA
  rw [List.filter_eq_nil_iff.mpr (fun e he => by simpa using h e he)]
  rfl
theorem Pre1.one_or {r p : Nat} {ord : List Nat} {es0 : List Ent} (h : Pre1 r p ord es0) : es0.length ≤ 1 ∧ ∀ e ∈ es0, e.a = p := by
  cases h with
  | none hh => exact ⟨by simp, fun e he => (by cases he)⟩
  | one hh ho => exact ⟨by simp, fun e he => by rw [List.mem_singleton] at he; subst he; rfl⟩
theorem RO.few {n r p : Nat} {ord : List Nat} {es : List Ent} {out : List Nat ⊕ (Nat × List Nat)} (hw : RO n r p ord es out) (hlt : ∀ o ∈ ord, o < p) : (∀ e ∈ es, p ≤ e.a) ∧ ∀ a, cntA es a ≤ 1 + Builtin.Int.intBits (r : Nat) := by
  induction hw with
  | done => exact ⟨fun e he => (by cases he), fun a => by show 0 ≤ _; omega⟩
  | @far p o ord hh hr ho =>
    refine ⟨fun e he => by rw [List.mem_singleton] at he; subst he; exact Nat.le_refl _, fun a => ?_⟩
    have := cntA_le [(⟨p, o, true⟩ : Ent)] a
    simp at this
    omega
  | @put p t ord es0 es1 es out hh k0 k kk ih =>
    have hdl : ∀ o ∈ ord.drop (ord.length - r), o < p := fun o ho => hlt o (List.mem_of_mem_drop ho)
    obtain ⟨i1, i2⟩ := ih (fun o ho => by
      rcases List.mem_cons.mp (ins_perm.mem_iff.mp ho) with rfl | ho
      · omega
      · have := hlt o ho; omega)
    obtain ⟨c1, c2⟩ := k0.one_or
    have h1 := k.ent hdl
    refine ⟨fun e he => ?_, fun a => ?_⟩
    · rcases List.mem_append.mp he with he | he
      · rcases List.mem_append.mp he with he | he
        · rw [c2 e he]; exact Nat.le_refl _
        · rw [(h1 e he).1]; exact Nat.le_refl _
      · have := i1 e he; omega
    · rw [cntA_app, cntA_app]
      by_cases e : a = p
      · subst e
        rw [cntA_no (es := es) fun e he => by have := i1 e he; omega]
        have h2 := k.few
        have h3 := cntA_le es0 a
        have h4 := cntA_le es1 a
        have h5 := bits_mono (show (ord.drop (ord.length - r)).length - 0 ≤ r by rw [List.length_drop]; omega)
        omega
      · rw [cntA_no (es := es0) fun e' he => by rw [c2 e' he]; exact fun z => e z.symm, cntA_no (es := es1) fun e' he => by rw [(h1 e' he).1]; exact fun z => e z.symm]
        have := i2 a
        omega
theorem RO.len {n r p : Nat} {ord : List Nat} {es : List Ent} {out : List Nat ⊕ (Nat × List Nat)} (hw : RO n r p ord es out) (hol : ord.length = p) (hp : p ≤ n) : es.length ≤ (n - p) * (n + 1) := by
  induction hw with
  | done => simp
  | @far p o ord hh hr ho =>
    have : 1 * 1 ≤ (n - p) * (n + 1) := Nat.mul_le_mul (by omega) (by omega)
    simpa using this
  | @put p t ord es0 es1 es out hh k0 k kk ih =>
    have h1 := ih (by rw [ins_perm.length_eq, List.length_cons, hol]) (by omega)
    have h2 := k.bd (Nat.zero_le _)
    rw [List.length_drop] at h2
    have h3 := k0.one_or.1
    rw [List.length_append, List.length_append]
    have e : n - p = (n - (p + 1)) + 1 := by omega
    rw [e, Nat.add_mul]
    omega
theorem Halv.turn {ord : List Nat} {p low high r : Nat} {es : List Ent} (h : Halv ord p low high es r) (hlt : ∀ o ∈ ord, o < p) : (low = high ∧ es = [] ∧ r = low) ∨ (low < high ∧ ∃ (o : Nat) (c : Bool) (es' : List Ent), ord[(low + high) / 2]? = some o ∧ es = ⟨p, o, c⟩ :: es' ∧ Halv ord p (if c then low else (low + high) / 2 + 1) (if c then (low + high) / 2 else high) es' r) := by
  cases h with
  | done => exact .inl ⟨rfl, rfl, rfl⟩
  | @up _ _ o es spot h ho k =>
    have hop := hlt _ (List.mem_of_getElem? ho)
    exact .inr ⟨h, o, false, es, ho, by rw [Nat.max_eq_right (by omega), Nat.min_eq_left (by omega), decide_eq_false (by omega : ¬ p < o)], k⟩
  | @down _ _ o es spot h ho k =>
    have hop := hlt _ (List.mem_of_getElem? ho)
    exact .inr ⟨h, o, true, es, ho, by rw [Nat.max_eq_right (by omega), Nat.min_eq_left (by omega), decide_eq_false (by omega : ¬ p < o)]; rfl, k⟩
/-! ### by reach, walked -/
def sp_TooFar___init__ (K : PySem.W.Frag) (A : Ad) : Sp := fun vs H Q _ => ∃ (a : Addr) (v : V) (l : Addr) (xs : List V), vs = [.ref a, v, .ref l] ∧ (H a = some (exo a A.TooFar none) ∧ H l = some (.lst xs) ∧ xs.length ≤ 1000) ∧
  ∀ dx m, H dx = none → dx ≠ a → H m = none → m ≠ dx → m ≠ a → Q .non (upd (upd (upd (upd H dx (exd dx [("place", v)])) a (exo a A.TooFar (some dx))) m (.lst xs)) dx (exd dx [("others", .ref m), ("place", v)]))
theorem ok_TooFar___init__ {P : Program} {w : World} {K : PySem.W.Frag} {mg : Str → Option Value} {base : Heap} {A : Ad} {f : Addr} {fd : FuncData} (F : Fun K "__init__" "TooFar.__init__" s_TooFar___init__ f fd) (T : Txt K mg A)  : FnOk P w K mg base CX0 1 f fd ["self", "place", "others"] (sp_TooFar___init__ K A) := by
  refine F.ok sc_TooFar___init__ (fun vs H Q E h => by obtain ⟨_, _, _, _, rfl, _⟩ := h; rfl) (fun cdv A' outer s H vs Q E hr h => ?_)
  obtain ⟨a, v, l, xs, rfl, ⟨ha, hl, hxl⟩, k⟩ := h
  refine ⟨_, (pss_cons (L2.ps_ost (pv 0) (pv 1))
        (pss_one (L2.ps_ost (pv 0) (pe_callTy SH.cListOf (by rfl) T.z_list (by decide +kernel) (pa_cons (pv 2) pa_nil))))), ?_⟩
  walk_at "begin"
  have nla : l ≠ a := fun z => by
    rw [z, ha] at hl
    have := Option.some.inj hl
    unfold exo at this
    cases this
  walk_at "rd"
  refine ⟨a, A.TooFar, rfl, T.ox_TooFar, T.na_TooFar_place, .inl ⟨ha, fun dx n ne => ?_⟩⟩
  have nld : l ≠ dx := fun z => by rw [z, n] at hl; cases hl
  have hl2 : upd (upd H dx (exd dx [("place", v)])) a (exo a A.TooFar (some dx)) l = some (.lst xs) := by rw [upd_ne nla, upd_ne nld]; exact hl
  walk_at "rd"
  intro m hm
  walk_at "rd"
  have nma : m ≠ a := fun z => by rw [z, upd_same] at hm; cases hm
  rw [upd_ne nma] at hm
  have nmd : m ≠ dx := fun z => by rw [z, upd_same] at hm; cases hm
  rw [upd_ne nmd] at hm
  refine ⟨a, A.TooFar, rfl, T.ox_TooFar, T.na_TooFar_others, .inr ⟨dx, _, by rw [upd_ne nma.symm, upd_same], by rw [upd_ne nmd.symm, upd_ne ne, upd_same], by simp, ?_⟩⟩
  exact k dx m n ne hm nmd nma
/-- raised -/
theorem v_raiseF {K : PySem.W.Frag} {A : Ad} {H : Hp} {R : XK} {v : V} {l : Addr} {xs : List V} (hl : H l = some (.lst xs)) (hn : xs.length ≤ 1000)
    (q : ∀ d m, H d = none → H m = none → m ≠ d → R (.ref A.TooFar) (some d) (upd (upd H d (.xd [("others", .ref m), ("place", v)])) m (.lst xs))) : kMkO A.TooFar (sp_TooFar___init__ K A) [] R [v, .ref l] H := by
  refine ⟨by simp, fun a ha => ⟨a, v, l, xs, rfl, ⟨upd_same, upd_old hl ha, hn⟩, fun dx m hdx hne hm hmd hma => ⟨rfl, dx, _, by rw [upd_ne hne.symm, upd_ne hma.symm]; exact upd_same, upd_same, (upd_free hdx).1, ?_⟩⟩⟩
  have hd := (upd_free hdx).1
  have hm' := (upd_free hm).1
  have e : upd (del (upd (upd (upd (upd (upd H a (exo a A.TooFar none)) dx (exd dx [("place", v)])) a (exo a A.TooFar (some dx))) m (.lst xs)) dx (exd dx [("others", .ref m), ("place", v)])) a) dx (.xd [("others", .ref m), ("place", v)]) = upd (upd H dx (.xd [("others", .ref m), ("place", v)])) m (.lst xs) := by
    funext b
    by_cases c1 : b = dx
    · rw [c1, upd_same, upd_ne hmd.symm, upd_same]
    · rw [upd_ne c1]
      by_cases c2 : b = a
      · rw [c2, del_same, upd_ne hma.symm, upd_ne hne.symm, ha]
      · rw [del_ne c2, upd_ne c1]
        by_cases c3 : b = m
        · rw [c3, upd_same, upd_same]
        · rw [upd_ne c3, upd_ne c3, upd_ne c2, upd_ne c1, upd_ne c2, upd_ne c1]
  rw [e]
  exact q dx m hd hm' hmd
def sp_by_reach (K : PySem.W.Frag) (A : Ad) : Sp := fun vs H Q E => ∃ (I : Ask) (log : List Ent) (r : Nat), vs = [.ref I.s, .int r] ∧ (I.At K A H log ∧ I.n ≤ 200 ∧ r ≤ 1000 ∧ log.length + I.pre.length < 50000) ∧
  (∀ H' d m es q ord ns, H d = none → H m = none → Told I.or log es → RO I.n r 0 [] es (.inr (q, ord)) → Stp I.M H H' → I.At K A H' (log ++ es) → H' d = some (.xd [("others", .ref m), ("place", .int (q : Nat))]) → H' m = some (.lst (nv ns)) → ns.Perm (ord.drop (ord.length - r - 1)) → ns.Pairwise (· ≤ ·) → E (.ref A.TooFar) (some d) H') ∧
  ∀ H' q es res, H q = none → Told I.or log es → RO I.n r 0 [] es (.inl res) → Stp I.M H H' → I.At K A H' (log ++ es) → H' q = some (.lst (nv res)) → Q (.ref q) H'
theorem ok_by_reach {P : Program} {w : World} {K : PySem.W.Frag} {mg : Str → Option Value} {base : Heap} {A : Ad} {f : Addr} {fd : FuncData} (F : Fun K "by_reach" "by_reach" s_by_reach f fd) (T : Txt K mg A) (M_Asker_ahead : SH.CalM P w K mg base CX0 3 A.Asker "ahead" [] (sp_Asker_ahead K A)) (M_Asker_many : SH.CalM P w K mg base CX0 1 A.Asker "many" [] (sp_Asker_many K A)) (X_TooFar : SH.CalE P w K mg base 1 "TooFar" A.TooFar (sp_TooFar___init__ K A)) (C_spot_of : SH.Cal P w K mg base CX0 4 "spot_of" [] (sp_spot_of K A)) : FnOk P w K mg base (L2N.CX P w) 5 f fd ["asker", "reach"] (sp_by_reach K A) := by
  refine SH.okN F sc_by_reach (fun vs H Q E h => by obtain ⟨_, _, _, rfl, _⟩ := h; rfl) (fun cdv A' outer s H vs Q E hr h => ?_)
  obtain ⟨I, log, r, rfl, ⟨hA, hn, hr1, hlog⟩, kx, k⟩ := h
  refine ⟨_, (pss_cons (ps_set (i := 2) sc_by_reach.nd rfl (Or.inl rfl) (pe_lst pa_nil))
        (pss_cons (ps_for (L2.passes_of rfl) rfl (pi_range1 (by rfl) T.z_range (pa_cons (SH.pe_methF0 (pv 0) M_Asker_many hr pass0) pa_nil)) (pg_name (i := 3) sc_by_reach.nd rfl (Or.inl rfl)) (pss_cons (ps_set (i := 4) sc_by_reach.nd rfl (Or.inl rfl) (pe_callB (SH.cMax2 rfl) (by rfl) T.z_max (by decide +kernel) (pa_cons pe_int (pa_cons (pe_op SH.oSub (pe_callB SH.cLen (by rfl) T.z_len (by decide +kernel) (pa_cons (pv 2) pa_nil)) (pv 1)) pa_nil))))
        (pss_cons (ps_if (PW.pt (pw_and (pt_cmpR SH.oGt (pv 4) pe_int (nomark _)) (pw_and1 (pt_not (pt_val (SH.pe_methF (pv 0) M_Asker_ahead hr pass0 (pa_cons (pe_ix SH.ixA (pv 2) (pe_op SH.oSub (pv 4) pe_int) (fun _ _ => rfl)) (pa_cons (pv 3) pa_nil)))))))) (pss_one (L2N.ps_raise rfl (L2N.takes_of rfl rfl rfl rfl) (SH.pmk_oexN X_TooFar hr (by rfl) (pa_cons (pv 3) (pa_cons (pe_callB cr_sortedI (by rfl) T.z_sorted (by decide +kernel) (pa_cons (pe_slice sl_list (pv 2) (po_some (pe_op SH.oSub (pv 4) pe_int)) po_none) pa_nil)) pa_nil))))) pss_nil)
        (pss_one (ps_expr (pe_bm PySem.F.plainAttrs_list PySem.F.slot_list_insert PySem.F.type_list_insert SH.mIns (pv 2) (pa_cons (pe_op SH.oAdd (pv 4) (SH.pe_callF C_spot_of hr (by rfl) pass0 (pa_cons (pv 0) (pa_cons (pe_slice sl_list (pv 2) (po_some (pv 4)) po_none) (pa_cons (pv 3) pa_nil))))) (pa_cons (pv 3) pa_nil))))))))
        (pss_one (ps_ret (pv 2))))), ?_⟩
  walk_at "begin"
  walk_at "rd"
  intro D hD
  have DM := hA.fresh hD
  have DO := hA.freshO hD
  have hA1 := hA.stp ((Stp.refl [] H).new (o := .lst []) hD) (by simp)
  have hs1 := hA1.hs
  walk_at "rd"
  refine ⟨I, log, rfl, hA1, ?_⟩
  walk_at "rd"
  refine for_it walk_range (fun p σ H' => ∃ (ord : List Nat) (es : List Ent) (v2 v3 : Option V), ord.length = p ∧ (∀ o ∈ ord, o < p) ∧ es.length ≤ p * (I.n + 1) ∧ (∀ rest res, RO I.n r p ord rest res → RO I.n r 0 [] (es ++ rest) res) ∧ Told I.or log es ∧ Stp I.M H H' ∧ I.At K A H' (log ++ es) ∧ H' D = some (.lst (nv ord)) ∧
      σ = [some (.ref I.s), some (.int r), some (.ref D), v2, v3])
    ⟨[], [], _, _, rfl, by simp, by simp, fun rest res h => h, True.intro, (Stp.refl _ _).new hD, by rw [List.append_nil]; exact hA1, upd_same, rfl⟩ (fun _ _ _ _ _ => True.intro) ?_ ?_
  · rintro p x σ H1 H2 hj ⟨ord, es, v2, v3, hol, hlt, hel, hW, hT, S, hA2, hD1, rfl⟩ ⟨rfl, rfl⟩
    have hp : p < I.n := by have : p < (I.n : Int).toNat := hj; omega
    have hpn : p * (I.n + 1) ≤ 200 * 201 := Nat.mul_le_mul (by omega : p ≤ 200) (by omega)
    simp only [Int.zero_add]
    walk_at "ri"
    have e0 : (if (ord.length : Int) - (r : Int) > 0 then (ord.length : Int) - (r : Int) else 0) = ((ord.length - r : Nat) : Int) := by split <;> omega
    rw [e0]
    refine r_J (fun σ H' => ∃ es0, Pre1 r p ord es0 ∧ Told I.or (log ++ es) es0 ∧ Stp I.M H2 H' ∧ I.At K A H' (log ++ (es ++ es0)) ∧ H' D = some (.lst (nv ord)) ∧ σ = [some (.ref I.s), some (.int r), some (.ref D), some (.int (p : Nat)), some (.int ((ord.length - r : Nat) : Int))]) ?_ fun N hN => ?_
    rotate_left
    · walk_at "rd"
      refine r_w (fun hc => ?_) fun hc => ?_
      · have hd0 : r < ord.length := by omega
        obtain ⟨o, ho⟩ : ∃ o, ord[ord.length - r - 1]? = some o := ⟨_, List.getElem?_eq_getElem (by omega)⟩
        have hop := hlt o (List.mem_of_getElem? ho)
        have hs2 := hA2.hs
        unfold AskF at hs2
        walk_at "rd"
        rw [show ((ord.length - r : Nat) : Int) - 1 = ((ord.length - r - 1 : Nat) : Int) by omega]
        refine v_ixLn (n := ord.length - r - 1) (v := .int o) (SqL.of hD1) rfl (by unfold nv; rw [List.getElem?_map, ho]; rfl) ?_
        walk_at "rd"
        refine ⟨I, _, o, p, rfl, ⟨hA2, by omega, hp, by omega, by rw [List.length_append]; omega⟩, fun H3 said hsaid S3 hA3 => ?_⟩
        rw [show max o p = p by omega, show min o p = o by omega] at hsaid hA3
        rw [List.append_assoc] at hA3
        rw [decide_eq_false (by omega : ¬ p < o)]
        have hD3 := S3.keep hD1 DM
        cases said with
        | true =>
          refine ⟨_, rfl, ?_⟩
          rw [if_pos (by decide)]
          walk_at "rd"
          rw [show ((ord.length - r : Nat) : Int) - 1 = ((ord.length - r - 1 : Nat) : Int) by omega]
          intro cp hcp
          rw [show cutV (nv ord) (some ((ord.length - r - 1 : Nat) : Int)) none = nv (ord.drop (ord.length - r - 1)) by rw [cut_map]; exact congrArg _ (cutL_from ord _)]
          have Sc := (Stp.refl [] H3).new (o := .lst (nv (ord.drop (ord.length - r - 1)))) hcp
          have hcp4 := upd_same (H := H3) (a := cp) (o := .lst (nv (ord.drop (ord.length - r - 1))))
          generalize upd H3 cp (.lst (nv (ord.drop (ord.length - r - 1)))) = Hc at Sc hcp4 ⊢
          walk_at "rd"
          refine v_sortI (ns := (ord.drop (ord.length - r - 1)).map fun n : Nat => (n : Int)) (by rw [← nv_ints]; exact SqL.of hcp4) fun ns' q hp1 hs1 hq => ?_
          obtain ⟨l, rfl, hp2, hs2⟩ := sorted_nats hp1 hs1
          rw [← nv_ints]
          have hll : l.length ≤ 200 := by rw [hp2.length_eq, List.length_drop]; omega
          have S4 := Sc.new (o := .lst (nv l)) hq
          have hq4 := upd_same (H := Hc) (a := q) (o := .lst (nv l))
          have hA4 := hA3.stp S4 (by simp)
          generalize upd Hc q (.lst (nv l)) = H4 at S4 hq4 hA4 ⊢
          walk_at "rd"
          refine v_raiseF hq4 (by rw [List.length_map]; omega) fun d m hd hm hmd => ?_
          have Sx : Stp [] H4 (upd (upd H4 d (.xd [("others", .ref m), ("place", .int (p : Nat))])) m (.lst (nv l))) := ((Stp.refl [] H4).new hd).new (by rw [upd_ne hmd]; exact hm)
          have S2x : Stp I.M H _ := ((S.trans S3).trans (S4.mono (by simp))).trans (Sx.mono (by simp))
          have S04 : Stp I.M H H4 := (S.trans S3).trans (S4.mono (by simp))
          refine kx _ d m (es ++ [⟨p, o, true⟩]) p ord l (S04.dom _ hd) (S04.dom _ hm) (Told.app hT (Told.one (e := ⟨p, o, true⟩) hsaid)) (hW _ _ (.far hp hd0 ho)) S2x (hA4.stp Sx (by simp)) ?_ upd_same hp2 hs2
          rw [upd_ne hmd.symm]
          exact upd_same
        | false =>
          refine ⟨_, rfl, ?_⟩
          rw [if_neg (by decide)]
          walk_at "rd"
          exact hN _ _ ⟨_, .one hd0 ho, Told.one (e := ⟨p, o, false⟩) hsaid, S3, hA3, hD3, rfl⟩
      · walk_at "rd"
        refine hN _ _ ⟨[], .none (by omega), True.intro, .refl _ _, by rw [List.append_nil]; exact hA2, hD1, rfl⟩
    rintro σ H3 ⟨es0, hp0, hT0, S3, hA3, hD3, rfl⟩
    dsimp only
    have h01 := hp0.one_or.1
    walk_at "rd"
    intro cp hcp
    rw [show cutV (nv ord) (some ((ord.length - r : Nat) : Int)) none = nv (ord.drop (ord.length - r)) by rw [cut_map]; exact congrArg _ (cutL_from ord _)]
    have S4 := (Stp.refl [] H3).new (o := .lst (nv (ord.drop (ord.length - r)))) hcp
    have hcp4 := upd_same (H := H3) (a := cp) (o := .lst (nv (ord.drop (ord.length - r))))
    have hD4 := S4.keep0 hD3
    have hA4 := hA3.stp S4 (by simp)
    have cpM := hA3.fresh hcp
    generalize upd H3 cp (.lst (nv (ord.drop (ord.length - r)))) = H4 at S4 hcp4 hD4 hA4 ⊢
    walk_at "rd"
    refine ⟨I, _, cp, ord.drop (ord.length - r), p, rfl, ⟨hA4, SqL.of hcp4, cpM, hp, fun o ho => by have := hlt o (List.mem_of_mem_drop ho); omega, by rw [List.length_append, List.length_append, List.length_drop]; omega⟩, fun H5 t es2 hT2 hh S5 hA5 => ?_⟩
    have hb := hh.bd (Nat.zero_le _)
    rw [List.length_drop] at hb
    rw [List.append_assoc, List.append_assoc] at hA5
    have hD5 := S5.keep hD4 DM
    walk_at "rd"
    rw [show ((ord.length - r : Nat) : Int) + ((t : Nat) : Int) = ((ord.length - r + t : Nat) : Int) by omega]
    refine v_insN hD5 (by omega) (by omega) ?_
    walk_at "rd"
    refine ⟨ins ord (ord.length - r + t) p, es ++ (es0 ++ es2), _, _, ?_, fun o ho => ?_, ?_, fun rest res hk => ?_, Told.app hT (Told.app hT0 (by rw [List.append_assoc]; exact hT2)), ((S.trans S3).trans ((S4.mono (by simp)).trans S5)).putN hD, hA5.stp ((Stp.refl [D] _).putL (by simp) hD5) (fun m hm => by rw [List.mem_singleton] at hm; subst hm; exact DO), upd_same, rfl⟩
    · rw [ins_perm.length_eq, List.length_cons]; omega
    · rcases List.mem_cons.mp (ins_perm.mem_iff.mp ho) with rfl | ho
      · omega
      · have := hlt o ho; omega
    · rw [List.length_append, List.length_append, Nat.add_mul]; omega
    · rw [List.append_assoc]
      exact hW _ _ (.put hp hp0 hh hk)
  · rintro σ H1 ⟨ord, es, v2, v3, hol, hlt, hel, hW, hT, S, hA2, hD1, rfl⟩
    walk_at "rd"
    have e : (I.n : Int).toNat = I.n := by omega
    rw [e] at hol hel hW
    have := hW [] _ (.done (Nat.le_refl _))
    rw [List.append_nil] at this
    exact k H1 D es ord hD hT this S hA2 hD1
/-! ### the law's own counts -/
theorem nv_app' {ps qs : List Nat} : nv (ps ++ qs) = nv ps ++ nv qs := by unfold nv; rw [List.map_append]
def sp__law_crossed (K : PySem.W.Frag) (A : Ad) : Sp := fun vs H Q _ => ∃ (kl : Addr) (ks : List Int), vs = [.ref kl] ∧ (SqL K H kl (ks.map V.int) ∧ ks.length ≤ 200) ∧
  ∀ H' c, Stp [] H H' → H c = none → H' c = some (.lst (nv ((List.range ks.length).map (crs ks)))) → Q (.ref c) H'
theorem ok__law_crossed {P : Program} {w : World} {K : PySem.W.Frag} {mg : Str → Option Value} {base : Heap} {A : Ad} {f : Addr} {fd : FuncData} (F : Fun K "_law_crossed" "_law_crossed" s__law_crossed f fd) (T : Txt K mg A)  : FnOk P w K mg base CX0 1 f fd ["_law_keys_here"] (sp__law_crossed K A) := by
  refine F.ok sc__law_crossed (fun vs H Q E h => by obtain ⟨_, _, rfl, _⟩ := h; rfl) (fun cdv A' outer s H vs Q E hr h => ?_)
  obtain ⟨kl, ks, rfl, ⟨hK, hkl⟩, k⟩ := h
  refine ⟨_, (pss_cons (ps_set (i := 1) sc__law_crossed.nd rfl (Or.inl rfl) (pe_lst pa_nil))
        (pss_cons (ps_for PassesOwn.never rfl (pi_range1 (by rfl) T.z_range (pa_cons (pe_callB SH.cLen (by rfl) T.z_len (by decide +kernel) (pa_cons (pv 0) pa_nil)) pa_nil)) (pg_name (i := 2) sc__law_crossed.nd rfl (Or.inr rfl)) (pss_one (ps_expr (pe_bm PySem.F.plainAttrs_list PySem.F.slot_list_append PySem.F.type_list_append mt_append (pv 1) (pa_cons (pe_callB SH.cLen (by rfl) T.z_len (by decide +kernel) (pa_cons (pe_lc (own := [("_law_p", 3)]) (g := (gName 3)) (by rfl) sc__law_crossed.nd (pi_range1 (by rfl) T.z_range (pa_cons (pv 2) pa_nil)) (blkOk_by (own := [("_law_p", 3)]) (N := ["_law_keys_here", "_law_counts", "_law_place", "_law_p"]) (sc := defScope s__law_crossed) (by decide +kernel)) (fun _ _ _ _ _ => (pg_name (i := 3) sc__law_crossed.nd rfl (Or.inl rfl))) (fun _ _ _ _ _ => (pts_one (pt_cmpR (SH.opK SH.aLt K (SH.oLt hr.units0)) (pe_ix (SH.ixK SH.aIx K SH.ixA) (pv 0) (pv 2) (fun _ _ => rfl)) (pe_ix (SH.ixK SH.aIx K SH.ixA) (pv 0) (pv 3) (fun _ _ => rfl)) (nomark _)))) (fun _ _ _ _ _ => (pv 3))) pa_nil)) pa_nil)))))
        (pss_one (ps_ret (pv 1))))), ?_⟩
  walk_at "begin"
  walk_at "rd"
  intro D hD
  walk_at "rd"
  refine for_it walk_range (fun j σ H' => Stp [] H H' ∧ H' D = some (.lst (nv ((List.range j).map (crs ks)))) ∧ ∃ v2, σ = [some (.ref kl), some (.ref D), v2, none]) ⟨(Stp.refl _ _).new hD, upd_same, _, rfl⟩ (fun _ _ _ _ _ => True.intro) ?_ ?_
  · rintro j v σ H1 H2 hj ⟨S, hL, v2, rfl⟩ ⟨rfl, rfl⟩
    simp only [Int.zero_add]
    have hjk : j < ks.length := by simp at hj; omega
    walk_at "rd"
    intro D2 hD2
    refine lc_it walk_range (fun i H' => Stp [] H2 H' ∧ H' D2 = some (.lst (nv ((List.range i).filter fun o => decide (getE ks j < getE ks o))))) ⟨(Stp.refl _ _).new hD2, upd_same⟩ (fun _ _ _ _ => True.intro) ?_ ?_
    · rintro i v H3 H4 hi ⟨S3, hL3⟩ ⟨rfl, rfl⟩
      simp only [Int.zero_add]
      have hik : i < ks.length := by simp at hi; omega
      have hK4 := (S.trans S3).sql0 hK
      walk_at "rd"
      refine v_ixE hK4 rfl hjk ?_
      walk_at "rd"
      refine v_ixE hK4 rfl hik ?_
      walk_at "rd"
      have hst : (List.range (i + 1)).filter (fun o => decide (getE ks j < getE ks o)) = (List.range i).filter (fun o => decide (getE ks j < getE ks o)) ++ if getE ks j < getE ks i then [i] else [] := by
        rw [List.range_succ, List.filter_append]
        by_cases h : getE ks j < getE ks i <;> simp [h]
      refine r_w (fun hc => ?_) fun hc => ?_
      · walk_at "rd"
        refine ⟨_, hL3, Nat.lt_of_le_of_lt (m := 1000) (by rw [List.length_map]; exact Nat.le_trans (List.length_filter_le _ _) (by rw [List.length_range]; omega)) (by decide), S3.putN hD2, ?_⟩
        rw [upd_same, hst, if_pos hc, nv_app]
      · walk_at "rd"
        refine ⟨S3, ?_⟩
        rw [hst, if_neg hc, List.append_nil]
        exact hL3
    rintro H3 ⟨S3, hL3⟩
    have hL4 := S3.keep0 hL
    walk_at "rd"
    refine v_app hL4 (by simp; omega) ?_
    walk_at "rd"
    refine ⟨(S.trans S3).putN hD, ?_, _, rfl⟩
    rw [upd_same, List.range_succ, List.map_append, nv_app']
    rfl
  · rintro σ H1 ⟨S, hL, v2, rfl⟩
    walk_at "rd"
    rw [show (ks.length : Int).toNat = ks.length by omega] at hL
    exact k H1 D S hD hL
/-- how often each place was asked about, in a dict -/
def Cnt (kvs : List (Key × V)) (es : List Ent) : Prop := (∀ a : Nat, valV kvs (.inl (a : Int)) = if cntA es a = 0 then none else some (.int (cntA es a : Nat))) ∧ (∀ kv ∈ kvs, ∃ a : Nat, kv.1 = .inl (a : Int) ∧ 0 < cntA es a ∧ kv.2 = .int (cntA es a : Nat)) ∧ kvs.length ≤ es.length
theorem cntA_snoc (es : List Ent) (e : Ent) (a : Nat) : cntA (es ++ [e]) a = cntA es a + if e.a = a then 1 else 0 := by
  rw [cntA_app]
  congr 1
  unfold cntA
  by_cases h : e.a = a <;> simp [h]
theorem Cnt.put {kvs : List (Key × V)} {es : List Ent} (h : Cnt kvs es) (e : Ent) : Cnt (putK kvs (.inl (e.a : Int)) (.int ((cntA es e.a : Nat) + 1))) (es ++ [e]) := by
  obtain ⟨h1, h2, h3⟩ := h
  refine ⟨fun a => ?_, fun kv hkv => ?_, by have := length_putK kvs (.inl (e.a : Int)) (.int ((cntA es e.a : Nat) + 1)); simp; omega⟩
  · rw [valV_put, cntA_snoc]
    by_cases ha : e.a = a
    · subst ha
      rw [if_pos rfl, if_pos rfl, if_neg (by omega)]
      rfl
    · rw [if_neg (fun z => ha (by have := Sum.inl.inj z; omega)), if_neg ha, Nat.add_zero]
      exact h1 a
  · unfold putK at hkv
    split at hkv
    · obtain ⟨kv0, h0, e0⟩ := List.mem_map.mp hkv
      obtain ⟨a, a1, a2, a3⟩ := h2 kv0 h0
      split at e0
      · rename_i hk
        rw [a1] at hk
        have ha : a = e.a := by have := Sum.inl.inj hk; omega
        subst e0
        refine ⟨a, a1, by rw [cntA_snoc]; omega, ?_⟩
        rw [cntA_snoc, if_pos ha.symm, ha]
        rfl
      · rename_i hk
        subst e0
        have ha : e.a ≠ a := fun z => hk (by rw [a1, z])
        exact ⟨a, a1, by rw [cntA_snoc]; omega, by rw [cntA_snoc, if_neg ha]; exact a3⟩
    · rename_i hany
      rcases List.mem_append.mp hkv with hkv | hkv
      · obtain ⟨a, a1, a2, a3⟩ := h2 kv hkv
        have ha : e.a ≠ a := fun z => hany (List.any_eq_true.mpr ⟨kv, hkv, decide_eq_true (by rw [a1, z])⟩)
        exact ⟨a, a1, by rw [cntA_snoc]; omega, by rw [cntA_snoc, if_neg ha]; exact a3⟩
      · rw [List.mem_singleton] at hkv
        subst hkv
        exact ⟨e.a, rfl, by rw [cntA_snoc, if_pos rfl]; omega, by rw [cntA_snoc, if_pos rfl]; rfl⟩
theorem cntA_pos {es : List Ent} {a : Nat} (h : 0 < cntA es a) : ∃ e ∈ es, e.a = a := by
  unfold cntA at h
  obtain ⟨e, he⟩ := List.exists_mem_of_length_pos h
  obtain ⟨h1, h2⟩ := List.mem_filter.mp he
  exact ⟨e, h1, by simpa using h2⟩
def sp__law_few (K : PySem.W.Frag) (A : Ad) : Sp := fun vs H Q _ => ∃ (l : Addr) (evs : List V) (es : List Ent) (r most : Nat), vs = [.ref l, .int r, .int most] ∧ (SqL K H l evs ∧ IsL K H evs es ∧ es.length ≤ 100000 ∧ (∀ e ∈ es, e.a ≤ most) ∧ ∀ a, cntA es a ≤ 1 + Builtin.Int.intBits (r : Nat)) ∧ ∀ H', Stp [] H H' → Q (.bl true) H'
theorem ok__law_few {P : Program} {w : World} {K : PySem.W.Frag} {mg : Str → Option Value} {base : Heap} {A : Ad} {f : Addr} {fd : FuncData} (F : Fun K "_law_few" "_law_few" s__law_few f fd) (T : Txt K mg A)  : FnOk P w K mg base CX0 1 f fd ["_law_log", "_law_reach", "_law_most"] (sp__law_few K A) := by
  refine F.ok sc__law_few (fun vs H Q E h => by obtain ⟨_, _, _, _, _, rfl, _⟩ := h; rfl) (fun cdv A' outer s H vs Q E hr h => ?_)
  obtain ⟨l, evs, es, r, most, rfl, ⟨hL, hI, hn, hm, hc⟩, k⟩ := h
  refine ⟨_, (pss_cons (ps_set (i := 3) sc__law_few.nd rfl (Or.inl rfl) pe_dnewK)
        (pss_cons (ps_for PassesOwn.never rfl (pi_list (pv 0)) (pg_tup (by rfl) (pgs_cons (pg_name (i := 4) sc__law_few.nd rfl (Or.inl rfl)) (pgs_cons (pg_name (i := 5) sc__law_few.nd rfl (Or.inl rfl)) (pgs_cons (pg_name (i := 6) sc__law_few.nd rfl (Or.inl rfl)) pgs_nil)))) (pss_one (ps_dput (hu_of hr) (pv 3) (pv 4) (pe_op SH.oAdd (pe_dget2 (hu_of hr) (pv 3) (pv 4) pe_int ⟨rfl, by rfl, by rfl, rfl⟩) pe_int) rfl)))
        (pss_cons (ps_lock (ps_for PassesOwn.never rfl (pi_items (pv 3)) (pg_tup (by rfl) (pgs_cons (pg_name (i := 7) sc__law_few.nd rfl (Or.inl rfl)) (pgs_cons (pg_name (i := 8) sc__law_few.nd rfl (Or.inl rfl)) pgs_nil))) (pss_one (ps_if (PW.pt (pw_or (pt_cmpR SH.oGt (pv 7) (pv 2) (nomark _)) (pw_or1 (pt_cmpR SH.oGt (pv 8) (pe_op SH.oAdd pe_int (pe_bits (pv 1))) (nomark _))))) (pss_one (ps_ret pe_bl)) pss_nil))))
        (pss_one (ps_ret pe_bl))))), ?_⟩
  walk_at "begin"
  have hel := isl_len hI
  walk_at "rd"
  refine SH.r_dnewK fun D hD => ?_
  walk_at "rd"
  refine for_it (walk_list (xs := evs)) (fun j σ H' => Stp [] H H' ∧ (∃ kvs, H' D = some (.dK kvs) ∧ Cnt kvs (es.take j)) ∧ ∃ v4 v5 v6, σ = [some (.ref l), some (.int r), some (.int most), some (.ref D), v4, v5, v6, none, none]) ⟨(Stp.refl _ _).new hD, ⟨[], upd_same, fun a => rfl, fun kv h => (by cases h), by simp⟩, _, _, _, rfl⟩ (fun _ _ _ _ z => z.1.sql0 hL) ?_ ?_
  · rintro j x σ H1 H2 hj ⟨S, ⟨kvs, hD1, hC⟩, v4, v5, v6, rfl⟩ ⟨rfl, hx⟩
    obtain ⟨e, t, he, rfl, ht⟩ := isl_ent hI hx
    have ht2 := S.sqtM ht
    walk_at "rd"
    refine SH.r_var rfl ⟨D, rfl, .inl ⟨kvs, .inl hD1⟩, SH.r_var rfl (SH.r_c ⟨_, .inl ⟨kvs, .inl (e.a : Int), .inl hD1, rfl, rfl⟩, ?_⟩)⟩
    have hval : (valV kvs (.inl (e.a : Int))).getD (.int 0) = V.int (cntA (es.take j) e.a : Nat) := by
      rw [hC.1 e.a]
      by_cases hz : cntA (es.take j) e.a = 0
      · rw [if_pos hz, hz]; rfl
      · rw [if_neg hz]; rfl
    rw [hval]
    have hkl : kvs.length ≤ 100000 := Nat.le_trans hC.2.2 (by rw [List.length_take]; omega)
    walk_at "rd"
    refine v_dputK hD1 (by omega) ?_
    walk_at "rd"
    refine ⟨S.putN hD, ⟨_, upd_same, ?_⟩, _, _, _, rfl⟩
    rw [List.take_succ, he]
    exact hC.put e
  · rintro σ H1 ⟨S, ⟨kvs, hD1, hC⟩, v4, v5, v6, rfl⟩
    rw [List.take_of_length_le (by omega)] at hC
    walk_at "rd"
    refine ⟨D, _, hD1, trivial, fun od => ?_⟩
    have hD2 := upd_same (H := H1) (a := D) (o := .frz od (.dK kvs))
    have Sfin : ∀ H', Stp [] (upd H1 D (.frz od (.dK kvs))) H' → Stp [] H (upd H' D (.dK kvs)) := fun H' S' => ⟨fun b o e _ => by
        have nb : b ≠ D := ne_of_none e hD
        rw [upd_ne nb]
        exact S'.same b o (by rw [upd_ne nb]; exact S.keep0 e) (.inl (by simp)), fun b e => by
        by_cases nb : b = D
        · subst nb; rw [upd_same] at e; cases e
        · rw [upd_ne nb] at e
          have := S'.dom b e
          rw [upd_ne nb] at this
          exact S.dom b this⟩
    generalize upd H1 D (.frz od (.dK kvs)) = H2 at hD2 Sfin ⊢
    walk_at "rd"
    refine SH.r_var rfl ⟨D, od, kvs, rfl, hD2, ?_⟩
    refine for_it (walk_items (kvs := kvs)) (fun j σ H' => Stp [] H2 H' ∧ ∃ v7 v8, σ = [some (.ref l), some (.int r), some (.int most), some (.ref D), v4, v5, v6, v7, v8]) ⟨.refl _ _, _, _, rfl⟩ (fun _ _ _ _ z => z.1.keep0 hD2) ?_ ?_
    · rintro j x σ H3 H4 hj ⟨S3, v7, v8, rfl⟩ ⟨T0, x0, y0, rfl, hT0, rfl, hx0, hy0⟩
      obtain ⟨kv, hkv⟩ : ∃ kv, kvs[j]? = some kv := ⟨_, List.getElem?_eq_getElem (by simpa using hj)⟩
      obtain ⟨a, a1, a2, a3⟩ := hC.2.1 kv (List.mem_of_getElem? hkv)
      dsimp only at hx0 hy0
      rw [hkv] at hx0 hy0
      obtain ⟨q1, q2⟩ : x0 = V.int a ∧ y0 = V.int (cntA es a : Nat) := by
        cases hx0
        cases hy0
        exact ⟨by show kV kv.fst = _; rw [a1]; rfl, a3⟩
      subst q1 q2
      obtain ⟨e, he, hea⟩ := cntA_pos a2
      have b1 := hm e he
      have b2 := hc a
      walk_at "rd"
      refine r_wF (by omega) ?_
      walk_at "rd"
      refine r_wF (by omega) ?_
      walk_at "rd"
      exact ⟨S3.new hT0, _, _, rfl⟩
    · rintro σ H3 ⟨S3, v7, v8, rfl⟩
      refine ⟨S3.keep0 hD2, ?_⟩
      walk_at "rd"
      exact k _ (Sfin H3 S3)
def sp__law_far (K : PySem.W.Frag) (A : Ad) : Sp := fun vs H Q _ => ∃ (x d m c kl : Addr) (ks : List Int) (ns : List Nat) (q r : Nat), vs = [.ref x, .ref c, .ref kl, .int r] ∧
  ((H x = some (exK x (.ref A.TooFar) (some d)) ∧ H d = some (.xd [("others", .ref m), ("place", .int (q : Nat))]) ∧ H m = some (.lst (nv ns))) ∧ (SqL K H c (nv ((List.range ks.length).map (crs ks))) ∧ SqL K H kl (ks.map V.int) ∧ ks.length ≤ 200) ∧
    (q < ks.length ∧ (∀ j, j < q → crs ks j ≤ r) ∧ r < crs ks q) ∧ ns.Pairwise (· < ·) ∧ ns.length = r + 1 ∧ ∀ o ∈ ns, o < q ∧ getE ks q < getE ks o) ∧ ∀ H', Stp [] H H' → Q (.bl true) H'
theorem ok__law_far {P : Program} {w : World} {K : PySem.W.Frag} {mg : Str → Option Value} {base : Heap} {A : Ad} {f : Addr} {fd : FuncData} (F : Fun K "_law_far" "_law_far" s__law_far f fd) (T : Txt K mg A) (C__law_whole : SH.Cal P w K mg base CX0 1 "_law_whole" [] (sp__law_whole K A)) : FnOk P w K mg base CX0 2 f fd ["_law_e", "_law_counts", "_law_keys_here", "_law_reach"] (sp__law_far K A) := by
  refine F.ok sc__law_far (fun vs H Q E h => by obtain ⟨_, _, _, _, _, _, _, _, _, rfl, _⟩ := h; rfl) (fun cdv A' outer s H vs Q E hr h => ?_)
  obtain ⟨x, d, m, c, kl, ks, ns, q, r, rfl, ⟨⟨hx, hd, hm⟩, ⟨hc, hK, hkl⟩, ⟨hq, hlow, hover⟩, hpw, hnl, hns⟩, k⟩ := h
  refine ⟨_, (pss_cons (ps_if (PW.pt (pw_or (pt_not (pt_val (pe_callB SH.call_isK (by rfl) T.z_isinstance (by decide +kernel) (pa_cons (pv 0) (pa_cons (pe_glob (v := .ref A.TooFar) (by rfl) T.g_TooFar rfl) pa_nil))))) (pw_or1 (pt_not (pt_val (pe_callB SH.call_isK (by rfl) T.z_isinstance (by decide +kernel) (pa_cons (pv 0) (pa_cons (pe_bltn (v := .ty "ValueError") (by rfl) T.z_ValueError (by decide +kernel) rfl) pa_nil)))))))) (pss_one (ps_ret pe_bl)) pss_nil)
        (pss_cons (ps_if (PW.pt (pw_or (pt_val (pe_callB SH.call_isK (by rfl) T.z_isinstance (by decide +kernel) (pa_cons (pv 0) (pa_cons (pe_glob (v := .ref A.NoPaper) (by rfl) T.g_NoPaper rfl) pa_nil)))) (pw_or (pt_val (pe_callB SH.call_isK (by rfl) T.z_isinstance (by decide +kernel) (pa_cons (pv 0) (pa_cons (pe_glob (v := .ref A.NoPlace) (by rfl) T.g_NoPlace rfl) pa_nil)))) (pw_or1 (pt_val (pe_callB SH.call_isK (by rfl) T.z_isinstance (by decide +kernel) (pa_cons (pv 0) (pa_cons (pe_glob (v := .ref A.Spent) (by rfl) T.g_Spent rfl) pa_nil)))))))) (pss_one (ps_ret pe_bl)) pss_nil)
        (pss_cons (ps_if (PW.pt (pw_or (pt_not (pt_val (SH.pe_callF C__law_whole hr (by rfl) pass0 (pa_cons (SH.pe_xfK (SH.xfOf T.ec_TooFar) T.na_TooFar_place (pv 0)) pa_nil)))) (pw_or1 (pt_cmpR (SH.oNe hr.units) (SH.pe_xfK (SH.xfOf T.ec_TooFar) T.na_TooFar_place (pv 0)) (pe_ix SH.ixA (pe_lc (own := [("_law_k", 6)]) (g := (gName 6)) (by rfl) sc__law_far.nd (pi_range1 (by rfl) T.z_range (pa_cons (pe_callB SH.cLen (by rfl) T.z_len (by decide +kernel) (pa_cons (pv 1) pa_nil)) pa_nil)) (blkOk_by (own := [("_law_k", 6)]) (N := ["_law_e", "_law_counts", "_law_keys_here", "_law_reach", "_law_last", "_law_other", "_law_k"]) (sc := defScope s__law_far) (by decide +kernel)) (fun _ _ _ _ _ => (pg_name (i := 6) sc__law_far.nd rfl (Or.inl rfl))) (fun _ _ _ _ _ => (pts_one (pt_cmpR SH.oGt (pe_ix (SH.ixK SH.aIx K SH.ixA) (pv 1) (pv 6) (fun _ _ => rfl)) (pv 3) (nomark _)))) (fun _ _ _ _ _ => (pv 6))) pe_int (fun _ _ => rfl)) (nomark _))))) (pss_one (ps_ret pe_bl)) pss_nil)
        (pss_cons (ps_if (PW.pt (pw_or (pt_not (pt_val (pe_callB call_isi (by rfl) T.z_isinstance (by decide +kernel) (pa_cons (SH.pe_xfK (SH.xfOf T.ec_TooFar) T.na_TooFar_others (pv 0)) (pa_cons (pe_bltn (v := .ty "list") (by rfl) T.z_list (by decide +kernel) rfl) pa_nil))))) (pw_or1 (pt_cmpR (SH.oNe hr.units) (pe_callB SH.cLen (by rfl) T.z_len (by decide +kernel) (pa_cons (SH.pe_xfK (SH.xfOf T.ec_TooFar) T.na_TooFar_others (pv 0)) pa_nil)) (pe_op SH.oAdd (pv 3) pe_int) (nomark _))))) (pss_one (ps_ret pe_bl)) pss_nil)
        (pss_cons (ps_set (i := 4) sc__law_far.nd rfl (Or.inl rfl) (pe_un un_neg pe_int))
        (pss_cons (ps_for PassesOwn.never rfl (pi_list (SH.pe_xfK (SH.xfOf T.ec_TooFar) T.na_TooFar_others (pv 0))) (pg_name (i := 5) sc__law_far.nd rfl (Or.inl rfl)) (pss_cons (ps_if (PW.pt (pw_or (pt_not (pt_val (SH.pe_callF C__law_whole hr (by rfl) pass0 (pa_cons (pv 5) pa_nil)))) (pw_or (pt_cmpR SH.oLe (pv 5) (pv 4) (nomark _)) (pw_or (pt_cmpR SH.oGe (pv 5) (SH.pe_xfK (SH.xfOf T.ec_TooFar) T.na_TooFar_place (pv 0)) (nomark _)) (pw_or1 (pt_cmpR SH.oGe (pe_ix SH.ixA (pv 2) (SH.pe_xfK (SH.xfOf T.ec_TooFar) T.na_TooFar_place (pv 0)) (fun _ _ => rfl)) (pe_ix SH.ixA (pv 2) (pv 5) (fun _ _ => rfl)) (nomark _))))))) (pss_one (ps_ret pe_bl)) pss_nil)
        (pss_one (ps_set (i := 4) sc__law_far.nd rfl (Or.inl rfl) (pv 5)))))
        (pss_one (ps_ret pe_bl)))))))), ?_⟩
  walk_at "begin"
  walk_at "rd"
  refine v_isK hx (adict hd) T.ec_TooFar T.kits_TooFar_TooFar ?_
  walk_at "rd"
  refine v_isKT hx (adict hd) T.ec_TooFar T.kits_TooFar_ValueError ?_
  walk_at "rd"
  refine v_isK hx (adict hd) T.ec_TooFar T.kits_TooFar_NoPaper ?_
  walk_at "rd"
  refine v_isK hx (adict hd) T.ec_TooFar T.kits_TooFar_NoPlace ?_
  walk_at "rd"
  refine v_isK hx (adict hd) T.ec_TooFar T.kits_TooFar_Spent ?_
  walk_at "rd"
  refine ⟨_, rfl, ?_⟩
  walk_at "rd"
  rw [List.length_map, List.length_range]
  walk_at "rd"
  intro D hD
  have hcl : (nv ((List.range ks.length).map (crs ks))).length = ks.length := by rw [List.length_map, List.length_map, List.length_range]
  refine lc_it walk_range (fun i H' => Stp [] H H' ∧ H' D = some (.lst (nv ((List.range i).filter fun o => decide (r < crs ks o))))) ⟨(Stp.refl _ _).new hD, upd_same⟩ (fun _ _ _ _ => True.intro) ?_ ?_
  · rintro i v H3 H4 hi ⟨S3, hL3⟩ ⟨rfl, rfl⟩
    simp only [Int.zero_add]
    have hik : i < ks.length := by simpa using hi
    walk_at "rd"
    refine v_ixLn (n := i) (v := .int (crs ks i : Nat)) (S3.sql0 hc) rfl (by unfold nv; rw [List.map_map, List.getElem?_map, List.getElem?_range hik]; rfl) ?_
    walk_at "rd"
    have hst : (List.range (i + 1)).filter (fun o => decide (r < crs ks o)) = (List.range i).filter (fun o => decide (r < crs ks o)) ++ if r < crs ks i then [i] else [] := by
      rw [List.range_succ, List.filter_append]
      by_cases h : r < crs ks i <;> simp [h]
    refine r_w (fun hc' => ?_) fun hc' => ?_
    · walk_at "rd"
      refine ⟨_, hL3, Nat.lt_of_le_of_lt (m := 1000) (by rw [List.length_map]; exact Nat.le_trans (List.length_filter_le _ _) (by rw [List.length_range]; omega)) (by decide), S3.putN hD, ?_⟩
      rw [upd_same, hst, if_pos (by omega), nv_app]
    · walk_at "rd"
      refine ⟨S3, ?_⟩
      rw [hst, if_neg (by omega), List.append_nil]
      exact hL3
  rintro H1 ⟨S1, hL1⟩
  rw [show ((ks.length : Nat) : Int).toNat = ks.length by omega] at hL1
  obtain ⟨fl, hfl⟩ : ∃ fl, (List.range ks.length).filter (fun o => decide (r < crs ks o)) = q :: fl := by
    have e : List.range ks.length = List.range q ++ (q :: (List.range (ks.length - q - 1)).map (fun i => q + 1 + i)) := by
      obtain ⟨w, hw⟩ : ∃ w, ks.length = q + 1 + w := ⟨ks.length - q - 1, by omega⟩
      rw [hw, List.range_add, List.range_succ, List.append_assoc, show q + 1 + w - q - 1 = w by omega]
      rfl
    rw [e, List.filter_append, List.filter_eq_nil_iff.mpr (fun o ho => by have := hlow o (List.mem_range.mp ho); simp; omega), List.nil_append, List.filter_cons, if_pos (by simpa using hover)]
    exact ⟨_, rfl⟩
  rw [hfl] at hL1
  have hx1 := S1.keep0 hx
  have hd1 := S1.keep0 hd
  have hm1 := S1.keep0 hm
  have hK1 := S1.sql0 hK
  walk_at "rd"
  refine v_ixLn (n := 0) (SqL.of hL1) rfl rfl ?_
  walk_at "rd"
  refine r_nwF rfl ?_
  walk_at "rd"
  refine r_nwF (by omega) ?_
  walk_at "rd"
  refine for_it (walk_list (xs := nv ns)) (fun j σ H' => Stp [] H1 H' ∧ (∃ la : Int, la < ((ns.drop j).headD q : Nat) ∧ la < (q : Nat) ∧ ∃ v5, σ = [some (.ref x), some (.ref c), some (.ref kl), some (.int r), some (.int la), v5, none])) ⟨.refl _ _, -1, by omega, by omega, _, rfl⟩ (fun _ _ _ _ z => z.1.sql0 (SqL.of hm1)) ?_ ?_
  · rintro j v σ H2 H3 hj ⟨S, la, hla, hlq, v5, rfl⟩ ⟨rfl, hv⟩
    obtain ⟨o, ho, rfl⟩ := map_at hv
    obtain ⟨o1, o2⟩ := hns o (List.mem_of_getElem? ho)
    obtain ⟨hj2, hoe⟩ := List.getElem?_eq_some_iff.mp ho
    have hdr : ns.drop j = o :: ns.drop (j + 1) := by rw [List.drop_eq_getElem_cons hj2, hoe]
    rw [hdr] at hla
    have hla' : la < (o : Nat) := hla
    have hx2 := S.keep0 hx1
    have hd2 := S.keep0 hd1
    have hK2 := S.sql0 hK1
    walk_at "rd"
    refine ⟨_, rfl, ?_⟩
    walk_at "rd"
    refine r_wF (by omega) ?_
    walk_at "rd"
    refine r_wF (by omega) ?_
    walk_at "rd"
    refine v_ixE hK2 rfl hq ?_
    walk_at "rd"
    refine v_ixE hK2 rfl (by omega) ?_
    walk_at "rd"
    refine r_wF (by omega) ?_
    walk_at "rd"
    refine ⟨S, o, ?_, by omega, _, rfl⟩
    cases hr : ns.drop (j + 1) with
    | nil => show (o : Int) < (q : Nat); omega
    | cons o2 rr =>
      show (o : Int) < (o2 : Nat)
      have h1 : ns[j + 1]? = some o2 := by have := congrArg List.head? hr; rwa [List.head?_drop] at this
      obtain ⟨hj3, hoe3⟩ := List.getElem?_eq_some_iff.mp h1
      have := List.pairwise_iff_getElem.mp hpw j (j + 1) hj2 hj3 (by omega)
      rw [hoe, hoe3] at this
      omega
  · rintro σ H2 ⟨S, la, hla, hlq, v5, rfl⟩
    walk_at "rd"
    exact k _ (S1.trans S)
def sp__law_told (K : PySem.W.Frag) (A : Ad) : Sp := fun vs H Q _ => ∃ (I : Ask) (log : List Ent) (r : Nat), vs = [.ref I.s, .int r] ∧ (I.At K A H log ∧ I.n ≤ 200 ∧ r ≤ 1000 ∧ log.length + I.pre.length < 50000) ∧
  (∀ H' t x d m es q ord ns, Told I.or log es → RO I.n r 0 [] es (.inr (q, ord)) → Stp I.M H H' → I.At K A H' (log ++ es) → H' t = some (.tup [.str "refused", .ref x]) → H' x = some (exK x (.ref A.TooFar) (some d)) → H' d = some (.xd [("others", .ref m), ("place", .int (q : Nat))]) → H' m = some (.lst (nv ns)) → ns.Perm (ord.drop (ord.length - r - 1)) → ns.Pairwise (· ≤ ·) → Q (.ref t) H') ∧
  ∀ H' t q es res, H q = none → Told I.or log es → RO I.n r 0 [] es (.inl res) → Stp I.M H H' → I.At K A H' (log ++ es) → H' t = some (.tup [.str "paper", .ref q]) → H' q = some (.lst (nv res)) → Q (.ref t) H'
theorem ok__law_told {P : Program} {w : World} {K : PySem.W.Frag} {mg : Str → Option Value} {base : Heap} {A : Ad} {f : Addr} {fd : FuncData} (F : Fun K "_law_told" "_law_told" s__law_told f fd) (T : Txt K mg A) (C_by_reach : SH.Cal P w K mg base (L2N.CX P w) 5 "by_reach" [] (sp_by_reach K A)) : FnOk P w K mg base CX0 6 f fd ["_law_asker", "_law_reach"] (sp__law_told K A) := by
  refine F.ok sc__law_told (fun vs H Q E h => by obtain ⟨_, _, _, rfl, _⟩ := h; rfl) (fun cdv A' outer s H vs Q E hr h => ?_)
  obtain ⟨I, log, r, rfl, ⟨hA, hn, hr1, hlog⟩, kx, k⟩ := h
  refine ⟨_, (pss_cons (ps_set (i := 2) sc__law_told.nd rfl (Or.inl rfl) (pe_tup (pa_cons pe_str pa_nil)))
        (pss_cons (SH.ps_try_asK (i := 3) rfl rfl rfl sc__law_told.nd rfl rfl ⟨rfl, by decide, .inl T.g_HallError⟩ SH.takes0N (fun W pn xe tk po => (pss_one (ps_set (i := 2) sc__law_told.nd rfl (Or.inl rfl) (pe_tup (pa_cons pe_str (pa_cons (SH.pe_callX C_by_reach hr (by rfl) (fun σ => L2N.passAt tk σ) (pa_cons (pv 0) (pa_cons (pv 1) pa_nil))) pa_nil)))))) (fun a pn => (pss_one (ps_set (i := 2) sc__law_told.nd rfl (Or.inl rfl) (pe_tup (pa_cons pe_str (pa_cons (pv 3) pa_nil)))))))
        (pss_one (ps_ret (pv 2))))), ?_⟩
  walk_at "begin"
  walk_at "rd"
  intro t0 ht0
  have S0 := (Stp.refl [] H).new (o := .tup [.str "none"]) ht0
  have hA0 := hA.stp S0 (by simp)
  generalize upd H t0 (.tup [.str "none"]) = H0 at S0 hA0 ⊢
  walk_at "rd"
  refine ⟨I, log, r, rfl, ⟨hA0, hn, hr1, hlog⟩, fun H1 d m es q ord ns hd hm hT hR S1 hA1 hd1 hm1 hp hs => ?_, fun H1 q es res hq hT hR S1 hA1 hq1 => ?_⟩
  · refine SH.r_catchK T.exm_TooFar_HallError fun x hx => ?_
    have Sx := (Stp.refl [] H1).new (o := exK x (.ref A.TooFar) (some d)) hx
    have hx1 := upd_same (H := H1) (a := x) (o := exK x (.ref A.TooFar) (some d))
    have hA2 := hA1.stp Sx (by simp)
    have hd2 := Sx.keep0 hd1
    have hm2 := Sx.keep0 hm1
    generalize upd H1 x (exK x (.ref A.TooFar) (some d)) = H2 at Sx hx1 hA2 hd2 hm2 ⊢
    simp only [List.set_cons_succ, List.set_cons_zero]
    walk_at "rd"
    intro t ht
    have St := (Stp.refl [] H2).new (o := .tup [.str "refused", .ref x]) ht
    walk_at "rd"
    simp only [List.set_cons_succ, List.set_cons_zero]
    walk_at "rd"
    exact kx _ t x d m es q ord ns hT hR (((S0.mono (by simp)).trans S1).trans ((Sx.trans St).mono (by simp))) (hA2.stp St (by simp)) upd_same (St.keep0 hx1) (St.keep0 hd2) (St.keep0 hm2) hp hs
  · walk_at "rd"
    intro t ht
    have St := (Stp.refl [] H1).new (o := .tup [.str "paper", .ref q]) ht
    walk_at "rd"
    exact k _ t q es res (S0.dom _ hq) hT hR (((S0.mono (by simp)).trans S1).trans (St.mono (by simp))) (hA1.stp St (by simp)) upd_same (St.keep0 hq1)
/-! ### the law's own walk -/
def sp__law_walked (K : PySem.W.Frag) (A : Ad) : Sp := fun vs H Q _ => ∃ (l : Addr) (n r : Nat) (evs : List V) (log : List Ent) (out : List Nat ⊕ (Nat × List Nat)), vs = [.ref l, .int n, .int r] ∧
  (SqL K H l evs ∧ IsL K H evs log ∧ RO n r 0 [] log out ∧ log.length ≤ 100000 ∧ n ≤ 200 ∧ r ≤ 1000) ∧
  ∀ t q H', H q = none → Stp [] H H' → H' t = some (.tup [.int 0, .ref q]) → H' q = some (.lst (nv (out.elim id Prod.snd))) → Q (.ref t) H'
theorem ok__law_walked {P : Program} {w : World} {K : PySem.W.Frag} {mg : Str → Option Value} {base : Heap} {A : Ad} {f : Addr} {fd : FuncData} (F : Fun K "_law_walked" "_law_walked" s__law_walked f fd) (T : Txt K mg A)  : FnOk P w K mg base CX0 1 f fd ["_law_log", "_law_many", "_law_reach"] (sp__law_walked K A) := by
  refine F.ok sc__law_walked (fun vs H Q E h => by obtain ⟨_, _, _, _, _, _, rfl, _⟩ := h; rfl) (fun cdv A' outer s H vs Q E hr h => ?_)
  obtain ⟨l, n, r, evs, log, out, rfl, ⟨hL, hI, hW, hll, hn, hr1⟩, k⟩ := h
  refine ⟨_, (pss_cons (ps_set (i := 3) sc__law_walked.nd rfl (Or.inl rfl) (pe_lst pa_nil))
        (pss_cons (ps_set (i := 4) sc__law_walked.nd rfl (Or.inl rfl) pe_int)
        (pss_cons (ps_for PassesOwn.never rfl (pi_range1 (by rfl) T.z_range (pa_cons (pv 1) pa_nil)) (pg_name (i := 5) sc__law_walked.nd rfl (Or.inl rfl)) (pss_cons (ps_set (i := 6) sc__law_walked.nd rfl (Or.inl rfl) (pe_callB (SH.cMax2 rfl) (by rfl) T.z_max (by decide +kernel) (pa_cons pe_int (pa_cons (pe_op SH.oSub (pe_callB SH.cLen (by rfl) T.z_len (by decide +kernel) (pa_cons (pv 3) pa_nil)) (pv 2)) pa_nil))))
        (pss_cons (ps_set (i := 7) sc__law_walked.nd rfl (Or.inl rfl) (pe_callB SH.cLen (by rfl) T.z_len (by decide +kernel) (pa_cons (pv 3) pa_nil)))
        (pss_cons (ps_if (pt_cmpR SH.oGt (pv 6) pe_int (nomark _)) (pss_cons (ps_if (PW.pt (pw_or (pt_cmpR SH.oGe (pv 4) (pe_callB SH.cLen (by rfl) T.z_len (by decide +kernel) (pa_cons (pv 0) pa_nil)) (nomark _)) (pw_or1 (pt_cmpR (SH.oNe hr.units) (pe_slice sl_tup (pe_ix SH.ixA (pv 0) (pv 4) (fun _ _ => rfl)) po_none (po_some pe_int)) (pe_tup (pa_cons (pv 5) (pa_cons (pe_ix SH.ixA (pv 3) (pe_op SH.oSub (pv 6) pe_int) (fun _ _ => rfl)) pa_nil))) (nomark _))))) (pss_one (ps_ret (pe_tup (pa_cons (pe_un un_neg pe_int) (pa_cons (pv 3) pa_nil))))) pss_nil)
        (pss_cons (ps_set (i := 4) sc__law_walked.nd rfl (Or.inl rfl) (pe_op SH.oAdd (pv 4) pe_int))
        (pss_one (ps_if (pt_val (pe_ix SH.ixA (pe_ix SH.ixA (pv 0) (pe_op SH.oSub (pv 4) pe_int) (fun _ _ => rfl)) pe_int (fun _ _ => rfl))) (pss_one (ps_ret (pe_tup (pa_cons (pe_op SH.oSub (pv 4) (pe_callB SH.cLen (by rfl) T.z_len (by decide +kernel) (pa_cons (pv 0) pa_nil))) (pa_cons (pv 3) pa_nil))))) pss_nil)))) pss_nil)
        (pss_cons (ps_while PassesOwn.never (pt_cmpR (SH.oLt hr.units0) (pv 6) (pv 7) (nomark _)) (pss_cons (ps_set (i := 8) sc__law_walked.nd rfl (Or.inl rfl) (pe_op SH.oDiv (pe_op SH.oAdd (pv 6) (pv 7)) pe_int))
        (pss_cons (ps_if (PW.pt (pw_or (pt_cmpR SH.oGe (pv 4) (pe_callB SH.cLen (by rfl) T.z_len (by decide +kernel) (pa_cons (pv 0) pa_nil)) (nomark _)) (pw_or1 (pt_cmpR (SH.oNe hr.units) (pe_slice sl_tup (pe_ix SH.ixA (pv 0) (pv 4) (fun _ _ => rfl)) po_none (po_some pe_int)) (pe_tup (pa_cons (pv 5) (pa_cons (pe_ix SH.ixA (pv 3) (pv 8) (fun _ _ => rfl)) pa_nil))) (nomark _))))) (pss_one (ps_ret (pe_tup (pa_cons (pe_un un_neg pe_int) (pa_cons (pv 3) pa_nil))))) pss_nil)
        (pss_cons (ps_if (pt_val (pe_ix SH.ixA (pe_ix SH.ixA (pv 0) (pv 4) (fun _ _ => rfl)) pe_int (fun _ _ => rfl))) (pss_one (ps_set (i := 7) sc__law_walked.nd rfl (Or.inl rfl) (pv 8))) (pss_one (ps_set (i := 6) sc__law_walked.nd rfl (Or.inl rfl) (pe_op SH.oAdd (pv 8) pe_int))))
        (pss_one (ps_set (i := 4) sc__law_walked.nd rfl (Or.inl rfl) (pe_op SH.oAdd (pv 4) pe_int)))))))
        (pss_one (ps_expr (pe_bm PySem.F.plainAttrs_list PySem.F.slot_list_insert PySem.F.type_list_insert SH.mIns (pv 3) (pa_cons (pv 6) (pa_cons (pv 5) pa_nil))))))))))
        (pss_one (ps_ret (pe_tup (pa_cons (pe_op SH.oSub (pv 4) (pe_callB SH.cLen (by rfl) T.z_len (by decide +kernel) (pa_cons (pv 0) pa_nil))) (pa_cons (pv 3) pa_nil)))))))), ?_⟩
  walk_at "begin"
  have hel := isl_len hI
  walk_at "rd"
  intro D hD
  walk_at "rd"
  refine for_it walk_range (fun p σ H' => ∃ (ord : List Nat) (pre rst : List Ent) (v5 v6 v7 v8 : Option V), log = pre ++ rst ∧ RO n r p ord rst out ∧ ord.length = p ∧ (∀ o ∈ ord, o < p) ∧ Stp [] H H' ∧ H' D = some (.lst (nv ord)) ∧ σ = [some (.ref l), some (.int n), some (.int r), some (.ref D), some (.int pre.length), v5, v6, v7, v8])
    ⟨[], [], log, _, _, _, _, rfl, hW, rfl, by simp, (Stp.refl _ _).new hD, upd_same, rfl⟩ (fun _ _ _ _ _ => True.intro) ?_ ?_
  · rintro p x σ H1 H2 hj ⟨ord, pre, rst, v5, v6, v7, v8, hlog, hw, hol, hlt, S, hD1, rfl⟩ ⟨rfl, rfl⟩
    have hp : p < n := by have : p < (n : Int).toNat := hj; omega
    simp only [Int.zero_add]
    have hL2 := S.sql0 hL
    have hat : ∀ (pre' : List Ent) (e : Ent) (rst' : List Ent), log = pre' ++ e :: rst' → ∃ t, evs[pre'.length]? = some (.ref t) ∧ SqT K H2 t [.int (e.a : Nat), .int (e.b : Nat), .bl e.c] ∧ pre'.length < evs.length := fun pre' e rst' h => by
      have hg : log[pre'.length]? = some e := by
        rw [h, List.getElem?_append_right (Nat.le_refl _), Nat.sub_self]
        rfl
      obtain ⟨v, hv, hIs⟩ := isl_get hI hg
      obtain ⟨e', t, he', rfl, ht⟩ := isl_ent hI hv
      rw [hg] at he'
      cases he'
      exact ⟨t, hv, S.sqtM ht, (List.getElem?_eq_some_iff.mp hv).1⟩
    walk_at "ri"
    have e0 : (if (ord.length : Int) - (r : Int) > 0 then (ord.length : Int) - (r : Int) else 0) = ((ord.length - r : Nat) : Int) := by split <;> omega
    rw [e0]
    refine r_J (fun σ H' => ∃ es0 es1 es t, log = (pre ++ es0) ++ (es1 ++ es) ∧ Halv (ord.drop (ord.length - r)) p 0 (ord.drop (ord.length - r)).length es1 t ∧ RO n r (p + 1) (ins ord (ord.length - r + t) p) es out ∧ Stp [] H2 H' ∧ H' D = some (.lst (nv ord)) ∧ σ = [some (.ref l), some (.int n), some (.int r), some (.ref D), some (.int (pre ++ es0).length), some (.int (p : Nat)), some (.int ((ord.length - r : Nat) : Int)), some (.int (ord.length : Nat)), v8]) ?_ fun N hN => ?_
    rotate_left
    · have chk : ∀ {D' : Ends} {o : Nat} {c : Bool} {rst' : List Ent}, True := fun {_ _ _ _} => True.intro
      walk_at "rd"
      refine r_w (fun hc => ?_) fun hc => ?_
      · have hd0 : r < ord.length := by omega
        obtain ⟨o, c, rst', hrst, ho⟩ : ∃ o c rst', rst = ⟨p, o, c⟩ :: rst' ∧ ord[ord.length - r - 1]? = some o := by
          cases hw with
          | done h => omega
          | far h hr ho => exact ⟨_, _, _, rfl, ho⟩
          | put h k0 k kk => cases k0 with
            | none h => omega
            | one h ho => exact ⟨_, _, _, rfl, ho⟩
        obtain ⟨t, hv, ht, hlt'⟩ := hat pre ⟨p, o, c⟩ rst' (by rw [hlog, hrst])
        walk_at "rd"
        refine r_wF (by omega) ?_
        walk_at "rd"
        refine v_ixLn (n := pre.length) hL2 rfl hv ?_
        walk_at "rd"
        refine v_slT2 ht fun q1 hq1 => ?_
        walk_at "rd"
        rw [show ((ord.length - r : Nat) : Int) - 1 = ((ord.length - r - 1 : Nat) : Int) by omega]
        refine v_ixLn (n := ord.length - r - 1) (v := .int o) (SqL.of (upd_old hD1 hq1)) rfl (by unfold nv; rw [List.getElem?_map, ho]; rfl) ?_
        walk_at "rd"
        intro q2 hq2
        refine v_neE (α := Nat × Nat) (is_pr (SqT.of (upd_old upd_same hq2)) is_nat is_nat) (is_pr (SqT.of upd_same) is_nat is_nat) ?_
        rw [decide_eq_true rfl]
        have S2 := ((Stp.refl [] H2).new (o := .tup [.int p, .int o]) hq1).new (o := .tup [.int p, .int o]) hq2
        have hL3 := S2.sql0 hL2
        have ht3 := S2.sqtM ht
        have hD3 := S2.keep0 hD1
        generalize upd (upd H2 q1 (.tup [.int p, .int o])) q2 (.tup [.int p, .int o]) = H3 at S2 hL3 ht3 hD3 ⊢
        refine ⟨_, rfl, ?_⟩
        walk_at "rd"
        rw [show (pre.length : Int) + 1 - 1 = (pre.length : Nat) by omega]
        refine v_ixLn (n := pre.length) hL3 rfl hv ?_
        walk_at "rd"
        refine v_ixTn (n := 2) ht3 rfl rfl ?_
        walk_at "rd"
        cases c with
        | true =>
          rw [if_pos rfl]
          walk_at "rd"
          intro t2 ht2
          have hend : rst' = [] ∧ out = .inr (p, ord) := by
            cases hw with
            | done h => omega
            | far h hr ho => cases hrst; exact ⟨rfl, rfl⟩
            | put h k0 k kk => cases k0 with
              | none h => omega
              | one h ho => cases hrst
          obtain ⟨rfl, rfl⟩ := hend
          have hll2 : log.length = pre.length + 1 := by rw [hlog, hrst, List.length_append]; rfl
          rw [show (pre.length : Int) + 1 - (evs.length : Nat) = 0 by omega]
          have S3 := S2.new (o := .tup [.int 0, .ref D]) ht2
          exact k t2 D _ hD ((S.trans S2).new ht2) upd_same (upd_old hD3 ht2)
        | false =>
          rw [if_neg (by simp)]
          walk_at "rd"
          cases hw with
          | done h => omega
          | far h hr ho => cases hrst
          | @put _ t0 _ es0 es1 es _ h k0 kh kk =>
            cases k0 with
            | none h => omega
            | @one o0 h ho0 =>
              refine hN _ _ ⟨[⟨p, o0, false⟩], es1, es, t0, by rw [hlog]; simp, kh, kk, S2, hD3, ?_⟩
              rw [List.length_append]
              rfl
      · walk_at "rd"
        cases hw with
        | done h => omega
        | far h hr ho => omega
        | @put _ t0 _ es0 es1 es _ h k0 kh kk =>
          cases k0 with
          | one h ho0 => omega
          | none h => exact hN _ _ ⟨[], es1, es, t0, by rw [hlog]; simp, kh, kk, .refl _ _, hD1, by rw [List.append_nil]⟩
    rintro σ H3 ⟨es0, es1, es, t, hlog3, kh, kk, S3, hD3, rfl⟩
    dsimp only
    have hdl : ∀ o ∈ ord.drop (ord.length - r), o < p := fun o ho => hlt o (List.mem_of_mem_drop ho)
    have hdll : (ord.drop (ord.length - r)).length = ord.length - (ord.length - r) := List.length_drop
    have hkb := kh.bd (Nat.zero_le _)
    walk_at "rd"
    refine r_while (fun m σ H' => ∃ (low high : Nat) (ea eb : List Ent) (v8 : Option V), m = high - low ∧ es1 = ea ++ eb ∧ low ≤ high ∧ high ≤ (ord.drop (ord.length - r)).length ∧ Halv (ord.drop (ord.length - r)) p low high eb t ∧ Stp [] H2 H' ∧ H' D = some (.lst (nv ord)) ∧ σ = [some (.ref l), some (.int n), some (.int r), some (.ref D), some (.int (pre ++ es0 ++ ea).length), some (.int (p : Nat)), some (.int ((ord.length - r + low : Nat) : Int)), some (.int ((ord.length - r + high : Nat) : Int)), v8])
      ⟨_, 0, (ord.drop (ord.length - r)).length, [], es1, _, rfl, rfl, Nat.zero_le _, Nat.le_refl _, kh, S3, hD3, by rw [List.append_nil, Nat.add_zero, hdll, show ord.length - r + (ord.length - (ord.length - r)) = ord.length by omega]⟩ ?_
    rintro m σ H4 ⟨low, high, ea, eb, v8', rfl, he1, h1, h2, hh', S4, hD4, rfl⟩
    walk_at "rd"
    have hL4 := S4.sql0 hL2
    rcases hh'.turn hdl with ⟨rfl, rfl, rfl⟩ | ⟨hlh, ox, c, eb', ho, rfl, hk⟩
    · refine r_wF (by omega) ?_
      walk_at "rd"
      refine v_insN hD4 (by omega) (by omega) ?_
      walk_at "rd"
      rw [List.append_nil] at he1
      refine ⟨ins ord (ord.length - r + t) p, pre ++ es0 ++ ea, es, _, _, _, _, by rw [hlog3, he1, List.append_assoc (pre ++ es0)], kk, by rw [ins_perm.length_eq, List.length_cons, hol], fun o ho => ?_, (S.trans S4).putN hD, upd_same, rfl⟩
      rcases List.mem_cons.mp (ins_perm.mem_iff.mp ho) with rfl | ho
      · omega
      · have := hlt o ho; omega
    · obtain ⟨t', hv, ht, hlt'⟩ := hat (pre ++ es0 ++ ea) ⟨p, ox, c⟩ (eb' ++ es) (by rw [hlog3, he1]; simp)
      have ht4 := S4.sqtM ht
      rw [List.getElem?_drop] at ho
      refine r_wT (by omega) ?_
      refine r_next_turn ?_
      walk_at "rd"
      have em : (((ord.length - r + low : Nat) : Int) + ((ord.length - r + high : Nat) : Int)) / 2 = ((ord.length - r + (low + high) / 2 : Nat) : Int) := by omega
      rw [em]
      refine r_wF (by omega) ?_
      walk_at "rd"
      refine v_ixLn (n := (pre ++ es0 ++ ea).length) hL4 rfl hv ?_
      walk_at "rd"
      refine v_slT2 ht4 fun q1 hq1 => ?_
      walk_at "rd"
      refine v_ixLn (n := ord.length - r + (low + high) / 2) (v := .int ox) (SqL.of (upd_old hD4 hq1)) rfl (by unfold nv; rw [List.getElem?_map, ho]; rfl) ?_
      walk_at "rd"
      intro q2 hq2
      refine v_neE (α := Nat × Nat) (is_pr (SqT.of (upd_old upd_same hq2)) is_nat is_nat) (is_pr (SqT.of upd_same) is_nat is_nat) ?_
      rw [decide_eq_true rfl]
      have S5 := ((Stp.refl [] H4).new (o := .tup [.int p, .int ox]) hq1).new (o := .tup [.int p, .int ox]) hq2
      have hL5 := S5.sql0 hL4
      have ht5 := S5.sqtM ht4
      have hD5 := S5.keep0 hD4
      generalize upd (upd H4 q1 (.tup [.int p, .int ox])) q2 (.tup [.int p, .int ox]) = H5 at S5 hL5 ht5 hD5 ⊢
      refine ⟨_, rfl, ?_⟩
      walk_at "rd"
      refine v_ixLn (n := (pre ++ es0 ++ ea).length) hL5 rfl hv ?_
      walk_at "rd"
      refine v_ixTn (n := 2) ht5 rfl rfl ?_
      walk_at "rd"
      cases c with
      | true =>
        walk_at "rd"
        refine ⟨(low + high) / 2 - low, by omega, low, (low + high) / 2, ea ++ [⟨p, ox, true⟩], eb', some (.int ((ord.length - r + (low + high) / 2 : Nat) : Int)), rfl, by rw [he1, List.append_assoc]; rfl, by omega, by omega, hk, S4.trans S5, hD5, ?_⟩
        rw [← List.append_assoc, List.length_append (as := pre ++ es0 ++ ea)]
        rfl
      | false =>
        walk_at "rd"
        refine ⟨high - ((low + high) / 2 + 1), by omega, (low + high) / 2 + 1, high, ea ++ [⟨p, ox, false⟩], eb', some (.int ((ord.length - r + (low + high) / 2 : Nat) : Int)), rfl, by rw [he1, List.append_assoc]; rfl, by omega, by omega, hk, S4.trans S5, hD5, ?_⟩
        rw [← List.append_assoc, List.length_append (as := pre ++ es0 ++ ea)]
        rfl
  · rintro σ H1 ⟨ord, pre, rst, v5, v6, v7, v8, hlog, hw, hol, hlt, S, hD1, rfl⟩
    have hL1 := S.sql0 hL
    rw [show (n : Int).toNat = n by omega] at hw
    cases hw with
    | put h _ _ => omega
    | far h _ _ => omega
    | done h =>
      rw [List.append_nil] at hlog
      subst hlog
      walk_at "rd"
      intro t ht
      rw [show (log.length : Int) - (evs.length : Nat) = 0 by omega]
      exact k t D _ hD (S.new ht) upd_same (upd_old hD1 ht)
/-! ### odds and ends of laws with pairs -/
theorem tabs_stp {T : List NTab} {H H' : Hp} (h : TabsN T H) (S : Stp [] H H') : TabsN T H' := fun p hp => (h p hp).ext fun b o e => S.keep0 e
theorem ext_lst {H H' : Hp} {b : Addr} {xs : List V} (e : ExtN H H') (h : H b = some (.lst xs)) : H' b = some (.lst xs) := e _ _ h (by intro ps z; cases z)
theorem ext_tup {H H' : Hp} {b : Addr} {xs : List V} (e : ExtN H H') (h : H b = some (.tup xs)) : H' b = some (.tup xs) := e _ _ h (by intro ps z; cases z)
theorem RowP.ext {H H' : Hp} {row : List V} {ks : List Int} (h : RowP H row ks) (e : ExtN H H') : RowP H' row ks := ⟨h.1, fun i v z => by obtain ⟨t, h1, h2⟩ := h.2 i v z; exact ⟨t, h1, ext_tup e h2⟩⟩
def kOf (H : Hp) (x : V) : Int × Int := match x with
  | .ref t => (match H t with
    | some (.tup [.int a, .int b]) => (a, b)
    | _ => (0, 0))
  | _ => (0, 0)
theorem kOf_at {H : Hp} {t : Addr} {a b : Int} (h : H t = some (.tup [.int a, .int b])) : kOf H (.ref t) = (a, b) := by simp [kOf, h]
theorem lexB_false {a b c d : Int} (h : SrtO.lexB (a, b) (c, d) = false) : c < a ∨ (c = a ∧ d ≤ b) := by
  have : ¬ (a < c ∨ (a = c ∧ b < d)) := fun z => by
    rw [SrtO.lexB_iff.mpr z] at h
    cases h
  omega
/-- an order that was sorted: what stands ahead of a place is what stands ahead in it -/
theorem sorted_mono {ks : List Int} {H : Hp} {zs : List V} {ord : List Nat} {place : Nat} (hs : SrtO.Srtd (ltP (kOf H)) zs) (ho : ∀ (i o : Nat), ord[i]? = some o → ∃ t, zs[i]? = some (.ref t) ∧ H t = some (.tup [.int (getE ks o), .int (o : Nat)])) :
    ∀ (i j : Nat) (a b : Nat), i < j → ord[i]? = some a → ord[j]? = some b → Ahd ks b place → Ahd ks a place := by
  intro i j a b hij ha hb h
  obtain ⟨t, e1, h1⟩ := ho i a ha
  obtain ⟨u, e2, h2⟩ := ho j b hb
  obtain ⟨hi, e1⟩ := List.getElem?_eq_some_iff.mp e1
  obtain ⟨hj, e2⟩ := List.getElem?_eq_some_iff.mp e2
  have := List.pairwise_iff_getElem.mp hs i j hi hj hij
  rw [e1, e2] at this
  unfold ltP at this
  rw [kOf_at h1, kOf_at h2] at this
  have := lexB_false this
  unfold Ahd at h ⊢
  omega
theorem lexLt2 {a b c d : Int} : HT.lexLt [a, b] [c, d] = decide (a < c ∨ (a = c ∧ b < d)) := by
  simp only [HT.lexLt]
  by_cases e : a = c
  · rw [if_pos e]
    by_cases e2 : b = d
    · rw [if_pos e2]; simp [e, e2]
    · rw [if_neg e2]; simp [e]
  · rw [if_neg e]; simp [e]
theorem rd_extN {H H' : Hp} {a : Addr} {u : HO} (s : ExtN H H') (h : Rd H a u) (n : ∀ ps, u ≠ .tbl ps) : Rd H' a u := by
  rcases h with h | ⟨o, h⟩
  · exact .inl (s _ _ h n)
  · exact .inr ⟨o, s _ _ h (by intro ps z; cases z)⟩
theorem sql_extN {K : PySem.W.Frag} {H H' : Hp} {a : Addr} {xs : List V} (s : ExtN H H') (h : SqL K H a xs) : SqL K H' a xs := by
  rcases h with h | h
  · exact .inl (rd_extN s h (by intro ps z; cases z))
  · exact .inr h
theorem sqt_extN {K : PySem.W.Frag} {H H' : Hp} {a : Addr} {xs : List V} (s : ExtN H H') (h : SqT K H a xs) : SqT K H' a xs := by
  rcases h with h | h
  · exact .inl (rd_extN s h (by intro ps z; cases z))
  · exact .inr h
mutual
theorem dp_extN {K : PySem.W.Frag} {H H' : Hp} (S : ExtN H H') : ∀ (d : PyData) (v : V), Dp K H v d → Dp K H' v d
  | .none, _, h => by cases h; exact .non
  | .bool _, _, h => by cases h; exact .bl _
  | .int _, _, h => by cases h; exact .int _
  | .str _, _, h => by cases h; exact .str _
  | .list ds, _, h => by
    cases h with
    | lst hs ha => exact .lst (sql_extN S hs) (dp_extNs S ds _ ha)
  | .tuple ds, _, h => by
    cases h with
    | tup hs ha => exact .tup (sqt_extN S hs) (dp_extNs S ds _ ha)
  | .dict _, _, h => by cases h
theorem dp_extNs {K : PySem.W.Frag} {H H' : Hp} (S : ExtN H H') : ∀ (ds : List PyData) (vs : List V), DpAll K H vs ds → DpAll K H' vs ds
  | [], _, h => by cases h; exact .nil
  | d :: ds, _, h => by
    cases h with
    | cons h1 h2 => exact .cons (dp_extN S d _ h1) (dp_extNs S ds _ h2)
end
theorem isl_extN {K : PySem.W.Frag} {H H' : Hp} {α : Type} [Enc α] {vs : List V} {xs : List α} (S : ExtN H H') (h : IsL K H vs xs) : IsL K H' vs xs := dp_extNs S _ _ h
theorem sql_or {K : PySem.W.Frag} {H : Hp} {a : Addr} {xs : List V} (h : SqL K H a xs) : ∃ ax : List Addr, (∀ x ∈ ax, H x ≠ none) ∧ (a ∈ ax ∨ ∀ H', SqL K H' a xs) := by
  rcases h with (h | ⟨o, h⟩) | h
  · exact ⟨[a], fun x hx => by rw [List.mem_singleton] at hx; subst hx; rw [h]; simp, .inl (by simp)⟩
  · exact ⟨[a], fun x hx => by rw [List.mem_singleton] at hx; subst hx; rw [h]; simp, .inl (by simp)⟩
  · exact ⟨[], by simp, .inr fun H' => .inr h⟩
/-! ### an asker made of keys: Asker([(key, k) for k, key in enumerate(keys)], AskedRule(teller(log))) -/
structure MkE (K : PySem.W.Frag) (A : Ad) (H : Hp) (ks : List Int) (tl : Addr) (pre : List Ent) (I : Ask) (H' : Hp) : Prop where
  at_ : I.At K A H' []
  e1 : I.tl = tl
  e2 : I.ks = ks
  e3 : I.pre = pre
  e4 : I.sk = 0
  ext : ExtN H H'
  dom : ∀ b, H' b = none → H b = none
  tab : TabsN (Tb A) H'
  far : ∀ b o, H b = some o → b ≠ tl → b ∉ I.M
  far2 : ∀ b o, H b = some o → b ≠ tl → b ∉ I.own
theorem MkE.n {K : PySem.W.Frag} {A : Ad} {H : Hp} {ks : List Int} {tl : Addr} {pre : List Ent} {I : Ask} {H' : Hp} (h : MkE K A H ks tl pre I H') : I.n = ks.length := by unfold Ask.n; rw [h.e2]
theorem MkE.lt {K : PySem.W.Frag} {A : Ad} {H : Hp} {ks : List Int} {tl : Addr} {pre : List Ent} {I : Ask} {H' : Hp} (h : MkE K A H ks tl pre I H') : I.or = fun _ p q => decide (getE ks p < getE ks q) := by unfold Ask.or Ask.lt; rw [h.e2]
theorem askmakeE {K : PySem.W.Frag} {A : Ad} {σ : L2.St} {H : Hp} {Q : VK} {te : TE} {j : Nat} {tl : Addr} {ks : List Int} {pre : List Ent} {tvs : List V}
    (hj : σ[j]? = some (some (.ref tl))) (hte : ∀ Q' : VK, (∀ rq row H1, Stp [] H H1 → H1 rq = some (.lst row) → RowP H1 row ks → Q' (.ref rq) H1) → te σ H Q') (hTb0 : TabsN (Tb A) H) (htl0 : H tl = some (.lst tvs)) (htv0 : IsL K H tvs pre) (few0 : ks.length ≤ 100000) (fewp : pre.length ≤ 100000)
    (k : ∀ H' I, MkE K A H ks tl pre I H' → Q (.ref I.s) H') :
    tMake A.Asker (sp_Asker___init__ K A) [.non] L2.E0 (tCons te (tCons (tMake A.AskedRule (sp_AskedRule___init__ K A) [] L2.E0 (tCons (tCall (sp__law_teller K A) [] L2.E0 (tCons (tVar j) tNil)) tNil)) tNil)) σ H Q := by
  walk_at "rd"
  refine hte _ fun rq row H1 S01 hR hrow => ?_
  have hTb := tabs_stp hTb0 S01
  have htl := S01.keep0 htl0
  have htv := isl_stp S01 htv0
  have few : row.length ≤ 100000 := by rw [hrow.1]; exact few0
  walk_at "rd"
  refine SH.r_var hj ?_
  walk_at "rd"
  refine ⟨.ref tl, rfl, hTb, fun f' H6 cl c' hE hdom hTb6 hf6 hC => ?_⟩
  have hR6 := ext_lst hE hR
  have htl6 := ext_lst hE htl
  have hrow6 := hrow.ext hE
  walk_at "rd"
  intro u du hu hdu hne
  refine ⟨u, .ref f', rfl, ⟨du, upd_same⟩, fun dx => ⟨rfl, ?_⟩⟩
  rw [upd_upd]
  have S7 : Stp [] H6 (upd (upd H6 du (.own u)) u (.ins A.AskedRule dx [("teller", .ref f')])) := ((Stp.refl [] H6).new hdu).putN hu
  have hu7 : upd (upd H6 du (.own u)) u (.ins A.AskedRule dx [("teller", .ref f')]) u = some (.ins A.AskedRule dx [("teller", .ref f')]) := upd_same
  generalize upd (upd H6 du (.own u)) u (.ins A.AskedRule dx [("teller", .ref f')]) = H7 at S7 hu7 ⊢
  have hR7 := S7.keep0 hR6
  have htl7 := S7.keep0 htl6
  have hrow7 := hrow6.stp S7
  have hC7 := hC.step S7
  walk_at "rd"
  intro s dx' hs hdx hne
  have S8 : Stp [] H7 (upd (upd H7 dx' (.own s)) s (.ins A.Asker dx' [])) := ((Stp.refl [] H7).new hdx).new (by rw [upd_ne hne.symm]; exact hs)
  refine ⟨s, rq, .ref u, row, rfl, ⟨dx', upd_same⟩, ⟨S8.sql0 (SqL.of hR7), few⟩, fun dx2 r l H9 hr hl hlr hsr hsl S9 hs9 hr9 hl9 => ⟨rfl, ?_⟩⟩
  have S79 : Stp [] H7 H9 := S8.then S9 (by simp; exact hs)
  have hl0 : H7 l = none := S8.dom l hl
  have hr0 : H7 r = none := S8.dom r hr
  have hE2 : ExtN H1 H9 := hE.trans (ExtN.of fun b o e => S79.keep0 (S7.keep0 e))
  have d0 : ∀ b, H9 b = none → H1 b = none := fun b e => hdom b (S7.dom b (S79.dom b e))
  have ht9 : IsL K H9 tvs pre := by
    have : ∀ (vs : List V) (ps : List Ent), IsL K H1 vs ps → IsL K H9 vs ps := fun vs ps h => isl_extN hE2 h
    exact this _ _ htv
  have hA : Ask.At ⟨s, r, l, dx2, u, dx, f', tl, cl, c', ks, row, pre, 0⟩ K A H9 [] :=
    ⟨hs9, hr9, ⟨[], hl9, isl_nil⟩, S79.keep0 hu7, ⟨tvs, S79.keep0 htl7, by rw [List.drop_nil, List.append_nil]; exact ht9⟩, hC7.step S79, hrow7.stp S79, (ne_of_none hu7 hs).symm, hlr, ne_of_none htl7 hr0, (ne_of_none htl7 hl0).symm, by simp; omega, Nat.le_refl _, few⟩
  refine k H9 ⟨s, r, l, dx2, u, dx, f', tl, cl, c', ks, row, pre, 0⟩ ⟨hA, rfl, rfl, rfl, rfl, (ExtN.of fun b o e => S01.keep0 e).trans hE2, fun b e => S01.dom b (d0 b e), tabs_stp (tabs_stp hTb6 S7) S79, fun b o e n => ?_, fun b o e n => ?_⟩
  · have hb6 : H1 b ≠ none := by rw [S01.keep0 e]; simp
    have n1 : ∀ c, H7 c = none → b ≠ c := fun c hc z => hb6 (by subst z; exact hdom b (S7.dom b hc))
    simp only [Ask.M, List.mem_cons, List.not_mem_nil, or_false, not_or]
    exact ⟨n1 _ hs, n1 _ hl0, n⟩
  · have hb6 : H1 b ≠ none := by rw [S01.keep0 e]; simp
    have n1 : ∀ c, H7 c = none → b ≠ c := fun c hc z => hb6 (by subst z; exact hdom b (S7.dom b hc))
    have n2 : ∀ c, H6 c = none → b ≠ c := fun c hc z => hb6 (by subst z; exact hdom b hc)
    simp only [Ask.own, List.mem_cons, List.not_mem_nil, or_false, not_or]
    exact ⟨n1 _ hs, n1 _ hl0, n, n1 _ hr0, n2 _ hu⟩
theorem v_maxDef0 {K : PySem.W.Frag} {H : Hp} {Q : VK} {p : Addr} {ns : List Nat} (h : SqL K H p (nv ns)) (k : ∀ m : Nat, (∀ y ∈ ns, y ≤ m) → (m = 0 ∨ m ∈ ns) → Q (.int m) H) : rMaxDef K [.ref p] [.int 0] H Q := by
  refine ⟨p, ns.map fun n : Nat => (n : Int), 0, rfl, rfl, by rw [← nv_ints]; exact h, fun e => ?_, fun m h1 h2 => ?_⟩
  · have : ns = [] := List.map_eq_nil_iff.mp e
    exact k 0 (fun y hy => by rw [this] at hy; cases hy) (.inl rfl)
  · obtain ⟨n, hn, rfl⟩ := List.mem_map.mp h1
    exact k n (fun y hy => by have := h2 y (List.mem_map.mpr ⟨y, hy, rfl⟩); omega) (.inr hn)
/-- what was told, either way -/
def ToldT (I : Ask) (K : PySem.W.Frag) (A : Ad) (r : Nat) (log : List Ent) (H H' : Hp) (t : Addr) : Prop := ∃ (es : List Ent) (w : Str) (v : V), Told I.or log es ∧ Stp I.M H H' ∧ I.At K A H' (log ++ es) ∧ H' t = some (.tup [.str w, v]) ∧
  ((w = "refused" ∧ ∃ (x d m : Addr) (q : Nat) (ord ns : List Nat), v = .ref x ∧ RO I.n r 0 [] es (.inr (q, ord)) ∧ H' x = some (exK x (.ref A.TooFar) (some d)) ∧ H' d = some (.xd [("others", .ref m), ("place", .int (q : Nat))]) ∧ H' m = some (.lst (nv ns)) ∧ ns.Perm (ord.drop (ord.length - r - 1)) ∧ ns.Pairwise (· ≤ ·)) ∨
   (w = "paper" ∧ ∃ (pq : Addr) (res : List Nat), v = .ref pq ∧ H pq = none ∧ RO I.n r 0 [] es (.inl res) ∧ H' pq = some (.lst (nv res))))
theorem told_or {I : Ask} {K : PySem.W.Frag} {A : Ad} {H : Hp} {Q : VK} {E : XK} {log : List Ent} {r : Nat} (hA : I.At K A H log) (hn : I.n ≤ 200) (hr : r ≤ 1000) (hlog : log.length + I.pre.length < 50000) (k : ∀ H' t, ToldT I K A r log H H' t → Q (.ref t) H') : sp__law_told K A [.ref I.s, .int r] H Q E :=
  ⟨I, log, r, rfl, ⟨hA, hn, hr, hlog⟩, fun H' t x d m es q ord ns hT hR S hA' ht hx hd hm hp hs => k H' t ⟨es, _, _, hT, S, hA', ht, .inl ⟨rfl, x, d, m, q, ord, ns, rfl, hR, hx, hd, hm, hp, hs⟩⟩,
    fun H' t pq es res hpq hT hR S hA' ht hq => k H' t ⟨es, _, _, hT, S, hA', ht, .inr ⟨rfl, pq, res, rfl, hpq, hR, hq⟩⟩⟩
def sp_law (K : PySem.W.Frag) (A : Ad) : Sp := fun vs H Q _ => ∃ (a : Addr) (ns : List Int), vs = [.ref a] ∧ (SqL K H a (ns.map V.int) ∧ ns.length ≤ 63 ∧ TabsN (Tb A) H) ∧ ∀ H', Q (.bl true) H'
theorem ok_law {P : Program} {w : World} {K : PySem.W.Frag} {mg : Str → Option Value} {base : Heap} {A : Ad} {f : Addr} {fd : FuncData} (F : Fun K "law" "law" s_law f fd) (T : Txt K mg A) (M_Asker_answers : SH.CalM P w K mg base CX0 1 A.Asker "answers" [] (sp_Asker_answers K A)) (C__law_cell_at : SH.Cal P w K mg base CX0 1 "_law_cell_at" [] (sp__law_cell_at K A)) (C__law_crossed : SH.Cal P w K mg base CX0 1 "_law_crossed" [] (sp__law_crossed K A)) (C__law_far : SH.Cal P w K mg base CX0 2 "_law_far" [] (sp__law_far K A)) (C__law_few : SH.Cal P w K mg base CX0 1 "_law_few" [] (sp__law_few K A)) (C__law_in_order : SH.Cal P w K mg base CX0 2 "_law_in_order" [] (sp__law_in_order K A)) (C__law_keys : SH.Cal P w K mg base CX0 3 "_law_keys" [] (sp__law_keys K A)) (C__law_shown : SH.Cal P w K mg base CX0 1 "_law_shown" [] (sp__law_shown K A)) (C__law_teller : SH.Cal P w K mg base CX0 1 "_law_teller" [] (sp__law_teller K A)) (C__law_told : SH.Cal P w K mg base CX0 6 "_law_told" [] (sp__law_told K A)) (C__law_walked : SH.Cal P w K mg base CX0 1 "_law_walked" [] (sp__law_walked K A)) (N_AskedRule : SH.CalC P w K mg base CX0 1 "AskedRule" A.AskedRule [] (sp_AskedRule___init__ K A)) (N_Asker_d1 : SH.CalC P w K mg base CX0 1 "Asker" A.Asker [.non] (sp_Asker___init__ K A)) (C_shows : SH.Cal P w K mg base CX0 6 "shows" [] (sp_shows K A)) : FnOk P w K mg base CX0 7 f fd ["_law_script"] (sp_law K A) := by
  refine F.ok sc_law (fun vs H Q E h => by obtain ⟨_, _, rfl, _⟩ := h; rfl) (fun cdv A' outer s H vs Q E hr h => ?_)
  obtain ⟨a, ns, rfl, ⟨hS, hlen, hTb⟩, k⟩ := h
  refine ⟨_, (pss_cons (ps_set (i := 1) sc_law.nd rfl (Or.inl rfl) (SH.pe_callF C__law_keys hr (by rfl) pass0 (pa_cons (pv 0) (pa_cons pe_int pa_nil))))
        (pss_cons (ps_set (i := 2) sc_law.nd rfl (Or.inl rfl) (pe_op SH.oMod (pe_op SH.oDiv (SH.pe_callF C__law_cell_at hr (by rfl) pass0 (pa_cons (pv 0) (pa_cons pe_int pa_nil))) pe_int) pe_int))
        (pss_cons (ps_if (pt_cmpR (SH.oEq hr.units) (pe_op SH.oMod (SH.pe_callF C__law_cell_at hr (by rfl) pass0 (pa_cons (pv 0) (pa_cons pe_int pa_nil))) pe_int) pe_int (nomark _)) (pss_one (ps_set (i := 2) sc_law.nd rfl (Or.inl rfl) (pe_op SH.oMod (pe_op SH.oDiv (SH.pe_callF C__law_cell_at hr (by rfl) pass0 (pa_cons (pv 0) (pa_cons pe_int pa_nil))) pe_int) pe_int))) pss_nil)
        (pss_cons (ps_set (i := 3) sc_law.nd rfl (Or.inl rfl) (pe_lst pa_nil))
        (pss_cons (ps_set (i := 4) sc_law.nd rfl (Or.inl rfl) (SH.pe_makeF N_Asker_d1 hr (by rfl) pass0 (pa_cons (pe_lc (own := [("_law_k", 12), ("_law_key", 13)]) (g := (gTup K 2 (gCons (gName 12) (gCons (gName 13) gNil)))) (tt := tYes) (by rfl) sc_law.nd (pi_enum (by rfl) T.z_enumerate (pa_cons (pv 1) pa_nil)) (blkOk_by (own := [("_law_k", 12), ("_law_key", 13)]) (N := ["_law_script", "_law_keys_here", "_law_reach", "_law_log", "_law_asker", "_law_counts", "_law_enough", "_law_ahead_of", "_law_word", "_law_told_here", "_law_left", "_law_order", "_law_k", "_law_key"]) (sc := defScope s_law) (by decide +kernel)) (fun _ _ _ _ _ => (pg_tup (by rfl) (pgs_cons (pg_name (i := 12) sc_law.nd rfl (Or.inl rfl)) (pgs_cons (pg_name (i := 13) sc_law.nd rfl (Or.inl rfl)) pgs_nil)))) (fun _ _ _ _ _ => pts_nil) (fun _ _ _ _ _ => (pe_tup (pa_cons (pv 13) (pa_cons (pv 12) pa_nil))))) (pa_cons (SH.pe_makeF N_AskedRule hr (by rfl) pass0 (pa_cons (SH.pe_callF C__law_teller hr (by rfl) pass0 (pa_cons (pv 3) pa_nil)) pa_nil)) pa_nil))))
        (pss_cons (ps_set (i := 5) sc_law.nd rfl (Or.inl rfl) (SH.pe_callF C__law_crossed hr (by rfl) pass0 (pa_cons (pv 1) pa_nil)))
        (pss_cons (ps_set (i := 6) sc_law.nd rfl (Or.inl rfl) (pe_callBK (SH.cr_maxDef rfl hr.units) (by rfl) T.z_max (by decide +kernel) (pa_cons (pv 5) pa_nil) (pk_cons pe_int pk_nil)))
        (pss_cons (ps_set (i := 7) sc_law.nd rfl (Or.inl rfl) (pe_lst pa_nil))
        (pss_cons (ps_asg (SH.pe_callF C__law_told hr (by rfl) pass0 (pa_cons (pv 4) (pa_cons (pv 2) pa_nil))) (pg_tup (by rfl) (pgs_cons (pg_name (i := 8) sc_law.nd rfl (Or.inl rfl)) (pgs_cons (pg_name (i := 9) sc_law.nd rfl (Or.inl rfl)) pgs_nil))))
        (pss_cons (ps_if (pt_cmpR SH.oGt (pv 6) (pv 2) (nomark _)) (pss_cons (ps_if (PW.pt (pw_or (pt_cmpR (SH.oNe hr.units) (pv 8) pe_str (nomark _)) (pw_or (pt_not (pt_val (SH.pe_callF C__law_far hr (by rfl) pass0 (pa_cons (pv 9) (pa_cons (pv 5) (pa_cons (pv 1) (pa_cons (pv 2) pa_nil))))))) (pw_or1 (pt_not (pt_val (SH.pe_callF C__law_few hr (by rfl) pass0 (pa_cons (pv 3) (pa_cons (pv 2) (pa_cons (SH.pe_xfK (SH.xfOf T.ec_TooFar) T.na_TooFar_place (pv 9)) pa_nil)))))))))) (pss_one (ps_ret pe_bl)) pss_nil)
        (pss_cons (ps_asg (SH.pe_callF C__law_walked hr (by rfl) pass0 (pa_cons (pv 3) (pa_cons (pe_callB SH.cLen (by rfl) T.z_len (by decide +kernel) (pa_cons (pv 1) pa_nil)) (pa_cons (pv 2) pa_nil)))) (pg_tup (by rfl) (pgs_cons (pg_name (i := 10) sc_law.nd rfl (Or.inl rfl)) (pgs_cons (pg_name (i := 11) sc_law.nd rfl (Or.inl rfl)) pgs_nil))))
        (pss_cons (ps_if (PW.pt (pw_or (pt_cmpR (SH.oNe hr.units) (pv 10) pe_int (nomark _)) (pw_or1 (pt_cmpR (SH.oNe hr.units) (pe_callB SH.cLen (by rfl) T.z_len (by decide +kernel) (pa_cons (pv 11) pa_nil)) (SH.pe_xfK (SH.xfOf T.ec_TooFar) T.na_TooFar_place (pv 9)) (nomark _))))) (pss_one (ps_ret pe_bl)) pss_nil)
        (pss_cons (ps_set (i := 2) sc_law.nd rfl (Or.inl rfl) (pv 6))
        (pss_cons (ps_set (i := 7) sc_law.nd rfl (Or.inl rfl) (pe_callTy SH.cListOf (by rfl) T.z_list (by decide +kernel) (pa_cons (pv 3) pa_nil)))
        (pss_cons (ps_expr (pe_bm0 PySem.F.plainAttrs_list PySem.F.slot_list_clear PySem.F.type_list_clear mt_clear (pv 3)))
        (pss_one (ps_asg (SH.pe_callF C__law_told hr (by rfl) pass0 (pa_cons (pv 4) (pa_cons (pv 2) pa_nil))) (pg_tup (by rfl) (pgs_cons (pg_name (i := 8) sc_law.nd rfl (Or.inl rfl)) (pgs_cons (pg_name (i := 9) sc_law.nd rfl (Or.inl rfl)) pgs_nil))))))))))) pss_nil)
        (pss_cons (ps_if (PW.pt (pw_or (pt_cmpR (SH.oNe hr.units) (pv 8) pe_str (nomark _)) (pw_or1 (pt_not (pt_val (SH.pe_callF C__law_in_order hr (by rfl) pass0 (pa_cons (pv 9) (pa_cons (pv 1) (pa_cons (pe_callB SH.cLen (by rfl) T.z_len (by decide +kernel) (pa_cons (pv 1) pa_nil)) pa_nil))))))))) (pss_one (ps_ret pe_bl)) pss_nil)
        (pss_cons (ps_if (PW.pt (pw_or (pt_not (pt_val (SH.pe_callF C__law_shown hr (by rfl) pass0 (pa_cons (pv 9) (pa_cons (pv 3) pa_nil))))) (pw_or1 (pt_not (pt_val (SH.pe_callF C__law_few hr (by rfl) pass0 (pa_cons (pv 3) (pa_cons (pv 2) (pa_cons (pe_callB SH.cLen (by rfl) T.z_len (by decide +kernel) (pa_cons (pv 1) pa_nil)) pa_nil))))))))) (pss_one (ps_ret pe_bl)) pss_nil)
        (pss_cons (ps_if (PW.pt (pw_or (pt_cmpR (SH.oNe hr.units) (SH.pe_methF0 (pv 4) M_Asker_answers hr pass0) (pe_op SH.oAdd (pv 7) (pv 3)) (nomark _)) (pw_or1 (pt_cmpR SH.oNotB (SH.pe_callF C_shows hr (by rfl) pass0 (pa_cons (pe_callTy SH.cListOf (by rfl) T.z_list (by decide +kernel) (pa_cons (pv 9) pa_nil)) (pa_cons (SH.pe_methF0 (pv 4) M_Asker_answers hr pass0) pa_nil))) pe_bl (nomark _))))) (pss_one (ps_ret pe_bl)) pss_nil)
        (pss_one (ps_ret (pe_cmpR (SH.oEq hr.units) (SH.pe_callF C__law_walked hr (by rfl) pass0 (pa_cons (pv 3) (pa_cons (pe_callB SH.cLen (by rfl) T.z_len (by decide +kernel) (pa_cons (pv 1) pa_nil)) (pa_cons (pv 2) pa_nil)))) (pe_tup (pa_cons pe_int (pa_cons (pv 9) pa_nil))) (nomark _))))))))))))))))), ?_⟩
  walk_at "begin"
  walk_at "rd"
  refine ⟨a, ns, 60, rfl, ⟨hS, hlen, by decide, by decide⟩, fun kl H1 ks hkl S1 hK hks => ?_⟩
  have hTb1 := tabs_stp hTb S1
  have hS1 := S1.sql0 hS
  clear S1 hS hTb hkl
  walk_at "rd"
  refine ⟨a, ns, 2, rfl, hS1, fun c2 => ?_⟩
  walk_at "ri"
  have m0 := Int.emod_nonneg (c2 / 2) (show (61 : Int) ≠ 0 by decide)
  have m1 := Int.emod_lt_of_pos (c2 / 2) (show (0 : Int) < 61 by decide)
  refine r_J (fun σ H' => H' = H1 ∧ ∃ r : Nat, r ≤ 60 ∧ σ = [some (.ref a), some (.ref kl), some (.int r), none, none, none, none, none, none, none, none, none, none, none]) ?_ fun N hN => ?_
  rotate_left
  · walk_at "rd"
    refine ⟨a, ns, 2, rfl, hS1, fun c2' => ?_⟩
    have m2 := Int.emod_nonneg (c2' / 2) (show (4 : Int) ≠ 0 by decide)
    have m3 := Int.emod_lt_of_pos (c2' / 2) (show (0 : Int) < 4 by decide)
    walk_at "rd"
    refine r_w (fun hc => ?_) fun hc => ?_
    · walk_at "rd"
      refine ⟨a, ns, 2, rfl, hS1, fun c2'' => ?_⟩
      have m4 := Int.emod_nonneg (c2'' / 2) (show (4 : Int) ≠ 0 by decide)
      have m5 := Int.emod_lt_of_pos (c2'' / 2) (show (0 : Int) < 4 by decide)
      walk_at "rd"
      obtain ⟨r, hr⟩ := Int.eq_ofNat_of_zero_le m4
      rw [hr]
      exact hN _ _ ⟨rfl, r, by omega, rfl⟩
    · walk_at "rd"
      obtain ⟨r, hr⟩ := Int.eq_ofNat_of_zero_le m0
      rw [hr]
      exact hN _ _ ⟨rfl, r, by omega, rfl⟩
  rintro σ H1' ⟨rfl, r, hr60, rfl⟩
  dsimp only
  clear hS1
  walk_at "rd"
  intro tl htl
  have S2 := (Stp.refl [] H1').new (o := .lst []) htl
  have hKK := S2.keep0 hK
  have hTb2 := tabs_stp hTb1 S2
  have htl2 := upd_same (H := H1') (a := tl) (o := .lst [])
  have nkt : kl ≠ tl := ne_of_none hK htl
  generalize upd H1' tl (.lst []) = HK at S2 hKK hTb2 htl2 ⊢
  clear S2 hTb1 hK htl
  walk_at "rq"
  refine askmakeE (ks := ks) (pre := []) rfl (fun Q' hQ' => ?_) hTb2 htl2 isl_nil (by omega) (by simp) fun H8 I hM => ?_
  · walk_at "rd"
    intro D hD
    refine lc_it (walk_enum (xs := ks.map V.int)) (fun j H' => Stp [] HK H' ∧ ∃ row : List V, row.length = j ∧ RowP H' row (ks.take j) ∧ H' D = some (.lst row)) ⟨(Stp.refl _ _).new hD, [], rfl, ⟨rfl, fun i v e => by cases e⟩, upd_same⟩ (fun j H' _ z => z.1.sql0 (SqL.of hKK)) ?_ ?_
    · rintro j x H5 H6 hj ⟨S, row, hrl, hrow, hL⟩ ⟨T0, x0, y0, rfl, hT0, rfl, hx0, hy0⟩
      cases hx0
      obtain ⟨n, hn, rfl⟩ := map_at hy0
      rw [List.length_map] at hj
      walk_at "rd"
      intro t ht
      have hL' := upd_old (u := .tup [.int (j : Nat), .int n]) hL hT0
      have htD : t ≠ D := (ne_of_none hL' ht).symm
      have S5 : Stp [D] H5 (upd (upd (upd H5 T0 (.tup [.int (j : Nat), .int n])) t (.tup [.int n, .int (j : Nat)])) D (.lst (row ++ [.ref t]))) := (((Stp.refl [D] H5).new hT0).new ht).putL (by simp) (upd_old hL' ht)
      refine ⟨_, upd_old hL' ht, Nat.lt_of_le_of_lt (m := 1000) (by omega) (by decide), ((S.new hT0).new ht).putN hD, row ++ [.ref t], by simp [hrl], ?_, upd_same⟩
      rw [List.take_succ, hn]
      refine RowP.app (k := n) (hrow.stp S5) ?_
      rw [upd_ne htD, upd_same, hrl]
    rintro H5 ⟨S5, row, hrl, hrow, hD5⟩
    rw [List.length_map, List.take_length] at hrow
    exact hQ' D row H5 S5 hD5 hrow
  have hA := hM.at_
  have hK8 := ext_lst hM.ext hKK
  have hKM := hM.far _ _ hKK nkt
  have hKO := hM.far2 _ _ hKK nkt
  have hlt := hM.lt
  have hn := hM.n
  have hpre := hM.e3
  have hsk := hM.e4
  have htlI := hM.e1
  clear hM hKK hTb2 htl2
  walk_at "rd"
  refine ⟨kl, ks, rfl, ⟨SqL.of hK8, by omega⟩, fun H9 cq S9 hcq hc9 => ?_⟩
  have hK9 := S9.keep0 hK8
  have hA9 := hA.stp S9 (by simp)
  have hcM := hA.fresh hcq
  have hcO := hA.freshO hcq
  clear S9 hK8 hA hcq
  walk_at "rd"
  refine v_maxDef0 (SqL.of hc9) fun en hen1 hen2 => ?_
  have hcr : ∀ p, p < ks.length → crs ks p ≤ en := fun p hp => hen1 _ (List.mem_map.mpr ⟨p, List.mem_range.mpr hp, rfl⟩)
  have hen3 : en = 0 ∨ ∃ p, p < ks.length ∧ crs ks p = en := by
    rcases hen2 with h | h
    · exact .inl h
    · obtain ⟨p, hp, e⟩ := List.mem_map.mp h
      exact .inr ⟨p, List.mem_range.mp hp, e⟩
  have hen4 : en ≤ 200 := by
    rcases hen3 with h | ⟨p, hp, e⟩
    · omega
    · rw [← e]
      unfold crs
      exact Nat.le_trans (List.length_filter_le _ _) (by rw [List.length_range]; omega)
  clear hen1 hen2
  walk_at "rd"
  intro ao hao
  have S10 := (Stp.refl [] H9).new (o := .lst []) hao
  have hao10 := upd_same (H := H9) (a := ao) (o := .lst [])
  have hK10 := S10.keep0 hK9
  have hc10 := S10.keep0 hc9
  have hA10 := hA9.stp S10 (by simp)
  have haM := hA9.fresh hao
  have haO := hA9.freshO hao
  generalize upd H9 ao (.lst []) = H10 at S10 hao10 hK10 hc10 hA10 ⊢
  clear S10 hK9 hc9 hA9 hao
  walk_at "rd"
  refine told_or hA10 (by omega) (by omega) (by rw [hpre]; simp) fun H11 t hTT => ?_
  obtain ⟨es, w, v, hT, S11, hA11, ht11, hcase⟩ := hTT
  rw [List.nil_append] at hA11
  have hTe : ∀ e ∈ es, e.c = decide (getE ks e.a < getE ks e.b) := Told.all (by rw [hlt] at hT; exact hT)
  have hK11 := S11.keep hK10 hKM
  have hc11 := S11.keep hc10 hcM
  have hao11 := S11.keep hao10 haM
  clear S11 hK10 hc10 hao10 hT hA10
  walk_at "ri"
  refine r_J (fun σ H' => ∃ (J : Ask) (ah es2 : List Ent) (r2 pq : Addr) (rr : Nat) (res : List Nat) (avs : List V) (v10 v11 : Option V), J.s = I.s ∧ J.n = ks.length ∧ J.tl = tl ∧ J.pre = [] ∧ J.sk = ah.length ∧ J.At K A H' (ah ++ es2) ∧ (∀ e ∈ ah, e.b < e.a ∧ e.a < ks.length ∧ e.c = decide (getE ks e.a < getE ks e.b)) ∧ ah.length ≤ 50000 ∧ rr ≤ 200 ∧
    (∀ e ∈ es2, e.c = decide (getE ks e.a < getE ks e.b)) ∧ RO ks.length rr 0 [] es2 (.inl res) ∧ H' kl = some (.lst (ks.map V.int)) ∧ H' r2 = some (.lst avs) ∧ IsL K H' avs ah ∧ H' pq = some (.lst (nv res)) ∧
    σ = [some (.ref a), some (.ref kl), some (.int rr), some (.ref tl), some (.ref I.s), some (.ref cq), some (.int en), some (.ref r2), some (.str "paper"), some (.ref pq), v10, v11, none, none]) ?_ fun N hN => ?_
  rotate_left
  · obtain ⟨tvs, htl11, htv11⟩ := hA11.ht
    rw [hpre, hsk, List.drop_zero, List.nil_append] at htv11
    rw [htlI] at htl11
    have htvl := isl_len htv11
    rcases hcase with ⟨rfl, x, d, m, q, ord, ns', rfl, hR, hx11, hd11, hm11, hp11, hs11⟩ | ⟨rfl, pq, res, rfl, hpq, hR, hq11⟩
    · rw [hn] at hR
      obtain ⟨⟨log', hso⟩, _, hq, hlow, hrl, hxx, hent⟩ := hR.over rfl sofar0 hTe
      have hov := over_crs hso hrl hxx
      have hqe := hcr q hq
      have hel := hR.len rfl (Nat.zero_le _)
      have hel2 : es.length ≤ 40200 := Nat.le_trans hel (Nat.le_trans (Nat.mul_le_mul (by omega : ks.length - 0 ≤ 200) (by omega : ks.length + 1 ≤ 201)) (by decide))
      have hnd : ns'.Nodup := hp11.nodup_iff.mpr ((List.drop_sublist _ _).nodup (hso.perm.nodup_iff.mpr List.nodup_range))
      have hstr : ns'.Pairwise (· < ·) := by
        have := List.Pairwise.and hs11 hnd
        exact this.imp fun ⟨a, b⟩ => by omega
      walk_at "rd"
      refine r_wT (by omega) ?_
      walk_at "rd"
      refine v_neS ?_
      rw [decide_eq_true rfl]
      walk_at "rd"
      refine ⟨x, d, m, cq, kl, ks, ns', q, r, rfl, ⟨⟨hx11, hd11, hm11⟩, ⟨SqL.of hc11, SqL.of hK11, by omega⟩, ⟨hq, fun j hj => hlow j (Nat.zero_le _) hj, hov⟩, hstr, by rw [hp11.length_eq, List.length_drop]; omega, fun o ho => ?_⟩, fun H12 S12 => ?_⟩
      · have ho' := hp11.mem_iff.mp ho
        exact ⟨hso.lt (List.mem_of_mem_drop ho'), hxx o ho'⟩
      have hx12 := S12.keep0 hx11
      have hd12 := S12.keep0 hd11
      have htl12 := S12.keep0 htl11
      have htv12 := isl_stp S12 htv11
      have hK12 := S12.keep0 hK11
      have hao12 := S12.keep0 hao11
      have hA12 := hA11.stp S12 (by simp)
      clear S12 hx11 hd11 htl11 htv11 hK11 hao11 hA11 hm11 hc11 ht11
      walk_at "rd"
      refine ⟨tl, tvs, es, r, q, rfl, ⟨SqL.of htl12, htv12, by omega, fun e he => (hent e he).2, (hR.few (by simp)).2⟩, fun H13 S13 => ?_⟩
      have hx13 := S13.keep0 hx12
      have hd13 := S13.keep0 hd12
      have htl13 := S13.keep0 htl12
      have htv13 := isl_stp S13 htv12
      have hK13 := S13.keep0 hK12
      have hao13 := S13.keep0 hao12
      have hA13 := hA12.stp S13 (by simp)
      clear S13 hx12 hd12 htl12 htv12 hK12 hao12 hA12
      walk_at "rd"
      refine ⟨tl, ks.length, r, tvs, es, _, rfl, ⟨SqL.of htl13, htv13, hR, by omega, by omega, by omega⟩, fun t2 q2 H14 hq2 S14 ht14 hq14 => ?_⟩
      have hx14 := S14.keep0 hx13
      have hd14 := S14.keep0 hd13
      have htl14 := S14.keep0 htl13
      have htv14 := isl_stp S14 htv13
      have hK14 := S14.keep0 hK13
      have hao14 := S14.keep0 hao13
      have hA14 := hA13.stp S14 (by simp)
      have hql : (Sum.elim id Prod.snd (Sum.inr (q, ord) : List Nat ⊕ (Nat × List Nat))).length = q := hso.len
      generalize (Sum.elim id Prod.snd (Sum.inr (q, ord) : List Nat ⊕ (Nat × List Nat))) = od at hq14 hql
      clear S14 hx13 hd13 htl13 htv13 hK13 hao13 hA13
      walk_at "rd"
      refine r_nwF rfl ?_
      walk_at "rd"
      rw [hql]
      refine r_nwF rfl ?_
      walk_at "rd"
      intro ah hah
      have S15 := (Stp.refl [] H14).new (o := .lst tvs) hah
      have hah15 := upd_same (H := H14) (a := ah) (o := .lst tvs)
      have htl15 := S15.keep0 htl14
      have htv15 := isl_stp S15 htv14
      have hK15 := S15.keep0 hK14
      have hA15 := hA14.stp S15 (by simp)
      have nah : ah ≠ tl := (ne_of_none htl14 hah).symm
      have nahM := hA14.fresh hah
      generalize upd H14 ah (.lst tvs) = H15 at S15 hah15 htl15 htv15 hK15 hA15 ⊢
      clear S15 htl14 htv14 hK14 hA14 hx14 hd14 hah ht14 hq14
      walk_at "rd"
      refine v_clear htl15 ?_
      have S16 : Stp [tl] H15 (upd H15 tl (.lst [])) := (Stp.refl _ _).putL (by simp) htl15
      have hA16 := hA15.wipe
      rw [htlI] at hA16
      have hah16 := S16.keep1 hah15 nah
      have hK16 := S16.keep1 hK15 nkt
      have htv16 := isl_stpM S16 htv15
      change (tSeq _ _ _ _ (upd H15 tl (.lst [])))
      generalize upd H15 tl (.lst []) = H16 at S16 hA16 hah16 hK16 htv16 ⊢
      clear S16 htl15 htv15 hK15 hA15 hah15
      walk_at "rd"
      refine told_or (I := I.skp es.length) hA16 (by show I.n ≤ 200; omega) (by omega) (by show es.length + 0 < 50000; omega) fun H17 t3 hTT => ?_
      obtain ⟨es2, w2, v2, hT2, S17, hA17, ht17, hcase2⟩ := hTT
      have hTe2 : ∀ e ∈ es2, e.c = decide (getE ks e.a < getE ks e.b) := Told.all (by
        have : (I.skp es.length).or = fun _ p q => decide (getE ks p < getE ks q) := hlt
        rw [this] at hT2
        exact hT2)
      have hK17 := S17.keep hK16 hKM
      have hah17 := S17.keep hah16 nahM
      have htv17 := isl_stpM S17 htv16
      have hnJ : (I.skp es.length).n = ks.length := hn
      clear S17 hT2 hK16 hah16 htv16 hA16
      rcases hcase2 with ⟨rfl, x2, d2, m2, q2', ord2, ns2, rfl, hR2, _⟩ | ⟨rfl, pq, res, rfl, _, hR2, hq17⟩
      · rw [hnJ] at hR2
        obtain ⟨⟨log2, hso2⟩, _, hq2, _, hrl2, hxx2, _⟩ := hR2.over rfl sofar0 hTe2
        have := over_crs hso2 hrl2 hxx2
        have := hcr q2' hq2
        omega
      · rw [hnJ] at hR2
        walk_at "rd"
        exact hN _ _ ⟨I.skp es.length, es, es2, ah, pq, en, res, tvs, _, _, rfl, hnJ, htlI, rfl, rfl, hA17, fun e he => ⟨(hent e he).1, by have := (hent e he).2; omega, hTe e he⟩, by omega, hen4, hTe2, hR2, hK17, hah17, htv17, hq17, rfl⟩
    · rw [hn] at hR
      obtain ⟨hso, hcr2⟩ := hR.paper rfl sofar0 (Nat.zero_le _) hTe
      walk_at "rd"
      refine r_wF (by
        rcases hen3 with h | ⟨p, hp, e⟩
        · omega
        · have := hcr2 p (Nat.zero_le _) hp
          omega) ?_
      walk_at "rd"
      exact hN _ _ ⟨I, [], es, ao, pq, r, res, [], _, _, rfl, hn, htlI, hpre, hsk, hA11, fun e he => (by cases he), by simp, by omega, hTe, hR, hK11, hao11, isl_nil, hq11, rfl⟩
  rintro σ H12 ⟨J, ah, es2, ao2, pq, rr, res, avs, v10, v11, hJs, hJn, hJtl, hJp, hJk, hA12, hah, hahl, hrr, hTe2, hR2, hK12, hao12, hav12, hpq12, rfl⟩
  dsimp only
  obtain ⟨hso, _⟩ := hR2.paper rfl sofar0 (Nat.zero_le _) hTe2
  rw [List.nil_append] at hso
  have hres := hso.len
  have hel := hR2.len rfl (Nat.zero_le _)
  have hel2 : es2.length ≤ 40200 := Nat.le_trans hel (Nat.le_trans (Nat.mul_le_mul (by omega : ks.length - 0 ≤ 200) (by omega : ks.length + 1 ≤ 201)) (by decide))
  have hgt : ∀ e ∈ es2, e.b < e.a := fun e he => (hso.ent e he).1
  have hnb : ∀ (i u v : Nat), res[i]? = some u → res[i + 1]? = some v → Ahd ks u v := fun i u v hu hv => pw_nb hso.pw hu hv
  obtain ⟨tvs, htl12, htv12⟩ := hA12.ht
  rw [hJp, hJk, List.drop_append_of_le_length (Nat.le_refl _), List.drop_length, List.nil_append, List.nil_append] at htv12
  rw [hJtl] at htl12
  have htvl := isl_len htv12
  have havl := isl_len hav12
  walk_at "rd"
  refine v_neS ?_
  rw [decide_eq_true rfl]
  walk_at "rd"
  rw [← hres]
  refine ⟨pq, kl, res, ks, rfl, ⟨hpq12, SqL.of hK12, fun p hp => hso.lt hp, by omega, hnb⟩, fun H13 S13 => ?_⟩
  have hpq13 := S13.keep0 hpq12
  have htl13 := S13.keep0 htl12
  have htv13 := isl_stp S13 htv12
  have hao13 := S13.keep0 hao12
  have hav13 := isl_stp S13 hav12
  have hK13 := S13.keep0 hK12
  have hA13 := hA12.stp S13 (by simp)
  clear S13 hpq12 htl12 htv12 hao12 hav12 hK12 hA12
  walk_at "rd"
  refine ⟨pq, tl, res, tvs, es2, rfl, ⟨SqL.of hpq13, SqL.of htl13, htv13, hgt, by omega, hso.ask⟩, fun H14 S14 => ?_⟩
  have hpq14 := S14.keep0 hpq13
  have htl14 := S14.keep0 htl13
  have htv14 := isl_stp S14 htv13
  have hao14 := S14.keep0 hao13
  have hav14 := isl_stp S14 hav13
  have hK14 := S14.keep0 hK13
  have hA14 := hA13.stp S14 (by simp)
  clear S14 hpq13 htl13 htv13 hao13 hav13 hK13 hA13
  walk_at "rd"
  refine ⟨tl, tvs, es2, rr, ks.length, rfl, ⟨SqL.of htl14, htv14, by omega, fun e he => by have := (hso.ent e he).2; omega, (hR2.few (by simp)).2⟩, fun H15 S15 => ?_⟩
  have hpq15 := S15.keep0 hpq14
  have hK15 := S15.keep0 hK14
  have htl15 := S15.keep0 htl14
  have htv15 := isl_stp S15 htv14
  have hao15 := S15.keep0 hao14
  have hav15 := isl_stp S15 hav14
  have hA15 := hA14.stp S15 (by simp)
  have hs15 := hA15.hs
  unfold AskF at hs15
  rw [hJs] at hs15
  clear S15 hpq14 htl14 htv14 hao14 hav14 hA14
  walk_at "rd"
  refine ⟨J, ah ++ es2, by rw [hJs]; rfl, hA15, fun q3 H16 evs3 hq3 S16 hq16 hI16 => ?_⟩
  have hpq16 := S16.keep0 hpq15
  have hK16 := S16.keep0 hK15
  have htl16 := S16.keep0 htl15
  have htv16 := isl_stp S16 htv15
  have hao16 := S16.keep0 hao15
  have hav16 := isl_stp S16 hav15
  have hA16 := hA15.stp S16 (by simp)
  clear S16 hpq15 htl15 htv15 hao15 hav15 hA15 hs15 hq3
  walk_at "rd"
  refine v_addL hao16 htl16 (Nat.le_trans (m := 1000000) (by omega) (by decide)) fun q4 hq4 => ?_
  have S17 := (Stp.refl [] H16).new (o := .lst (avs ++ tvs)) hq4
  have hq17 := upd_same (H := H16) (a := q4) (o := .lst (avs ++ tvs))
  have hq3 := S17.keep0 hq16
  have hI17 := isl_stp S17 hI16
  have hpq17 := S17.keep0 hpq16
  have hK17 := S17.keep0 hK16
  have htl17 := S17.keep0 htl16
  have htv17 := isl_stp S17 htv16
  have hav17 := isl_stp S17 hav16
  have hA17 := hA16.stp S17 (by simp)
  generalize upd H16 q4 (.lst (avs ++ tvs)) = H17 at S17 hq17 hq3 hI17 hK17 hpq17 htl17 htv17 hav17 hA17 ⊢
  clear S17 hq16 hI16 hpq16 htl16 htv16 hav16 hA16 hao16 hq4
  refine v_neE (is_lst (SqL.of hq3) hI17) (is_lst (SqL.of hq17) (isl_app hav17 htv17)) ?_
  rw [decide_eq_true rfl]
  refine ⟨_, rfl, ?_⟩
  clear hI17 hq3 hq17
  walk_at "rd"
  intro q5 hq5
  have S18 := (Stp.refl [] H17).new (o := .lst (nv res)) hq5
  have hq18 := upd_same (H := H17) (a := q5) (o := .lst (nv res))
  have hpq18 := S18.keep0 hpq17
  have hK18 := S18.keep0 hK17
  have htl18 := S18.keep0 htl17
  have htv18 := isl_stp S18 htv17
  have hA18 := hA17.stp S18 (by simp)
  have hs18 := hA18.hs
  unfold AskF at hs18
  rw [hJs] at hs18
  generalize upd H17 q5 (.lst (nv res)) = H18 at S18 hq18 hK18 hpq18 htl18 htv18 hA18 hs18 ⊢
  clear S18 hpq17 htl17 htv17 hA17 hq5
  walk_at "rd"
  refine ⟨J, ah ++ es2, by rw [hJs]; rfl, hA18, fun q6 H19 evs6 hq6 S19 hq19 hI19 => ?_⟩
  have hq518 := S19.keep0 hq18
  have hpq19 := S19.keep0 hpq18
  have hK19 := S19.keep0 hK18
  have htl19 := S19.keep0 htl18
  have htv19 := isl_stp S19 htv18
  clear S19 hq18 hpq18 htl18 htv18 hA18 hs18 hq6
  walk_at "rd"
  refine ⟨q5, q6, res, evs6, ah ++ es2, rfl, ⟨SqL.of hq518, SqL.of hq19, hI19, by unfold Pap; rw [hres]; exact hso.perm, by omega, by rw [List.length_append]; omega, fun e he => ?_, fun i u v hu hv => ?_⟩, fun H20 S20 => ?_⟩
  · rcases List.mem_append.mp he with he | he
    · obtain ⟨e1, e2, e3⟩ := hah e he
      refine ⟨by omega, by omega, ?_⟩
      rw [e3, idx_of hso.perm hso.pw e2 (by omega) e1]
    · obtain ⟨e1, e2⟩ := hso.ent e he
      refine ⟨by omega, by omega, ?_⟩
      rw [hTe2 e he, idx_of hso.perm hso.pw e2 (by omega) e1]
  · obtain ⟨e, he, q⟩ := hso.ask i u v hu hv
    exact ⟨e, List.mem_append_right _ he, q⟩
  have hpq20 := S20.keep0 hpq19
  have hK20 := S20.keep0 hK19
  have htl20 := S20.keep0 htl19
  have htv20 := isl_stp S20 htv19
  clear S20 hpq19 htl19 htv19
  walk_at "rd"
  refine r_nwF rfl ?_
  walk_at "rd"
  refine ⟨tl, ks.length, rr, tvs, es2, _, rfl, ⟨SqL.of htl20, htv20, hR2, by omega, by omega, by omega⟩, fun t2 q2 H21 hq2 S21 ht21 hq21 => ?_⟩
  have hpq21 := S21.keep0 hpq20
  have hq21 : H21 q2 = some (.lst (nv res)) := hq21
  walk_at "rd"
  intro t3 ht3
  refine v_eqE (α := Int × List Nat) (x := (0, res)) (y := (0, res)) (is_pr (SqT.of (upd_old ht21 ht3)) is_int (is_lst (SqL.of (upd_old hq21 ht3)) isl_nats)) (is_pr (SqT.of upd_same) is_int (is_lst (SqL.of (upd_old hpq21 ht3)) isl_nats)) ?_
  rw [@decide_eq_true _ (Enc.dec _ _) rfl]
  exact k _
theorem all_mk {l : PySem.W.OpenLaw} {w : World} {K : PySem.W.Frag} {h : Heap} {mg : Str → Option Value} {fa : Addr} (X : K.In h) (G : h.Ns mainGlobals mg) (hfa : mg "law" = some (.ref fa))
    {f1 f2 f3 f4 f5 f6 f7 f8 f9 f10 f11 f12 f13 f14 f15 f16 f17 f18 f19 f20 f21 f22 f23 f24 f25 f26 f27 f28 f29 f30 f31 c_HallError c_NoPaper c_NoPlace c_TooFar c_Spent c_Asker c_Rule c_AskedRule : Addr} {od1 an1 od2 an2 od3 an3 od4 an4 od5 an5 od6 an6 od7 an7 od8 an8 od9 an9 od10 an10 od11 an11 od12 an12 od13 an13 od14 an14 od15 an15 od16 an16 od17 an17 od18 an18 od19 an19 od20 an20 od21 an21 od22 an22 od23 an23 od24 an24 od25 an25 od26 an26 od27 an27 od28 an28 od29 an29 od30 an30 od31 an31 : Option Addr} {sl1 sl2 sl3 sl4 sl5 sl6 sl7 sl8 sl9 sl10 sl11 sl12 sl13 sl14 sl15 sl16 sl17 sl18 sl19 sl20 sl21 sl22 sl23 sl24 sl25 sl26 sl27 sl28 sl29 sl30 sl31 : Array (Option Value)} {oc1 kV1 dc1 pm1 cd1 ct1 oc2 kV2 dc2 pm2 cd2 ct2 oc3 kV3 dc3 pm3 cd3 ct3 oc4 kV4 dc4 pm4 cd4 ct4 oc5 kV5 dc5 pm5 ct5 oc6 kV6 dc6 pm6 cd6 ct6 oc7 kV7 dc7 pm7 cd7 ct7 oc8 kV8 dc8 pm8 cd8 ct8 oc9 kV9 dc9 pm9 cd9 ct9 oc10 kV10 dc10 pm10 cd10 ct10 oc11 kV11 dc11 pm11 cd11 ct11 oc12 kV12 dc12 pm12 cd12 ct12 oc13 kV13 dc13 pm13 cd13 ct13 oc14 kV14 dc14 pm14 cd14 ct14 oc15 kV15 dc15 pm15 cd15 ct15 oc16 kV16 dc16 pm16 cd16 ct16 oc17 kV17 dc17 pm17 cd17 ct17 oc18 kV18 dc18 pm18 cd18 ct18 oc19 kV19 dc19 pm19 cd19 ct19 oc20 kV20 dc20 pm20 cd20 ct20 oc21 kV21 dc21 pm21 cd21 ct21 oc22 kV22 dc22 pm22 cd22 ct22 oc23 kV23 dc23 pm23 cd23 ct23 oc24 kV24 dc24 pm24 cd24 ct24 oc25 kV25 dc25 pm25 cd25 ct25 oc26 kV26 dc26 pm26 cd26 ct26 oc27 kV27 dc27 pm27 cd27 ct27 oc28 kV28 dc28 pm28 cd28 ct28 oc29 kV29 dc29 pm29 cd29 ct29 oc30 kV30 dc30 pm30 cd30 ct30 oc31 kV31 dc31 pm31 cd31 ct31 : Value} {nm_TooFar q_TooFar : Str} {N_TooFar : Addr} {bs_TooFar : List Value} {sn_TooFar : List Str} {su_TooFar : List Value} {ab_TooFar : Bool} {co_TooFar : Option Bool} {dd_TooFar : Option Addr} {m0_TooFar m1_TooFar m2_TooFar m3_TooFar m5_TooFar : Option Value} {cc5 : Addr} {oK5 : Value} {uK5 : Option Addr} {vs5 : Array Value} {sK5 : Array (Option Value)} {P5 : Addr} {dT10 : Addr} {oT10 : Value} {oU10 : Option Addr} {tsl10 : Array (Option Value)} {nT10 : Nat}
    (aC_HallError : PySem.W.nsIn K mainGlobals "HallError" = some (some (.ref c_HallError)))
    (xn_HallError : PySem.W.excIn K c_HallError [.type "ValueError", .type "Exception", .type "BaseException", .type "object"] "ValueError.__new__" = true)
    (kp_HallError : PySem.W.keepIn K (.ref c_HallError) = true)
    (sb_HallError : PySem.W.subIn K (.ref c_HallError) (.type "BaseException") = some true)
    (ty_HallError : PySem.W.typeIn K (.ref c_HallError) = some (.type "type"))
    (e0_HallError : PySem.W.findIn K (.ref c_HallError) "__getattribute__" = some (some (.builtin "BaseException.__getattribute__")))
    (e1_HallError : PySem.W.findIn K (.ref c_HallError) "__getattr__" = some none)
    (e2_HallError : PySem.W.subIn K (.ref c_HallError) (.type "BaseException") = some true)
    (e3_HallError : PySem.W.hasDictIn K c_HallError = true)
    (e4_HallError : PySem.W.findIn K (.ref c_HallError) "__class__" = some (some (.builtin "object.__class__")))
    (e5_HallError : PySem.W.specialIn K (.builtin "object.__class__") "__get__" = some (some (.builtin "getset_descriptor.__get__")))
    (e6_HallError : PySem.W.takesIn K (.builtin "object.__class__") = some true)
    (e7_HallError : PySem.W.mroIn K c_HallError (.type "object") = some true)
    (aC_NoPaper : PySem.W.nsIn K mainGlobals "NoPaper" = some (some (.ref c_NoPaper)))
    (aC_NoPlace : PySem.W.nsIn K mainGlobals "NoPlace" = some (some (.ref c_NoPlace)))
    (aC_TooFar : PySem.W.nsIn K mainGlobals "TooFar" = some (some (.ref c_TooFar)))
    (xL_TooFar : K.lookup c_TooFar = some (excClassObj nm_TooFar q_TooFar c_TooFar N_TooFar bs_TooFar [.ref c_HallError, .type "ValueError", .type "Exception", .type "BaseException", .type "object"] true sn_TooFar su_TooFar ab_TooFar co_TooFar dd_TooFar m0_TooFar m1_TooFar m2_TooFar m3_TooFar m5_TooFar "ValueError.__new__"))
    (sa_TooFar : PySem.W.findIn K (.ref c_TooFar) "__setattr__" = some (some (.builtin "object.__setattr__")))
    (in_TooFar : PySem.W.findIn K (.ref c_TooFar) "__init__" = some (some (.ref f24)))
    (tI_TooFar : PySem.W.typeIn K (.ref f24) = some (.type "function"))
    (na_TooFar_place : PySem.W.findIn K (.ref c_TooFar) "place" = some none)
    (na_TooFar_others : PySem.W.findIn K (.ref c_TooFar) "others" = some none)
    (kp_TooFar : PySem.W.keepIn K (.ref c_TooFar) = true)
    (sb_TooFar : PySem.W.subIn K (.ref c_TooFar) (.type "BaseException") = some true)
    (ty_TooFar : PySem.W.typeIn K (.ref c_TooFar) = some (.type "type"))
    (e0_TooFar : PySem.W.findIn K (.ref c_TooFar) "__getattribute__" = some (some (.builtin "BaseException.__getattribute__")))
    (e1_TooFar : PySem.W.findIn K (.ref c_TooFar) "__getattr__" = some none)
    (e2_TooFar : PySem.W.subIn K (.ref c_TooFar) (.type "BaseException") = some true)
    (e3_TooFar : PySem.W.hasDictIn K c_TooFar = true)
    (e4_TooFar : PySem.W.findIn K (.ref c_TooFar) "__class__" = some (some (.builtin "object.__class__")))
    (e5_TooFar : PySem.W.specialIn K (.builtin "object.__class__") "__get__" = some (some (.builtin "getset_descriptor.__get__")))
    (e6_TooFar : PySem.W.takesIn K (.builtin "object.__class__") = some true)
    (e7_TooFar : PySem.W.mroIn K c_TooFar (.type "object") = some true)
    (aC_Spent : PySem.W.nsIn K mainGlobals "Spent" = some (some (.ref c_Spent)))
    (aC_Asker : PySem.W.nsIn K mainGlobals "Asker" = some (some (.ref c_Asker)))
    (pg_Asker : PySem.W.plainGet K c_Asker Str.empty = true)
    (hd_Asker : PySem.W.hasDictIn K c_Asker = true)
    (po_Asker : PySem.W.plainOver K c_Asker = true)
    (sa_Asker : PySem.W.findIn K (.ref c_Asker) "__setattr__" = some (some (.builtin "object.__setattr__")))
    (mk_Asker : PySem.W.makesIn K c_Asker = true)
    (kc_Asker : PySem.W.keepIn K (.ref c_Asker) = true)
    (na_Asker_row : PySem.W.findIn K (.ref c_Asker) "row" = some none)
    (na_Asker_rule : PySem.W.findIn K (.ref c_Asker) "rule" = some none)
    (na_Asker_most : PySem.W.findIn K (.ref c_Asker) "most" = some none)
    (na_Asker_asked : PySem.W.findIn K (.ref c_Asker) "asked" = some none)
    (na_Asker_log : PySem.W.findIn K (.ref c_Asker) "log" = some none)
    (aC_Rule : PySem.W.nsIn K mainGlobals "Rule" = some (some (.ref c_Rule)))
    (pg_Rule : PySem.W.plainGet K c_Rule Str.empty = true)
    (hd_Rule : PySem.W.hasDictIn K c_Rule = true)
    (po_Rule : PySem.W.plainOver K c_Rule = true)
    (sa_Rule : PySem.W.findIn K (.ref c_Rule) "__setattr__" = some (some (.builtin "object.__setattr__")))
    (mk_Rule : PySem.W.makesIn K c_Rule = true)
    (kc_Rule : PySem.W.keepIn K (.ref c_Rule) = true)
    (aC_AskedRule : PySem.W.nsIn K mainGlobals "AskedRule" = some (some (.ref c_AskedRule)))
    (pg_AskedRule : PySem.W.plainGet K c_AskedRule Str.empty = true)
    (hd_AskedRule : PySem.W.hasDictIn K c_AskedRule = true)
    (po_AskedRule : PySem.W.plainOver K c_AskedRule = true)
    (sa_AskedRule : PySem.W.findIn K (.ref c_AskedRule) "__setattr__" = some (some (.builtin "object.__setattr__")))
    (mk_AskedRule : PySem.W.makesIn K c_AskedRule = true)
    (kc_AskedRule : PySem.W.keepIn K (.ref c_AskedRule) = true)
    (na_AskedRule_teller : PySem.W.findIn K (.ref c_AskedRule) "teller" = some none)
    (a1 : PySem.W.nsIn K mainGlobals "straight" = some (some (.ref f1)))
    (l1 : K.lookup f1 = some ⟨oc1, od1, .func (PySem.W.fnOf "straight" "straight" (defArgs s_straight) (defBody s_straight) (defScope s_straight) .none kV1 dc1 pm1 an1 cd1 ct1), sl1⟩)
    (c1 : PySem.W.codeIn K cd1 "straight" = true)
    (k1 : PySem.W.keepIn K (.ref f1) = true)
    (a2 : PySem.W.nsIn K mainGlobals "is_paper" = some (some (.ref f2)))
    (l2 : K.lookup f2 = some ⟨oc2, od2, .func (PySem.W.fnOf "is_paper" "is_paper" (defArgs s_is_paper) (defBody s_is_paper) (defScope s_is_paper) .none kV2 dc2 pm2 an2 cd2 ct2), sl2⟩)
    (c2 : PySem.W.codeIn K cd2 "is_paper" = true)
    (k2 : PySem.W.keepIn K (.ref f2) = true)
    (a3 : PySem.W.nsIn K mainGlobals "paper_for" = some (some (.ref f3)))
    (l3 : K.lookup f3 = some ⟨oc3, od3, .func (PySem.W.fnOf "paper_for" "paper_for" (defArgs s_paper_for) (defBody s_paper_for) (defScope s_paper_for) .none kV3 dc3 pm3 an3 cd3 ct3), sl3⟩)
    (c3 : PySem.W.codeIn K cd3 "paper_for" = true)
    (k3 : PySem.W.keepIn K (.ref f3) = true)
    (a4 : PySem.W.nsIn K mainGlobals "back" = some (some (.ref f4)))
    (l4 : K.lookup f4 = some ⟨oc4, od4, .func (PySem.W.fnOf "back" "back" (defArgs s_back) (defBody s_back) (defScope s_back) .none kV4 dc4 pm4 an4 cd4 ct4), sl4⟩)
    (c4 : PySem.W.codeIn K cd4 "back" = true)
    (k4 : PySem.W.keepIn K (.ref f4) = true)
    (a5 : PySem.W.nsIn K mainGlobals "_law_teller" = some (some (.ref f5)))
    (l5 : K.lookup f5 = some ⟨oc5, od5, .func (PySem.W.fnOf "_law_teller" "_law_teller" (defArgs s__law_teller) (defBody s__law_teller) (defScope s__law_teller) .none kV5 dc5 pm5 an5 (.ref cc5) ct5), sl5⟩)
    (lc5 : K.lookup cc5 = some ⟨oK5, uK5, .fields vs5, sK5⟩)
    (lp5 : (vs5[11]? : Option Value) = some (.ref P5))
    (hh5 : PySem.W.codeHdIn K cc5 P5 = true)
    (np5 : K.lookup P5 = Option.none)
    (gp5 : mainGlobals ≠ P5)
    (tp5 : h.get? P5 = some (PySem.W.tabObj #[]))
    (c5 : PySem.W.codeIn K (.ref cc5) "_law_teller" = true)
    (k5 : PySem.W.keepIn K (.ref f5) = true)
    (a6_AskedRule : PySem.W.findIn K (.ref c_AskedRule) "__init__" = some (some (.ref f6)))
    (i6 : PySem.W.isFn K (.ref f6) = true)
    (l6 : K.lookup f6 = some ⟨oc6, od6, .func (PySem.W.fnOf "__init__" "AskedRule.__init__" (defArgs s_AskedRule___init__) (defBody s_AskedRule___init__) (defScope s_AskedRule___init__) .none kV6 dc6 pm6 an6 cd6 ct6), sl6⟩)
    (c6 : PySem.W.codeIn K cd6 "AskedRule.__init__" = true)
    (k6 : PySem.W.keepIn K (.ref f6) = true)
    (a7_AskedRule : PySem.W.findIn K (.ref c_AskedRule) "before" = some (some (.ref f7)))
    (i7 : PySem.W.isFn K (.ref f7) = true)
    (l7 : K.lookup f7 = some ⟨oc7, od7, .func (PySem.W.fnOf "before" "AskedRule.before" (defArgs s_AskedRule_before) (defBody s_AskedRule_before) (defScope s_AskedRule_before) .none kV7 dc7 pm7 an7 cd7 ct7), sl7⟩)
    (c7 : PySem.W.codeIn K cd7 "AskedRule.before" = true)
    (k7 : PySem.W.keepIn K (.ref f7) = true)
    (a8_Asker : PySem.W.findIn K (.ref c_Asker) "ahead" = some (some (.ref f8)))
    (i8 : PySem.W.isFn K (.ref f8) = true)
    (l8 : K.lookup f8 = some ⟨oc8, od8, .func (PySem.W.fnOf "ahead" "Asker.ahead" (defArgs s_Asker_ahead) (defBody s_Asker_ahead) (defScope s_Asker_ahead) .none kV8 dc8 pm8 an8 cd8 ct8), sl8⟩)
    (c8 : PySem.W.codeIn K cd8 "Asker.ahead" = true)
    (k8 : PySem.W.keepIn K (.ref f8) = true)
    (a9_Asker : PySem.W.findIn K (.ref c_Asker) "many" = some (some (.ref f9)))
    (i9 : PySem.W.isFn K (.ref f9) = true)
    (l9 : K.lookup f9 = some ⟨oc9, od9, .func (PySem.W.fnOf "many" "Asker.many" (defArgs s_Asker_many) (defBody s_Asker_many) (defScope s_Asker_many) .none kV9 dc9 pm9 an9 cd9 ct9), sl9⟩)
    (c9 : PySem.W.codeIn K cd9 "Asker.many" = true)
    (k9 : PySem.W.keepIn K (.ref f9) = true)
    (a10_Asker : PySem.W.findIn K (.ref c_Asker) "__init__" = some (some (.ref f10)))
    (i10 : PySem.W.isFn K (.ref f10) = true)
    (l10 : K.lookup f10 = some ⟨oc10, od10, .func (PySem.W.fnOf "__init__" "Asker.__init__" (defArgs s_Asker___init__) (defBody s_Asker___init__) (defScope s_Asker___init__) (.ref dT10) kV10 dc10 pm10 an10 cd10 ct10), sl10⟩)
    (lt10 : K.lookup dT10 = some ⟨oT10, oU10, .seq ([Value.none] : List Value).toArray nT10, tsl10⟩)
    (c10 : PySem.W.codeIn K cd10 "Asker.__init__" = true)
    (k10 : PySem.W.keepIn K (.ref f10) = true)
    (a11_Asker : PySem.W.findIn K (.ref c_Asker) "answers" = some (some (.ref f11)))
    (i11 : PySem.W.isFn K (.ref f11) = true)
    (l11 : K.lookup f11 = some ⟨oc11, od11, .func (PySem.W.fnOf "answers" "Asker.answers" (defArgs s_Asker_answers) (defBody s_Asker_answers) (defScope s_Asker_answers) .none kV11 dc11 pm11 an11 cd11 ct11), sl11⟩)
    (c11 : PySem.W.codeIn K cd11 "Asker.answers" = true)
    (k11 : PySem.W.keepIn K (.ref f11) = true)
    (a12 : PySem.W.nsIn K mainGlobals "_law_cell_at" = some (some (.ref f12)))
    (l12 : K.lookup f12 = some ⟨oc12, od12, .func (PySem.W.fnOf "_law_cell_at" "_law_cell_at" (defArgs s__law_cell_at) (defBody s__law_cell_at) (defScope s__law_cell_at) .none kV12 dc12 pm12 an12 cd12 ct12), sl12⟩)
    (c12 : PySem.W.codeIn K cd12 "_law_cell_at" = true)
    (k12 : PySem.W.keepIn K (.ref f12) = true)
    (a13 : PySem.W.nsIn K mainGlobals "_law_stream" = some (some (.ref f13)))
    (l13 : K.lookup f13 = some ⟨oc13, od13, .func (PySem.W.fnOf "_law_stream" "_law_stream" (defArgs s__law_stream) (defBody s__law_stream) (defScope s__law_stream) .none kV13 dc13 pm13 an13 cd13 ct13), sl13⟩)
    (c13 : PySem.W.codeIn K cd13 "_law_stream" = true)
    (k13 : PySem.W.keepIn K (.ref f13) = true)
    (a14 : PySem.W.nsIn K mainGlobals "_law_digits" = some (some (.ref f14)))
    (l14 : K.lookup f14 = some ⟨oc14, od14, .func (PySem.W.fnOf "_law_digits" "_law_digits" (defArgs s__law_digits) (defBody s__law_digits) (defScope s__law_digits) .none kV14 dc14 pm14 an14 cd14 ct14), sl14⟩)
    (c14 : PySem.W.codeIn K cd14 "_law_digits" = true)
    (k14 : PySem.W.keepIn K (.ref f14) = true)
    (a15 : PySem.W.nsIn K mainGlobals "_law_blocks" = some (some (.ref f15)))
    (l15 : K.lookup f15 = some ⟨oc15, od15, .func (PySem.W.fnOf "_law_blocks" "_law_blocks" (defArgs s__law_blocks) (defBody s__law_blocks) (defScope s__law_blocks) .none kV15 dc15 pm15 an15 cd15 ct15), sl15⟩)
    (c15 : PySem.W.codeIn K cd15 "_law_blocks" = true)
    (k15 : PySem.W.keepIn K (.ref f15) = true)
    (a16 : PySem.W.nsIn K mainGlobals "_law_nearly" = some (some (.ref f16)))
    (l16 : K.lookup f16 = some ⟨oc16, od16, .func (PySem.W.fnOf "_law_nearly" "_law_nearly" (defArgs s__law_nearly) (defBody s__law_nearly) (defScope s__law_nearly) .none kV16 dc16 pm16 an16 cd16 ct16), sl16⟩)
    (c16 : PySem.W.codeIn K cd16 "_law_nearly" = true)
    (k16 : PySem.W.keepIn K (.ref f16) = true)
    (a17 : PySem.W.nsIn K mainGlobals "_law_keys" = some (some (.ref f17)))
    (l17 : K.lookup f17 = some ⟨oc17, od17, .func (PySem.W.fnOf "_law_keys" "_law_keys" (defArgs s__law_keys) (defBody s__law_keys) (defScope s__law_keys) .none kV17 dc17 pm17 an17 cd17 ct17), sl17⟩)
    (c17 : PySem.W.codeIn K cd17 "_law_keys" = true)
    (k17 : PySem.W.keepIn K (.ref f17) = true)
    (a18 : PySem.W.nsIn K mainGlobals "spot_of" = some (some (.ref f18)))
    (l18 : K.lookup f18 = some ⟨oc18, od18, .func (PySem.W.fnOf "spot_of" "spot_of" (defArgs s_spot_of) (defBody s_spot_of) (defScope s_spot_of) .none kV18 dc18 pm18 an18 cd18 ct18), sl18⟩)
    (c18 : PySem.W.codeIn K cd18 "spot_of" = true)
    (k18 : PySem.W.keepIn K (.ref f18) = true)
    (a19 : PySem.W.nsIn K mainGlobals "_law_whole" = some (some (.ref f19)))
    (l19 : K.lookup f19 = some ⟨oc19, od19, .func (PySem.W.fnOf "_law_whole" "_law_whole" (defArgs s__law_whole) (defBody s__law_whole) (defScope s__law_whole) .none kV19 dc19 pm19 an19 cd19 ct19), sl19⟩)
    (c19 : PySem.W.codeIn K cd19 "_law_whole" = true)
    (k19 : PySem.W.keepIn K (.ref f19) = true)
    (a20 : PySem.W.nsIn K mainGlobals "_law_in_order" = some (some (.ref f20)))
    (l20 : K.lookup f20 = some ⟨oc20, od20, .func (PySem.W.fnOf "_law_in_order" "_law_in_order" (defArgs s__law_in_order) (defBody s__law_in_order) (defScope s__law_in_order) .none kV20 dc20 pm20 an20 cd20 ct20), sl20⟩)
    (c20 : PySem.W.codeIn K cd20 "_law_in_order" = true)
    (k20 : PySem.W.keepIn K (.ref f20) = true)
    (a21 : PySem.W.nsIn K mainGlobals "_law_shown" = some (some (.ref f21)))
    (l21 : K.lookup f21 = some ⟨oc21, od21, .func (PySem.W.fnOf "_law_shown" "_law_shown" (defArgs s__law_shown) (defBody s__law_shown) (defScope s__law_shown) .none kV21 dc21 pm21 an21 cd21 ct21), sl21⟩)
    (c21 : PySem.W.codeIn K cd21 "_law_shown" = true)
    (k21 : PySem.W.keepIn K (.ref f21) = true)
    (a22 : PySem.W.nsIn K mainGlobals "agrees" = some (some (.ref f22)))
    (l22 : K.lookup f22 = some ⟨oc22, od22, .func (PySem.W.fnOf "agrees" "agrees" (defArgs s_agrees) (defBody s_agrees) (defScope s_agrees) .none kV22 dc22 pm22 an22 cd22 ct22), sl22⟩)
    (c22 : PySem.W.codeIn K cd22 "agrees" = true)
    (k22 : PySem.W.keepIn K (.ref f22) = true)
    (a23 : PySem.W.nsIn K mainGlobals "shows" = some (some (.ref f23)))
    (l23 : K.lookup f23 = some ⟨oc23, od23, .func (PySem.W.fnOf "shows" "shows" (defArgs s_shows) (defBody s_shows) (defScope s_shows) .none kV23 dc23 pm23 an23 cd23 ct23), sl23⟩)
    (c23 : PySem.W.codeIn K cd23 "shows" = true)
    (k23 : PySem.W.keepIn K (.ref f23) = true)
    (i24 : PySem.W.isFn K (.ref f24) = true)
    (l24 : K.lookup f24 = some ⟨oc24, od24, .func (PySem.W.fnOf "__init__" "TooFar.__init__" (defArgs s_TooFar___init__) (defBody s_TooFar___init__) (defScope s_TooFar___init__) .none kV24 dc24 pm24 an24 cd24 ct24), sl24⟩)
    (c24 : PySem.W.codeIn K cd24 "TooFar.__init__" = true)
    (k24 : PySem.W.keepIn K (.ref f24) = true)
    (a25 : PySem.W.nsIn K mainGlobals "by_reach" = some (some (.ref f25)))
    (l25 : K.lookup f25 = some ⟨oc25, od25, .func (PySem.W.fnOf "by_reach" "by_reach" (defArgs s_by_reach) (defBody s_by_reach) (defScope s_by_reach) .none kV25 dc25 pm25 an25 cd25 ct25), sl25⟩)
    (c25 : PySem.W.codeIn K cd25 "by_reach" = true)
    (k25 : PySem.W.keepIn K (.ref f25) = true)
    (a26 : PySem.W.nsIn K mainGlobals "_law_crossed" = some (some (.ref f26)))
    (l26 : K.lookup f26 = some ⟨oc26, od26, .func (PySem.W.fnOf "_law_crossed" "_law_crossed" (defArgs s__law_crossed) (defBody s__law_crossed) (defScope s__law_crossed) .none kV26 dc26 pm26 an26 cd26 ct26), sl26⟩)
    (c26 : PySem.W.codeIn K cd26 "_law_crossed" = true)
    (k26 : PySem.W.keepIn K (.ref f26) = true)
    (a27 : PySem.W.nsIn K mainGlobals "_law_few" = some (some (.ref f27)))
    (l27 : K.lookup f27 = some ⟨oc27, od27, .func (PySem.W.fnOf "_law_few" "_law_few" (defArgs s__law_few) (defBody s__law_few) (defScope s__law_few) .none kV27 dc27 pm27 an27 cd27 ct27), sl27⟩)
    (c27 : PySem.W.codeIn K cd27 "_law_few" = true)
    (k27 : PySem.W.keepIn K (.ref f27) = true)
    (a28 : PySem.W.nsIn K mainGlobals "_law_far" = some (some (.ref f28)))
    (l28 : K.lookup f28 = some ⟨oc28, od28, .func (PySem.W.fnOf "_law_far" "_law_far" (defArgs s__law_far) (defBody s__law_far) (defScope s__law_far) .none kV28 dc28 pm28 an28 cd28 ct28), sl28⟩)
    (c28 : PySem.W.codeIn K cd28 "_law_far" = true)
    (k28 : PySem.W.keepIn K (.ref f28) = true)
    (a29 : PySem.W.nsIn K mainGlobals "_law_told" = some (some (.ref f29)))
    (l29 : K.lookup f29 = some ⟨oc29, od29, .func (PySem.W.fnOf "_law_told" "_law_told" (defArgs s__law_told) (defBody s__law_told) (defScope s__law_told) .none kV29 dc29 pm29 an29 cd29 ct29), sl29⟩)
    (c29 : PySem.W.codeIn K cd29 "_law_told" = true)
    (k29 : PySem.W.keepIn K (.ref f29) = true)
    (a30 : PySem.W.nsIn K mainGlobals "_law_walked" = some (some (.ref f30)))
    (l30 : K.lookup f30 = some ⟨oc30, od30, .func (PySem.W.fnOf "_law_walked" "_law_walked" (defArgs s__law_walked) (defBody s__law_walked) (defScope s__law_walked) .none kV30 dc30 pm30 an30 cd30 ct30), sl30⟩)
    (c30 : PySem.W.codeIn K cd30 "_law_walked" = true)
    (k30 : PySem.W.keepIn K (.ref f30) = true)
    (a31 : PySem.W.nsIn K mainGlobals "law" = some (some (.ref f31)))
    (l31 : K.lookup f31 = some ⟨oc31, od31, .func (PySem.W.fnOf "law" "law" (defArgs s_law) (defBody s_law) (defScope s_law) .none kV31 dc31 pm31 an31 cd31 ct31), sl31⟩)
    (c31 : PySem.W.codeIn K cd31 "law" = true)
    (k31 : PySem.W.keepIn K (.ref f31) = true)
    (z_ValueError : PySem.W.nsIn K mainGlobals "ValueError" = some none)
    (z_len : PySem.W.nsIn K mainGlobals "len" = some none)
    (z_range : PySem.W.nsIn K mainGlobals "range" = some none)
    (z_list : PySem.W.nsIn K mainGlobals "list" = some none)
    (z_enumerate : PySem.W.nsIn K mainGlobals "enumerate" = some none)
    (z_zip : PySem.W.nsIn K mainGlobals "zip" = some none)
    (z_sorted : PySem.W.nsIn K mainGlobals "sorted" = some none)
    (z_max : PySem.W.nsIn K mainGlobals "max" = some none)
    (z_min : PySem.W.nsIn K mainGlobals "min" = some none)
    (z_isinstance : PySem.W.nsIn K mainGlobals "isinstance" = some none)
    (z_int : PySem.W.nsIn K mainGlobals "int" = some none)
    (z_sum : PySem.W.nsIn K mainGlobals "sum" = some none)
    (z_reversed : PySem.W.nsIn K mainGlobals "reversed" = some none)
    (z_bool : PySem.W.nsIn K mainGlobals "bool" = some none)
    (xs_TooFar_HallError : PySem.W.subIn K (.ref c_TooFar) (.ref c_HallError) = some true)
    (kits_TooFar_ValueError : PySem.W.kitOne K (.ref c_TooFar) (.type "ValueError") = some true)
    (kits_TooFar_TooFar : PySem.W.kitOne K (.ref c_TooFar) (.ref c_TooFar) = some true)
    (kits_TooFar_NoPaper : PySem.W.kitOne K (.ref c_TooFar) (.ref c_NoPaper) = some false)
    (kits_TooFar_NoPlace : PySem.W.kitOne K (.ref c_TooFar) (.ref c_NoPlace) = some false)
    (kits_TooFar_Spent : PySem.W.kitOne K (.ref c_TooFar) (.ref c_Spent) = some false) :
    LamX.LawAtS l w K CX0 7 63 "_law_script" mg fa h := by
  have e := hfa.symm.trans (PySem.W.mg_of X G a31)
  cases e
  let A : Ad := ⟨c_HallError, c_NoPaper, c_NoPlace, c_TooFar, c_Spent, c_Asker, c_Rule, c_AskedRule, P5⟩
  have T : Txt K mg A := ⟨PySem.W.mg_none_of X G z_ValueError, PySem.W.mg_none_of X G z_len, PySem.W.mg_none_of X G z_range, PySem.W.mg_none_of X G z_list, PySem.W.mg_none_of X G z_enumerate, PySem.W.mg_none_of X G z_zip, PySem.W.mg_none_of X G z_sorted, PySem.W.mg_none_of X G z_max, PySem.W.mg_none_of X G z_min, PySem.W.mg_none_of X G z_isinstance, PySem.W.mg_none_of X G z_int, PySem.W.mg_none_of X G z_sum, PySem.W.mg_none_of X G z_reversed, PySem.W.mg_none_of X G z_bool, PySem.W.mg_of X G aC_HallError, xn_HallError, kp_HallError, sb_HallError, ty_HallError, ⟨e0_HallError, e1_HallError, e2_HallError, e3_HallError, e4_HallError, e5_HallError, e6_HallError, e7_HallError⟩, PySem.W.mg_of X G aC_NoPaper, PySem.W.mg_of X G aC_NoPlace, PySem.W.mg_of X G aC_TooFar, ⟨⟨_, _, _, _, _, _, _, _, _, _, _, _, _, _, _, xL_TooFar, rfl⟩, sa_TooFar, sb_TooFar, ty_TooFar, kp_TooFar⟩, na_TooFar_place, na_TooFar_others, kp_TooFar, sb_TooFar, ty_TooFar, ⟨e0_TooFar, e1_TooFar, e2_TooFar, e3_TooFar, e4_TooFar, e5_TooFar, e6_TooFar, e7_TooFar⟩, PySem.W.mg_of X G aC_Spent, PySem.W.mg_of X G aC_Asker, ⟨pg_Asker, hd_Asker, po_Asker, sa_Asker⟩, na_Asker_row, na_Asker_rule, na_Asker_most, na_Asker_asked, na_Asker_log, PySem.W.mg_of X G aC_Rule, ⟨pg_Rule, hd_Rule, po_Rule, sa_Rule⟩, PySem.W.mg_of X G aC_AskedRule, ⟨pg_AskedRule, hd_AskedRule, po_AskedRule, sa_AskedRule⟩, na_AskedRule_teller, PySem.W.exm_ref sb_HallError e3_HallError ty_HallError xs_TooFar_HallError, kits_TooFar_ValueError, kits_TooFar_TooFar, kits_TooFar_NoPaper, kits_TooFar_NoPlace, kits_TooFar_Spent⟩
  have F1 := fun_mk (st := s_straight) l1 c1 k1
  have F2 := fun_mk (st := s_is_paper) l2 c2 k2
  have F3 := fun_mk (st := s_paper_for) l3 c3 k3
  have F4 := fun_mk (st := s_back) l4 c4 k4
  have F6 := fun_mk (st := s_AskedRule___init__) l6 c6 k6
  have F7 := fun_mk (st := s_AskedRule_before) l7 c7 k7
  have F8 := fun_mk (st := s_Asker_ahead) l8 c8 k8
  have F9 := fun_mk (st := s_Asker_many) l9 c9 k9
  have F10 := SH.funD_mk (st := s_Asker___init__) (dvs := [.non]) l10 lt10 (.cons rfl .nil) (by simp) c10 k10
  have F11 := fun_mk (st := s_Asker_answers) l11 c11 k11
  have F12 := fun_mk (st := s__law_cell_at) l12 c12 k12
  have F13 := fun_mk (st := s__law_stream) l13 c13 k13
  have F14 := fun_mk (st := s__law_digits) l14 c14 k14
  have F15 := fun_mk (st := s__law_blocks) l15 c15 k15
  have F16 := fun_mk (st := s__law_nearly) l16 c16 k16
  have F17 := fun_mk (st := s__law_keys) l17 c17 k17
  have F18 := fun_mk (st := s_spot_of) l18 c18 k18
  have F19 := fun_mk (st := s__law_whole) l19 c19 k19
  have F20 := fun_mk (st := s__law_in_order) l20 c20 k20
  have F21 := fun_mk (st := s__law_shown) l21 c21 k21
  have F22 := fun_mk (st := s_agrees) l22 c22 k22
  have F23 := fun_mk (st := s_shows) l23 c23 k23
  have F24 := fun_mk (st := s_TooFar___init__) l24 c24 k24
  have F25 := fun_mk (st := s_by_reach) l25 c25 k25
  have F26 := fun_mk (st := s__law_crossed) l26 c26 k26
  have F27 := fun_mk (st := s__law_few) l27 c27 k27
  have F28 := fun_mk (st := s__law_far) l28 c28 k28
  have F29 := fun_mk (st := s__law_told) l29 c29 k29
  have F30 := fun_mk (st := s__law_walked) l30 c30 k30
  have F31 := fun_mk (st := s_law) l31 c31 k31
  refine ⟨PySem.W.fnOf "law" "law" (defArgs s_law) (defBody s_law) (defScope s_law) .none kV31 dc31 pm31 an31 cd31 ct31, [(cc5, P5)], sp_law K A, (fun p hp => by rw [List.mem_singleton] at hp; rw [hp]; exact tp5), (fun p hp => by rw [List.mem_singleton] at hp; rw [hp]; exact np5), (fun p hp => by rw [List.mem_singleton] at hp; rw [hp]; exact PySem.W.codeHd_of_K X hh5), (fun s v => .of_eq rfl), (fun H a ns hl _ hcs hS => ⟨a, ns, rfl, ⟨hS, hl, fun p hp => by rw [List.mem_singleton] at hp; rw [hp]; exact SH.tabN_empty (hcs _ (List.mem_singleton.mpr rfl))⟩, fun _ => rfl⟩), fun base _ _ hTB => ?_⟩
  have TB : LamX.TabB base mg cc5 P5 := hTB _ (List.mem_singleton.mpr rfl)
  have TEL := (cok__law_teller___law_teller_here (P := l.prog) (w := w) (base := base) T).tel
  have O_straight := ok_straight (P := l.prog) (w := w) (base := base) F1 T 
  have X1 : SH.Cal l.prog w K mg base CX0 _ "straight" [] _ := ⟨f1, _, _, _, PySem.W.mg_of X G a1, k1, (F1.binds (ps := ["many"]) fun _ _ _ _ _ _ us hl => match us, hl with | [_], _ => rfl), .nil, O_straight⟩
  have O_is_paper := ok_is_paper (P := l.prog) (w := w) (base := base) F2 T X1
  have X2 : SH.Cal l.prog w K mg base CX0 _ "is_paper" [] _ := ⟨f2, _, _, _, PySem.W.mg_of X G a2, k2, (F2.binds (ps := ["some"]) fun _ _ _ _ _ _ us hl => match us, hl with | [_], _ => rfl), .nil, O_is_paper⟩
  have O_paper_for := ok_paper_for (P := l.prog) (w := w) (base := base) F3 T X2
  have X3 : SH.Cal l.prog w K mg base CX0 _ "paper_for" [] _ := ⟨f3, _, _, _, PySem.W.mg_of X G a3, k3, (F3.binds (ps := ["paper", "many"]) fun _ _ _ _ _ _ us hl => match us, hl with | [_, _], _ => rfl), .nil, O_paper_for⟩
  have O_back := ok_back (P := l.prog) (w := w) (base := base) F4 T X3 X1
  have O__law_teller := ok__law_teller (P := l.prog) (w := w) (base := base) (A := A) l5 c5 TB
  have O_AskedRule___init__ := ok_AskedRule___init__ (P := l.prog) (w := w) (base := base) F6 T 
  have O_AskedRule_before := ok_AskedRule_before (P := l.prog) (w := w) (base := base) F7 T TEL
  have X4 : SH.CalM l.prog w K mg base CX0 _ A.AskedRule "before" [] _ := ⟨T.cl_AskedRule, f7, _, _, _, ⟨a7_AskedRule, i7, k7⟩, (F7.binds (ps := ["self", "x", "y"]) fun _ _ _ _ _ _ us hl => match us, hl with | [_, _, _], _ => rfl), .nil, O_AskedRule_before⟩
  have O_Asker_ahead := ok_Asker_ahead (P := l.prog) (w := w) (base := base) F8 T X4
  have O_Asker_many := ok_Asker_many (P := l.prog) (w := w) (base := base) F9 T 
  have O_Asker___init__ := ok_Asker___init__ (P := l.prog) (w := w) (base := base) F10 T 
  have O_Asker_answers := ok_Asker_answers (P := l.prog) (w := w) (base := base) F11 T 
  have O__law_cell_at := ok__law_cell_at (P := l.prog) (w := w) (base := base) F12 T 
  have O__law_stream := ok__law_stream (P := l.prog) (w := w) (base := base) F13 T 
  have X5 : SH.Cal l.prog w K mg base CX0 _ "_law_cell_at" [] _ := ⟨f12, _, _, _, PySem.W.mg_of X G a12, k12, (F12.binds (ps := ["_law_script", "_law_k"]) fun _ _ _ _ _ _ us hl => match us, hl with | [_, _], _ => rfl), .nil, O__law_cell_at⟩
  have X6 : SH.Cal l.prog w K mg base CX0 _ "_law_stream" [] _ := ⟨f13, _, _, _, PySem.W.mg_of X G a13, k13, (F13.binds (ps := ["_law_cell", "_law_many"]) fun _ _ _ _ _ _ us hl => match us, hl with | [_, _], _ => rfl), .nil, O__law_stream⟩
  have O__law_digits := ok__law_digits (P := l.prog) (w := w) (base := base) F14 T X5 X6
  have O__law_blocks := ok__law_blocks (P := l.prog) (w := w) (base := base) F15 T X6
  have O__law_nearly := ok__law_nearly (P := l.prog) (w := w) (base := base) F16 T X6
  have X7 : SH.Cal l.prog w K mg base CX0 _ "_law_blocks" [] _ := ⟨f15, _, _, _, PySem.W.mg_of X G a15, k15, (F15.binds (ps := ["_law_keys_here", "_law_cell"]) fun _ _ _ _ _ _ us hl => match us, hl with | [_, _], _ => rfl), .nil, O__law_blocks⟩
  have X8 : SH.Cal l.prog w K mg base CX0 _ "_law_digits" [] _ := ⟨f14, _, _, _, PySem.W.mg_of X G a14, k14, (F14.binds (ps := ["_law_script", "_law_k", "_law_base"]) fun _ _ _ _ _ _ us hl => match us, hl with | [_, _, _], _ => rfl), .nil, O__law_digits⟩
  have X9 : SH.Cal l.prog w K mg base CX0 _ "_law_nearly" [] _ := ⟨f16, _, _, _, PySem.W.mg_of X G a16, k16, (F16.binds (ps := ["_law_keys_here", "_law_cell"]) fun _ _ _ _ _ _ us hl => match us, hl with | [_, _], _ => rfl), .nil, O__law_nearly⟩
  have O__law_keys := ok__law_keys (P := l.prog) (w := w) (base := base) F17 T X7 X5 X8 X9 X6
  have X10 : SH.CalM l.prog w K mg base CX0 _ A.Asker "ahead" [] _ := ⟨T.cl_Asker, f8, _, _, _, ⟨a8_Asker, i8, k8⟩, (F8.binds (ps := ["self", "p", "q"]) fun _ _ _ _ _ _ us hl => match us, hl with | [_, _, _], _ => rfl), .nil, O_Asker_ahead⟩
  have O_spot_of := ok_spot_of (P := l.prog) (w := w) (base := base) F18 T X10
  have O__law_whole := ok__law_whole (P := l.prog) (w := w) (base := base) F19 T 
  have X11 : SH.Cal l.prog w K mg base CX0 _ "_law_whole" [] _ := ⟨f19, _, _, _, PySem.W.mg_of X G a19, k19, (F19.binds (ps := ["_law_found"]) fun _ _ _ _ _ _ us hl => match us, hl with | [_], _ => rfl), .nil, O__law_whole⟩
  have O__law_in_order := ok__law_in_order (P := l.prog) (w := w) (base := base) F20 T X11
  have O__law_shown := ok__law_shown (P := l.prog) (w := w) (base := base) F21 T 
  have X12 : SH.Cal l.prog w K mg base CX0 _ "back" [] _ := ⟨f4, _, _, _, PySem.W.mg_of X G a4, k4, (F4.binds (ps := ["paper"]) fun _ _ _ _ _ _ us hl => match us, hl with | [_], _ => rfl), .nil, O_back⟩
  have O_agrees := ok_agrees (P := l.prog) (w := w) (base := base) F22 T X12
  have X13 : SH.Cal l.prog w K mg base CX0 _ "agrees" [] _ := ⟨f22, _, _, _, PySem.W.mg_of X G a22, k22, (F22.binds (ps := ["paper", "answers"]) fun _ _ _ _ _ _ us hl => match us, hl with | [_, _], _ => rfl), .nil, O_agrees⟩
  have O_shows := ok_shows (P := l.prog) (w := w) (base := base) F23 T X13
  have O_TooFar___init__ := ok_TooFar___init__ (P := l.prog) (w := w) (base := base) F24 T 
  have X14 : SH.CalM l.prog w K mg base CX0 _ A.Asker "many" [] _ := ⟨T.cl_Asker, f9, _, _, _, ⟨a9_Asker, i9, k9⟩, (F9.binds (ps := ["self"]) fun _ _ _ _ _ _ us hl => match us, hl with | [_], _ => rfl), .nil, O_Asker_many⟩
  have X15 : SH.CalE l.prog w K mg base _ "TooFar" A.TooFar _ := ⟨T.ox_TooFar, f24, _, _, T.g_TooFar, in_TooFar, tI_TooFar, (F24.binds (ps := ["self", "place", "others"]) fun _ _ _ _ _ _ us hl => match us, hl with | [_, _, _], _ => rfl), O_TooFar___init__⟩
  have X16 : SH.Cal l.prog w K mg base CX0 _ "spot_of" [] _ := ⟨f18, _, _, _, PySem.W.mg_of X G a18, k18, (F18.binds (ps := ["asker", "order", "place"]) fun _ _ _ _ _ _ us hl => match us, hl with | [_, _, _], _ => rfl), .nil, O_spot_of⟩
  have O_by_reach := ok_by_reach (P := l.prog) (w := w) (base := base) F25 T X10 X14 X15 X16
  have O__law_crossed := ok__law_crossed (P := l.prog) (w := w) (base := base) F26 T 
  have O__law_few := ok__law_few (P := l.prog) (w := w) (base := base) F27 T 
  have O__law_far := ok__law_far (P := l.prog) (w := w) (base := base) F28 T X11
  have X17 : SH.Cal l.prog w K mg base (L2N.CX l.prog w) _ "by_reach" [] _ := ⟨f25, _, _, _, PySem.W.mg_of X G a25, k25, (F25.binds (ps := ["asker", "reach"]) fun _ _ _ _ _ _ us hl => match us, hl with | [_, _], _ => rfl), .nil, O_by_reach⟩
  have O__law_told := ok__law_told (P := l.prog) (w := w) (base := base) F29 T X17
  have O__law_walked := ok__law_walked (P := l.prog) (w := w) (base := base) F30 T 
  have X18 : SH.CalM l.prog w K mg base CX0 _ A.Asker "answers" [] _ := ⟨T.cl_Asker, f11, _, _, _, ⟨a11_Asker, i11, k11⟩, (F11.binds (ps := ["self"]) fun _ _ _ _ _ _ us hl => match us, hl with | [_], _ => rfl), .nil, O_Asker_answers⟩
  have X19 : SH.Cal l.prog w K mg base CX0 _ "_law_crossed" [] _ := ⟨f26, _, _, _, PySem.W.mg_of X G a26, k26, (F26.binds (ps := ["_law_keys_here"]) fun _ _ _ _ _ _ us hl => match us, hl with | [_], _ => rfl), .nil, O__law_crossed⟩
  have X20 : SH.Cal l.prog w K mg base CX0 _ "_law_far" [] _ := ⟨f28, _, _, _, PySem.W.mg_of X G a28, k28, (F28.binds (ps := ["_law_e", "_law_counts", "_law_keys_here", "_law_reach"]) fun _ _ _ _ _ _ us hl => match us, hl with | [_, _, _, _], _ => rfl), .nil, O__law_far⟩
  have X21 : SH.Cal l.prog w K mg base CX0 _ "_law_few" [] _ := ⟨f27, _, _, _, PySem.W.mg_of X G a27, k27, (F27.binds (ps := ["_law_log", "_law_reach", "_law_most"]) fun _ _ _ _ _ _ us hl => match us, hl with | [_, _, _], _ => rfl), .nil, O__law_few⟩
  have X22 : SH.Cal l.prog w K mg base CX0 _ "_law_in_order" [] _ := ⟨f20, _, _, _, PySem.W.mg_of X G a20, k20, (F20.binds (ps := ["_law_order", "_law_keys_here", "_law_many"]) fun _ _ _ _ _ _ us hl => match us, hl with | [_, _, _], _ => rfl), .nil, O__law_in_order⟩
  have X23 : SH.Cal l.prog w K mg base CX0 _ "_law_keys" [] _ := ⟨f17, _, _, _, PySem.W.mg_of X G a17, k17, (F17.binds (ps := ["_law_script", "_law_most"]) fun _ _ _ _ _ _ us hl => match us, hl with | [_, _], _ => rfl), .nil, O__law_keys⟩
  have X24 : SH.Cal l.prog w K mg base CX0 _ "_law_shown" [] _ := ⟨f21, _, _, _, PySem.W.mg_of X G a21, k21, (F21.binds (ps := ["_law_order", "_law_log"]) fun _ _ _ _ _ _ us hl => match us, hl with | [_, _], _ => rfl), .nil, O__law_shown⟩
  have X25 : SH.Cal l.prog w K mg base CX0 _ "_law_teller" [] _ := ⟨f5, _, _, _, PySem.W.mg_of X G a5, k5, (.all fun us hl => match us, hl with | [_], _ => rfl), .nil, O__law_teller⟩
  have X26 : SH.Cal l.prog w K mg base CX0 _ "_law_told" [] _ := ⟨f29, _, _, _, PySem.W.mg_of X G a29, k29, (F29.binds (ps := ["_law_asker", "_law_reach"]) fun _ _ _ _ _ _ us hl => match us, hl with | [_, _], _ => rfl), .nil, O__law_told⟩
  have X27 : SH.Cal l.prog w K mg base CX0 _ "_law_walked" [] _ := ⟨f30, _, _, _, PySem.W.mg_of X G a30, k30, (F30.binds (ps := ["_law_log", "_law_many", "_law_reach"]) fun _ _ _ _ _ _ us hl => match us, hl with | [_, _, _], _ => rfl), .nil, O__law_walked⟩
  have X28 : SH.CalC l.prog w K mg base CX0 _ "AskedRule" A.AskedRule [] _ := ⟨f6, _, _, _, T.g_AskedRule, ⟨mk_AskedRule, a6_AskedRule, i6, kc_AskedRule⟩, (F6.binds (ps := ["self", "teller"]) fun _ _ _ _ _ _ us hl => match us, hl with | [_, _], _ => rfl), .nil, O_AskedRule___init__⟩
  obtain ⟨dsX29, vdX29, bdX29⟩ := F10.binds1 (ps := ["self", "row", "rule", "most"]) 3 0 (by simp) rfl (fun _ _ _ _ _ _ _ us its hu hi => match us, its, hu, hi with | [_, _, _], [_], _, _ => ⟨_, rfl, rfl⟩)
  have X29 : SH.CalC l.prog w K mg base CX0 _ "Asker" A.Asker [.non] _ := ⟨f10, _, _, _, T.g_Asker, ⟨mk_Asker, a10_Asker, i10, kc_Asker⟩, bdX29, vdX29, O_Asker___init__⟩
  have X30 : SH.Cal l.prog w K mg base CX0 _ "shows" [] _ := ⟨f23, _, _, _, PySem.W.mg_of X G a23, k23, (F23.binds (ps := ["paper", "answers"]) fun _ _ _ _ _ _ us hl => match us, hl with | [_, _], _ => rfl), .nil, O_shows⟩
  have O_law := ok_law (P := l.prog) (w := w) (base := base) F31 T X18 X5 X19 X20 X21 X22 X23 X24 X25 X26 X27 X28 X29 X30
  exact O_law
theorem walk {l : PySem.W.OpenLaw} {q : Program} {loose : List Str} {XP : (Str → Option Value) → Heap → Prop} {YP : World → Heap → Prop} {d : DefRec} {K : Params → PySem.W.Frag} (hn : l.most = some 63) (hdf : d.params.defaults = [])
    (hY : ∀ (w : World) (h : Heap), YP w h → (K w.params).In h)
    (F : ∀ (w : World) (mg : Str → Option Value) (fa : Addr) (h : Heap), YP w h → (K w.params).In h → h.Ns mainGlobals mg → mg d.name = some (.ref fa) → LamX.LawAtS l w (K w.params) CX0 7 63 "_law_script" mg fa h) :
    PySem.W.WalkO q loose XP YP l.row.toRowW d [] (fun f vs => PySem.call f vs) :=
  LamX.walk_ofTs (n := 63) (k := 7) (x := "_law_script") (CX := fun _ => CX0) hn (by decide) hdf ⟨rfl, by decide, by decide⟩ hY F fun _ _ _ _ _ z => z
end Law

open PySem PySem.W PyProof.Rows
set_option maxRecDepth 100000 in
set_option maxHeartbeats 0 in
theorem PySem.Challenge.cw_sorthall_k38_whole_reach_holds : PySem.Challenge.rw_sorthall_k38_whole_reach.Holds := by
  w_on; o_law; k_head; (case hw => w_witness2)
  k_fill
  refine Law.walk (l := PySem.Challenge.rw_sorthall_k38_whole_reach) rfl rfl (fun w h Y => PySem.W.km_in_of Y) ?F
  case F =>
    intro w mg fa h Y KX G hmg
    refine' Law.all_mk KX G hmg ?aC_HallError ?xn_HallError ?kp_HallError ?sb_HallError ?ty_HallError ?e0_HallError ?e1_HallError ?e2_HallError ?e3_HallError ?e4_HallError ?e5_HallError ?e6_HallError ?e7_HallError ?aC_NoPaper ?aC_NoPlace ?aC_TooFar ?xL_TooFar ?sa_TooFar ?in_TooFar ?tI_TooFar ?na_TooFar_place ?na_TooFar_others ?kp_TooFar ?sb_TooFar ?ty_TooFar ?e0_TooFar ?e1_TooFar ?e2_TooFar ?e3_TooFar ?e4_TooFar ?e5_TooFar ?e6_TooFar ?e7_TooFar ?aC_Spent ?aC_Asker ?pg_Asker ?hd_Asker ?po_Asker ?sa_Asker ?mk_Asker ?kc_Asker ?na_Asker_row ?na_Asker_rule ?na_Asker_most ?na_Asker_asked ?na_Asker_log ?aC_Rule ?pg_Rule ?hd_Rule ?po_Rule ?sa_Rule ?mk_Rule ?kc_Rule ?aC_AskedRule ?pg_AskedRule ?hd_AskedRule ?po_AskedRule ?sa_AskedRule ?mk_AskedRule ?kc_AskedRule ?na_AskedRule_teller ?a1 ?l1 ?c1 ?k1 ?a2 ?l2 ?c2 ?k2 ?a3 ?l3 ?c3 ?k3 ?a4 ?l4 ?c4 ?k4 ?a5 ?l5 ?lc5 ?lp5 ?hh5 ?np5 ?gp5 ?tp5 ?c5 ?k5 ?a6_AskedRule ?i6 ?l6 ?c6 ?k6 ?a7_AskedRule ?i7 ?l7 ?c7 ?k7 ?a8_Asker ?i8 ?l8 ?c8 ?k8 ?a9_Asker ?i9 ?l9 ?c9 ?k9 ?a10_Asker ?i10 ?l10 ?lt10 ?c10 ?k10 ?a11_Asker ?i11 ?l11 ?c11 ?k11 ?a12 ?l12 ?c12 ?k12 ?a13 ?l13 ?c13 ?k13 ?a14 ?l14 ?c14 ?k14 ?a15 ?l15 ?c15 ?k15 ?a16 ?l16 ?c16 ?k16 ?a17 ?l17 ?c17 ?k17 ?a18 ?l18 ?c18 ?k18 ?a19 ?l19 ?c19 ?k19 ?a20 ?l20 ?c20 ?k20 ?a21 ?l21 ?c21 ?k21 ?a22 ?l22 ?c22 ?k22 ?a23 ?l23 ?c23 ?k23 ?i24 ?l24 ?c24 ?k24 ?a25 ?l25 ?c25 ?k25 ?a26 ?l26 ?c26 ?k26 ?a27 ?l27 ?c27 ?k27 ?a28 ?l28 ?c28 ?k28 ?a29 ?l29 ?c29 ?k29 ?a30 ?l30 ?c30 ?k30 ?a31 ?l31 ?c31 ?k31 ?z_ValueError ?z_len ?z_range ?z_list ?z_enumerate ?z_zip ?z_sorted ?z_max ?z_min ?z_isinstance ?z_int ?z_sum ?z_reversed ?z_bool ?xs_TooFar_HallError ?kits_TooFar_ValueError ?kits_TooFar_TooFar ?kits_TooFar_NoPaper ?kits_TooFar_NoPlace ?kits_TooFar_Spent
    (case aC_HallError => k_is); (case xn_HallError => (first | k_is | k_exc)); (case kp_HallError => k_is); (case sb_HallError => k_is); (case ty_HallError => k_is); (case e0_HallError => k_is); (case e1_HallError => k_is); (case e2_HallError => k_is); (case e3_HallError => k_is); (case e4_HallError => k_is); (case e5_HallError => k_is); (case e6_HallError => k_is); (case e7_HallError => k_is); (case aC_NoPaper => k_is); (case aC_NoPlace => k_is); (case aC_TooFar => k_is); (case xL_TooFar => k_is); (case sa_TooFar => k_is); (case in_TooFar => k_is); (case tI_TooFar => k_is); (case na_TooFar_place => k_is); (case na_TooFar_others => k_is); (case kp_TooFar => k_is); (case sb_TooFar => k_is); (case ty_TooFar => k_is); (case e0_TooFar => k_is); (case e1_TooFar => k_is); (case e2_TooFar => k_is); (case e3_TooFar => k_is); (case e4_TooFar => k_is); (case e5_TooFar => k_is); (case e6_TooFar => k_is); (case e7_TooFar => k_is); (case aC_Spent => k_is); (case aC_Asker => k_is); (case pg_Asker => k_is); (case hd_Asker => k_is); (case po_Asker => k_is); (case sa_Asker => k_is); (case mk_Asker => k_is); (case kc_Asker => k_is); (case na_Asker_row => k_is); (case na_Asker_rule => k_is); (case na_Asker_most => k_is); (case na_Asker_asked => k_is); (case na_Asker_log => k_is); (case aC_Rule => k_is); (case pg_Rule => k_is); (case hd_Rule => k_is); (case po_Rule => k_is); (case sa_Rule => k_is); (case mk_Rule => k_is); (case kc_Rule => k_is); (case aC_AskedRule => k_is); (case pg_AskedRule => k_is); (case hd_AskedRule => k_is); (case po_AskedRule => k_is); (case sa_AskedRule => k_is); (case mk_AskedRule => k_is); (case kc_AskedRule => k_is); (case na_AskedRule_teller => k_is); (case a1 => k_is); (case l1 => k_is); (case c1 => k_is); (case k1 => k_is); (case a2 => k_is); (case l2 => k_is); (case c2 => k_is); (case k2 => k_is); (case a3 => k_is); (case l3 => k_is); (case c3 => k_is); (case k3 => k_is); (case a4 => k_is); (case l4 => k_is); (case c4 => k_is); (case k4 => k_is); (case a5 => k_is); (case l5 => k_is); (case lc5 => k_is); (case lp5 => rfl); (case hh5 => kernel_rfl); (case np5 => kernel_rfl); (case gp5 => decide); (case tp5 => exact PySem.W.km_tabs_of Y _ (by simp)); (case c5 => k_is); (case k5 => k_is); (case a6_AskedRule => k_is); (case i6 => k_is); (case l6 => k_is); (case c6 => k_is); (case k6 => k_is); (case a7_AskedRule => k_is); (case i7 => k_is); (case l7 => k_is); (case c7 => k_is); (case k7 => k_is); (case a8_Asker => k_is); (case i8 => k_is); (case l8 => k_is); (case c8 => k_is); (case k8 => k_is); (case a9_Asker => k_is); (case i9 => k_is); (case l9 => k_is); (case c9 => k_is); (case k9 => k_is); (case a10_Asker => k_is); (case i10 => k_is); (case l10 => k_is); (case lt10 => k_is); (case c10 => k_is); (case k10 => k_is); (case a11_Asker => k_is); (case i11 => k_is); (case l11 => k_is); (case c11 => k_is); (case k11 => k_is); (case a12 => k_is); (case l12 => k_is); (case c12 => k_is); (case k12 => k_is); (case a13 => k_is); (case l13 => k_is); (case c13 => k_is); (case k13 => k_is); (case a14 => k_is); (case l14 => k_is); (case c14 => k_is); (case k14 => k_is); (case a15 => k_is); (case l15 => k_is); (case c15 => k_is); (case k15 => k_is); (case a16 => k_is); (case l16 => k_is); (case c16 => k_is); (case k16 => k_is); (case a17 => k_is); (case l17 => k_is); (case c17 => k_is); (case k17 => k_is); (case a18 => k_is); (case l18 => k_is); (case c18 => k_is); (case k18 => k_is); (case a19 => k_is); (case l19 => k_is); (case c19 => k_is); (case k19 => k_is); (case a20 => k_is); (case l20 => k_is); (case c20 => k_is); (case k20 => k_is); (case a21 => k_is); (case l21 => k_is); (case c21 => k_is); (case k21 => k_is); (case a22 => k_is); (case l22 => k_is); (case c22 => k_is); (case k22 => k_is); (case a23 => k_is); (case l23 => k_is); (case c23 => k_is); (case k23 => k_is); (case i24 => k_is); (case l24 => k_is); (case c24 => k_is); (case k24 => k_is); (case a25 => k_is); (case l25 => k_is); (case c25 => k_is); (case k25 => k_is); (case a26 => k_is); (case l26 => k_is); (case c26 => k_is); (case k26 => k_is); (case a27 => k_is); (case l27 => k_is); (case c27 => k_is); (case k27 => k_is); (case a28 => k_is); (case l28 => k_is); (case c28 => k_is); (case k28 => k_is); (case a29 => k_is); (case l29 => k_is); (case c29 => k_is); (case k29 => k_is); (case a30 => k_is); (case l30 => k_is); (case c30 => k_is); (case k30 => k_is); (case a31 => k_is); (case l31 => k_is); (case c31 => k_is); (case k31 => k_is); (case z_ValueError => k_is); (case z_len => k_is); (case z_range => k_is); (case z_list => k_is); (case z_enumerate => k_is); (case z_zip => k_is); (case z_sorted => k_is); (case z_max => k_is); (case z_min => k_is); (case z_isinstance => k_is); (case z_int => k_is); (case z_sum => k_is); (case z_reversed => k_is); (case z_bool => k_is); (case xs_TooFar_HallError => (first | rfl | k_is)); (case kits_TooFar_ValueError => (first | k_is | kernel_rfl)); (case kits_TooFar_TooFar => (first | k_is | kernel_rfl)); (case kits_TooFar_NoPaper => (first | k_is | kernel_rfl)); (case kits_TooFar_NoPlace => (first | k_is | kernel_rfl)); (case kits_TooFar_Spent => (first | k_is | kernel_rfl))
#print axioms PySem.Challenge.cw_sorthall_k38_whole_reach_holds

