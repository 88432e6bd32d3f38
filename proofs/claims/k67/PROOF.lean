import PyProof.Rows.All
import Wide.All
import OpenK.AllK
import Wide.FinOn
import HandS.ForMost
import HandS.ForExc
import HandS.Wide
import HandS.WideBits
import HandS.IsInst
import HandS.Conv
import HandS.Walk
import HandS.SortInts
import HandS.SortRule
import HandS.Nested
import HandS.More
import HandS.Defaults
import HandS.EndTab
import HandS.Rev
import HandS.RevTup
import HandS.SortKw
import KE.DataMinMax
import HandS.Dict
import HandS.Style
import KE.DataCmp
import KE.KDictCopyH
import HandS.MakeKw
import HandS.CallLocal
import HandS.SetFor
import HandS.Strs
import HandS.CallSlots
import HandS.ExcIs
import HandS.ExcInit
import HandS.StrMore
import HandS.Zip
import HandS.ExcField
import KE.KExcIs
import HandS.ExcInitHot
import HandS.ExcValue
import PySem.Challenge.RW_sorthall_k67_whole_stopped
set_option Elab.async false
set_option linter.all false
set_option maxRecDepth 100000
set_option maxHeartbeats 4000000
/-! SHA: steps of the heap, rules that look at the values themselves, readings one by one -/
namespace SH
open PySem PySem.Spec PyProof.Rows L2

/-! ### what a heap becomes -/
/-- what never changes -/
def Fix : HO → Prop
  | .tup _ => True
  | .ext _ => True
  | .frz _ _ => True
  | _ => False
/-- H' has all that H has, but what stands at M may be another (no tuple, no function, no cell) -/
structure Stp (M : List Addr) (H H' : Hp) : Prop where
  same : ∀ b o, H b = some o → (b ∉ M ∨ Fix o) → H' b = some o
  dom : ∀ b, H' b = none → H b = none
theorem Stp.refl (M : List Addr) (H : Hp) : Stp M H H := ⟨fun _ _ h _ => h, fun _ h => h⟩
theorem Stp.mono {M M' : List Addr} {H H' : Hp} (s : Stp M H H') (h : ∀ b ∈ M, b ∈ M') : Stp M' H H' := ⟨fun b o e n => s.same b o e (n.imp (fun n z => n (h b z)) id), s.dom⟩
theorem Stp.trans {M : List Addr} {H H1 H2 : Hp} (a : Stp M H H1) (b : Stp M H1 H2) : Stp M H H2 := ⟨fun c o e n => b.same c o (a.same c o e n) n, fun c h => a.dom c (b.dom c h)⟩
/-- what the second changes is new, or the first one's -/
theorem Stp.then {M M' : List Addr} {H H1 H2 : Hp} (a : Stp M H H1) (b : Stp M' H1 H2) (h : ∀ m ∈ M', m ∈ M ∨ H m = none) : Stp M H H2 :=
  ⟨fun c o e n => b.same c o (a.same c o e n) (n.imp (fun n z => (h c z).elim n fun q => (by rw [q] at e; cases e)) id), fun c h => a.dom c (b.dom c h)⟩
theorem Stp.then0 {M : List Addr} {H H1 H2 : Hp} (a : Stp M H H1) (b : Stp [] H1 H2) : Stp M H H2 := a.then b (by simp)
theorem Stp.new {M : List Addr} {H H1 : Hp} {p : Addr} {o : HO} (a : Stp M H H1) (h : H1 p = none) : Stp M H (upd H1 p o) :=
  ⟨fun c u e n => by have q := a.same c u e n; rw [upd_ne (ne_of_none q h)]; exact q, fun c q => a.dom c (by
    by_cases z : c = p
    · subst z; exact h
    · rw [upd_ne z] at q; exact q)⟩
theorem Stp.putM {M : List Addr} {H H1 : Hp} {p : Addr} {o o1 : HO} (a : Stp M H H1) (h : p ∈ M) (h1 : H1 p = some o1) (nf : ¬ Fix o1) : Stp M H (upd H1 p o) :=
  ⟨fun c u e n => by
    by_cases z : c = p
    · subst z
      rcases n with n | n
      · exact (n h).elim
      · have q := a.same c u e (.inr n)
        rw [h1] at q; cases q; exact (nf n).elim
    · rw [upd_ne z]; exact a.same c u e n, fun c q => a.dom c (by
    by_cases z : c = p
    · subst z; rw [upd_same] at q; cases q
    · rw [upd_ne z] at q; exact q)⟩
theorem Stp.putN {M : List Addr} {H H1 : Hp} {p : Addr} {o : HO} (a : Stp M H H1) (h : H p = none) : Stp M H (upd H1 p o) :=
  ⟨fun c u e n => by
    rw [upd_ne (fun z => by subst z; rw [h] at e; cases e)]
    exact a.same c u e n, fun c q => a.dom c (by
    by_cases z : c = p
    · subst z; rw [upd_same] at q; cases q
    · rw [upd_ne z] at q; exact q)⟩
theorem Stp.free {M : List Addr} {H H' : Hp} {p : Addr} (s : Stp M H H') (h : H' p = none) : H p = none := s.dom p h
theorem Stp.keep {M : List Addr} {H H' : Hp} {p : Addr} {o : HO} (s : Stp M H H') (h : H p = some o) (n : p ∉ M) : H' p = some o := s.same p o h (.inl n)
theorem Stp.keep0 {H H' : Hp} {p : Addr} {o : HO} (s : Stp [] H H') (h : H p = some o) : H' p = some o := s.same p o h (.inl (by simp))
theorem Stp.fix {M : List Addr} {H H' : Hp} {p : Addr} {o : HO} (s : Stp M H H') (h : H p = some o) (n : Fix o) : H' p = some o := s.same p o h (.inr n)
theorem Stp.tup {M : List Addr} {H H' : Hp} {p : Addr} {xs : List V} (s : Stp M H H') (h : H p = some (.tup xs)) : H' p = some (.tup xs) := s.fix h True.intro
theorem Stp.keep1 {m : Addr} {H H' : Hp} {p : Addr} {o : HO} (s : Stp [m] H H') (h : H p = some o) (n : p ≠ m) : H' p = some o := s.same p o h (.inl (by simpa using n))
theorem Stp.rd {M : List Addr} {H H' : Hp} {a : Addr} {u : HO} (s : Stp M H H') (h : Rd H a u) (n : a ∉ M) : Rd H' a u := by
  rcases h with h | ⟨o, h⟩
  · exact .inl (s.same _ _ h (.inl n))
  · exact .inr ⟨o, s.same _ _ h (.inr True.intro)⟩
theorem Stp.sql {K : PySem.W.Frag} {M : List Addr} {H H' : Hp} {a : Addr} {xs : List V} (s : Stp M H H') (h : SqL K H a xs) (n : a ∉ M) : SqL K H' a xs := by
  rcases h with h | h
  · exact .inl (s.rd h n)
  · exact .inr h
theorem Stp.sqt {K : PySem.W.Frag} {M : List Addr} {H H' : Hp} {a : Addr} {xs : List V} (s : Stp M H H') (h : SqT K H a xs) (n : a ∉ M) : SqT K H' a xs := by
  rcases h with h | h
  · exact .inl (s.rd h n)
  · exact .inr h
theorem Stp.sqtM {K : PySem.W.Frag} {M : List Addr} {H H' : Hp} {a : Addr} {xs : List V} (s : Stp M H H') (h : SqT K H a xs) : SqT K H' a xs := by
  rcases h with (h | ⟨o, h⟩) | h
  · exact .inl (.inl (s.fix h True.intro))
  · exact .inl (.inr ⟨o, s.fix h True.intro⟩)
  · exact .inr h
theorem Stp.sql1 {K : PySem.W.Frag} {m : Addr} {H H' : Hp} {a : Addr} {xs : List V} (s : Stp [m] H H') (h : SqL K H a xs) (n : a ≠ m) : SqL K H' a xs := s.sql h (by simpa using n)
theorem Stp.sql0 {K : PySem.W.Frag} {H H' : Hp} {a : Addr} {xs : List V} (s : Stp [] H H') (h : SqL K H a xs) : SqL K H' a xs := s.sql h (by simp)
theorem Stp.sqt0 {K : PySem.W.Frag} {H H' : Hp} {a : Addr} {xs : List V} (s : Stp [] H H') (h : SqT K H a xs) : SqT K H' a xs := s.sqt h (by simp)
theorem Stp.not {M : List Addr} {H H' : Hp} {p : Addr} (s : Stp M H H') (h : H' p = none) (hm : ∀ m ∈ M, H m ≠ none) : p ∉ M := fun z => hm p z (s.dom p h)
theorem upd_old {H : Hp} {a p : Addr} {o u : HO} (h : H a = some o) (hp : H p = none) : upd H p u a = some o := by rw [upd_ne (ne_of_none h hp)]; exact h
theorem upd_far {H : Hp} {a p : Addr} {o : Option HO} {u : HO} (n : a ≠ p) (h : H a = o) : upd H p u a = o := by rw [upd_ne n]; exact h
theorem upd_free {H : Hp} {a p : Addr} {u : HO} (h : upd H p u a = none) : H a = none ∧ a ≠ p := by
  by_cases z : a = p
  · subst z; rw [upd_same] at h; cases h
  · rw [upd_ne z] at h; exact ⟨h, z⟩
theorem sql_upd {K : PySem.W.Frag} {H : Hp} {a p : Addr} {xs : List V} {u : HO} (h : SqL K H a xs) (hp : H p = none) : SqL K (upd H p u) a xs := (Stp.refl [] H |>.new hp).sql h (by simp)
theorem sqt_upd {K : PySem.W.Frag} {H : Hp} {a p : Addr} {xs : List V} {u : HO} (h : SqT K H a xs) (hp : H p = none) : SqT K (upd H p u) a xs := (Stp.refl [] H |>.new hp).sqt h (by simp)
theorem sql_far {K : PySem.W.Frag} {H : Hp} {a p : Addr} {xs : List V} {u : HO} (h : SqL K H a xs) (n : a ≠ p) : SqL K (upd H p u) a xs := by
  rcases h with (h | ⟨o, h⟩) | h
  · exact .inl (.inl (upd_far n h))
  · exact .inl (.inr ⟨o, upd_far n h⟩)
  · exact .inr h
theorem sqt_far {K : PySem.W.Frag} {H : Hp} {a p : Addr} {xs : List V} {u : HO} (h : SqT K H a xs) (n : a ≠ p) : SqT K (upd H p u) a xs := by
  rcases h with (h | ⟨o, h⟩) | h
  · exact .inl (.inl (upd_far n h))
  · exact .inl (.inr ⟨o, upd_far n h⟩)
  · exact .inr h

/-! ### the slots -/
theorem set_z {x y : Option V} {xs : L2.St} : (x :: xs).set 0 y = y :: xs := rfl
theorem set_s {x y : Option V} {xs ys : L2.St} {n : Nat} (h : xs.set n y = ys) : (x :: xs).set (n + 1) y = x :: ys := by subst h; rfl
theorem get_z {x : V} {xs : L2.St} : (some x :: xs)[0]? = some (some x) := rfl
theorem get_s {x : Option V} {xs : L2.St} {n : Nat} {v : V} (h : xs[n]? = some (some v)) : (x :: xs)[n + 1]? = some (some v) := h

/-! ### two-place operations by the values -/
/-- the ways of + -/
def aAdd (K : PySem.W.Frag) : R2 := fun x y H Q => match x, y with
  | .int i, .int j => Q (.int (i + j)) H
  | .str a, .str b => a.length + b.length ≤ sizeLine ∧ Q (.str (a ++ b)) H
  | .ref a, .ref b => (∃ xs ys, H a = some (.lst xs) ∧ H b = some (.lst ys) ∧ xs.length + ys.length ≤ sizeLine ∧ ∀ p, H p = none → Q (.ref p) (upd H p (.lst (xs ++ ys)))) ∨ rCatT K (.ref a) (.ref b) H Q
  | _, _ => False
def aSub : R2 := fun x y H Q => match x, y with
  | .int i, .int j => Q (.int (i - j)) H
  | _, _ => False
def aMul : R2 := fun x y H Q => match x, y with
  | .int i, .int j => IntMulOk i j ∧ Q (.int (i * j)) H
  | .str a, .int k => PySem.MulOk a k ∧ Q (.str (PySem.Txt.mul a k)) H
  | .ref a, .int k => ∃ xs, H a = some (.lst xs) ∧ -(2 ^ 63) ≤ k ∧ k < 2 ^ 63 ∧ xs.length * k.toNat ≤ sizeLine ∧ ∀ p, H p = none → Q (.ref p) (upd H p (.lst ((List.replicate k.toNat xs).flatten)))
  | _, _ => False
def aDiv : R2 := fun x y H Q => match x, y with
  | .int i, .int j => 0 < j ∧ Builtin.divisionGoesByPylong i j = false ∧ Q (.int (i / j)) H
  | _, _ => False
def aMod : R2 := fun x y H Q => match x, y with
  | .int i, .int j => 0 < j ∧ Q (.int (i % j)) H
  | _, _ => False
def aPow : R2 := fun x y H Q => match x, y with
  | .int i, .int j => CPow i j ∧ Q (.int (i ^ j.toNat)) H
  | _, _ => False
def aShl : R2 := fun x y H Q => match x, y with
  | .int i, .int j => CShl i j ∧ Q (.int (i * 2 ^ j.toNat)) H
  | _, _ => False
def aShr : R2 := fun x y H Q => match x, y with
  | .int i, .int j => 0 ≤ j ∧ Q (.int (i / 2 ^ j.toNat)) H
  | _, _ => False
def aAnd : R2 := fun x y H Q => match x, y with
  | .int i, .int j => Q (.int (Builtin.bitAnd i j)) H
  | _, _ => False
def aLt (K : PySem.W.Frag) : R2 := fun x y H Q => match x, y with
  | .int i, .int j => Q (.bl (decide (i < j))) H
  | .str i, .str j => Q (.bl (decide (i.cps.toList < j.cps.toList))) H
  | .ref a, .ref b => rLtT K (.ref a) (.ref b) H Q
  | _, _ => False
def aLe : R2 := fun x y H Q => match x, y with
  | .int i, .int j => Q (.bl (decide (i ≤ j))) H
  | _, _ => False
def aGt : R2 := fun x y H Q => match x, y with
  | .int i, .int j => Q (.bl (decide (j < i))) H
  | _, _ => False
def aGe : R2 := fun x y H Q => match x, y with
  | .int i, .int j => Q (.bl (decide (j ≤ i))) H
  | _, _ => False
def aEq (K : PySem.W.Frag) : R2 := fun x y H Q => (scal x y = true ∧ Q (.bl (decide (x = y))) H) ∨ rEqD K x y H Q
def aNe (K : PySem.W.Frag) : R2 := fun x y H Q => (scal x y = true ∧ Q (.bl (!decide (x = y))) H) ∨ rNeD K x y H Q
def aIsN : R2 := fun x y H Q => y = .non ∧ Q (.bl (decide (x = .non))) H
def aNotN : R2 := fun x y H Q => y = .non ∧ Q (.bl (!decide (x = .non))) H

section
variable {X : Cx}
theorem oAdd : OpR X (binaryOp .Add) (aAdd X.K) := by
  intro pins s σ H x y v u Q I rx ry h
  cases x <;> cases y <;> first | exact False.elim h | skip
  · exact op_add pins s σ H _ _ v u Q I rx ry ⟨_, _, rfl, rfl, h⟩
  · exact op_add_str pins s σ H _ _ v u Q I rx ry ⟨_, _, rfl, rfl, h.1, h.2⟩
  · rcases h with ⟨xs, ys, h1, h2, h3, h4⟩ | h
    · exact op_cat pins s σ H _ _ v u Q I rx ry ⟨_, _, xs, ys, rfl, rfl, h1, h2, h3, h4⟩
    · exact op_catT pins s σ H _ _ v u Q I rx ry h
theorem oSub : OpR X (binaryOp .Sub) aSub := by
  intro pins s σ H x y v u Q I rx ry h
  cases x <;> cases y <;> first | exact False.elim h | skip
  exact op_sub pins s σ H _ _ v u Q I rx ry ⟨_, _, rfl, rfl, h⟩
theorem oMul : OpR X (binaryOp .Mult) aMul := by
  intro pins s σ H x y v u Q I rx ry h
  cases x <;> cases y <;> first | exact False.elim h | skip
  · obtain ⟨t, rfl⟩ := rx
    obtain ⟨t', rfl⟩ := ry
    exact mul_int ⟨.int _, H, I.tok _, ⟨_, rfl⟩, h.2⟩ h.1
  · obtain ⟨t, rfl⟩ := rx
    obtain ⟨t', rfl⟩ := ry
    exact PySem.SB.mul h.1 fun t' k => ⟨.str _, H, I.tok _, ⟨_, rfl⟩, h.2⟩
  · obtain ⟨xs, h1, h2, h3, h4, h5⟩ := h
    exact op_rep pins s σ H _ _ v u Q I rx ry ⟨_, _, xs, rfl, rfl, h1, h2, h3, h4, h5⟩
theorem oDiv : OpR X (binaryOp .FloorDiv) aDiv := by
  intro pins s σ H x y v u Q I rx ry h
  cases x <;> cases y <;> first | exact False.elim h | skip
  obtain ⟨t, rfl⟩ := rx
  obtain ⟨t', rfl⟩ := ry
  obtain ⟨h0, h1, q⟩ := h
  exact floordiv_int (by omega) (by rw [Int.fdiv_eq_ediv_of_nonneg _ (by omega)]; exact ⟨.int _, H, I.tok _, ⟨_, rfl⟩, q⟩) (.inl h1)
theorem oMod : OpR X (binaryOp .Mod) aMod := by
  intro pins s σ H x y v u Q I rx ry h
  cases x <;> cases y <;> first | exact False.elim h | skip
  exact op_mod pins s σ H _ _ v u Q I rx ry ⟨_, _, rfl, rfl, h⟩
theorem oPow : OpR X (binaryOp .Pow) aPow := by
  intro pins s σ H x y v u Q I rx ry h
  cases x <;> cases y <;> first | exact False.elim h | skip
  exact op_pow pins s σ H _ _ v u Q I rx ry ⟨_, _, rfl, rfl, h⟩
theorem oShl : OpR X (binaryOp .LShift) aShl := by
  intro pins s σ H x y v u Q I rx ry h
  cases x <;> cases y <;> first | exact False.elim h | skip
  exact op_shlW pins s σ H _ _ v u Q I rx ry ⟨_, _, rfl, rfl, h⟩
theorem oShr : OpR X (binaryOp .RShift) aShr := by
  intro pins s σ H x y v u Q I rx ry h
  cases x <;> cases y <;> first | exact False.elim h | skip
  exact op_shr pins s σ H _ _ v u Q I rx ry ⟨_, _, rfl, rfl, h⟩
theorem oAnd : OpR X (binaryOp .BitAnd) aAnd := by
  intro pins s σ H x y v u Q I rx ry h
  cases x <;> cases y <;> first | exact False.elim h | skip
  exact op_and pins s σ H _ _ v u Q I rx ry ⟨_, _, rfl, rfl, h⟩
theorem oLt (hu : X.A.units < cLine) : OpR X (compareOp .Lt) (aLt X.K) := by
  intro pins s σ H x y v u Q I rx ry h
  cases x <;> cases y <;> first | exact False.elim h | skip
  · exact op_lt pins s σ H _ _ v u Q I rx ry ⟨_, _, rfl, rfl, h⟩
  · exact op_lt_str pins s σ H _ _ v u Q I rx ry ⟨_, _, rfl, rfl, h⟩
  · exact op_ltT hu pins s σ H _ _ v u Q I rx ry h
theorem oLe : OpR X (compareOp .LtE) aLe := by
  intro pins s σ H x y v u Q I rx ry h
  cases x <;> cases y <;> first | exact False.elim h | skip
  exact op_le pins s σ H _ _ v u Q I rx ry ⟨_, _, rfl, rfl, h⟩
theorem oGt : OpR X (compareOp .Gt) aGt := by
  intro pins s σ H x y v u Q I rx ry h
  cases x <;> cases y <;> first | exact False.elim h | skip
  exact op_gt pins s σ H _ _ v u Q I rx ry ⟨_, _, rfl, rfl, h⟩
theorem oGe : OpR X (compareOp .GtE) aGe := by
  intro pins s σ H x y v u Q I rx ry h
  cases x <;> cases y <;> first | exact False.elim h | skip
  exact op_ge pins s σ H _ _ v u Q I rx ry ⟨_, _, rfl, rfl, h⟩
theorem oEq (hu : X.A.units + 64 < cLine) : OpR X (compareOp .Eq) (aEq X.K) := op_eq.or (op_eqD hu)
theorem oNe (hu : X.A.units + 64 < cLine) : OpR X (compareOp .NotEq) (aNe X.K) := op_ne.or (op_neD hu)
theorem oIsN : OpR X (compareOp .Is) aIsN := op_isN
theorem oNotN : OpR X (compareOp .IsNot) aNotN := op_notN
theorem ipAdd : PIp X .Add (fun x y H Q => match x, y with
  | .int i, .int j => Q (.int (i + j)) H
  | _, _ => False) := by
  intro pins s σ H x y v u Q I rx ry h
  cases x <;> cases y <;> first | exact False.elim h | skip
  exact ip_add pins s σ H _ _ v u Q I rx ry ⟨_, _, rfl, rfl, h⟩
theorem ipSub : PIp X .Sub (fun x y H Q => match x, y with
  | .int i, .int j => Q (.int (i - j)) H
  | _, _ => False) := by
  intro pins s σ H x y v u Q I rx ry h
  cases x <;> cases y <;> first | exact False.elim h | skip
  exact ip_sub pins s σ H _ _ v u Q I rx ry ⟨_, _, rfl, rfl, h⟩
end
end SH

set_option Elab.async false
set_option linter.all false
set_option maxRecDepth 100000
set_option maxHeartbeats 4000000
/-! SHB: readings, one lemma a word -/
namespace SH
open PySem PySem.Spec PyProof.Rows L2

section
variable {K : PySem.W.Frag} {D : Ends} {σ σ' : L2.St} {H : Hp} {Q : VK} {QA : List V → Hp → Prop} {QT : Bool → Hp → Prop} {QO : Option Int → Hp → Prop} {QG : L2.St → Hp → Prop} {i j : Nat} {v x y : V} {vs : List V} {ta tb tc te : TE} {t u tt : TT} {tr as : TA} {t1 t2 : TS} {g : TG} {gs : TGs} {r r' : R2} {b : Bool} {A B : Prop}

/-! the start -/
theorem st_c {x : Str} {N : List Str} {v : V} {vs : List V} {τ : L2.St} (h : L2.start N vs = τ) : L2.start (x :: N) (v :: vs) = some v :: τ := by
  rw [← h]; show _ :: (_ ++ List.replicate (N.length + 1 - (vs.length + 1)) none) = _; rw [Nat.add_sub_add_right]; rfl
theorem st_n {x : Str} {N : List Str} {τ : L2.St} (h : L2.start N [] = τ) : L2.start (x :: N) [] = none :: τ := by rw [← h]; rfl
theorem st_z : L2.start [] [] = [] := rfl
theorem r_start {N : List Str} {t : TS} (e : L2.start N vs = σ) (h : t D σ H) : t D (L2.start N vs) H := by rw [e]; exact h

theorem wp_z {f : Str × Nat → Nat} : wipe σ (List.map f []) = σ := rfl
theorem wp_s {a : Str} {n : Nat} {l : List (Str × Nat)} {τ τ' : L2.St} (h : wipe σ (l.map (fun x => x.2)) = τ) (e : τ.set n none = τ') : wipe σ (((a, n) :: l).map (fun x => x.2)) = τ' := by
  show (wipe σ (l.map (fun x => x.2))).set n none = τ'
  rw [h, e]
theorem r_gnw {ws : List Nat} {τ : L2.St} (e : wipe σ ws = τ) (h : gName i v τ H QG) : gName i v (wipe σ ws) H QG := by rw [e]; exact h
theorem r_gtw {ws : List Nat} {n : Nat} {τ : L2.St} (e : wipe σ ws = τ) (h : gTup K n gs v τ H QG) : gTup K n gs v (wipe σ ws) H QG := by rw [e]; exact h
theorem r_wp {ws : List Nat} {τ : L2.St} (e : wipe σ ws = wipe τ ws) (h : A) : wipe σ ws = wipe τ ws ∧ A := ⟨e, h⟩

/-! statements -/
theorem r_seq (h : t1 { D with nx := t2 D } σ H) : tSeq t1 t2 D σ H := h
theorem r_next (h : D.nx σ H) : tNext D σ H := h
theorem r_nx (e : σ.set i (some v) = σ') (h : D.nx σ' H) : D.nx (σ.set i (some v)) H := by rw [e]; exact h
theorem r_asg (h : te σ H fun x H1 => g x σ H1 D.nx) : tAsg te g D σ H := h
theorem r_gname (e : σ.set i (some v) = σ') (h : QG σ' H) : gName i v σ H QG := by subst e; exact h
theorem r_aug {rd : TIp} (hx : σ[i]? = some (some x)) (h : te σ H fun y H1 => rd x y H1 fun z H2 => D.nx (σ.set i (some z)) H2) : tAug i te rd D σ H := ⟨x, hx, h⟩
theorem r_drop (h : te σ H fun _ H1 => D.nx σ H1) : tDrop te D σ H := h
theorem r_ret (h : te σ H D.rt) : tRet te D σ H := h
theorem r_retN (h : D.rt .non H) : tRetN D σ H := h
theorem r_ifS (h : tt σ H fun b H1 => if b = true then t1 D σ H1 else t2 D σ H1) : tIfS tt t1 t2 D σ H := h
theorem r_brk (h : D.bk σ H) : tBreak D σ H := h
theorem r_cont (h : D.ct σ H) : tCont D σ H := h
theorem r_gtup {n : Nat} {a : Addr} {xs : List V} (hq : SqT K H a xs) (hl : xs.length = n) (h : gs xs σ H QG) : gTup K n gs (.ref a) σ H QG := ⟨a, xs, rfl, hq, hl, h⟩
theorem r_glst {n : Nat} {a : Addr} {xs : List V} (hq : SqL K H a xs) (hl : xs.length = n) (h : gs xs σ H QG) : gLst K n gs (.ref a) σ H QG := ⟨a, xs, rfl, hq, hl, h⟩
theorem r_gcons (h : g v σ H fun σ' H' => gs vs σ' H' QG) : gCons g gs (v :: vs) σ H QG := ⟨v, vs, rfl, h⟩
theorem r_gnil (h : QG σ H) : gNil [] σ H QG := ⟨rfl, h⟩
theorem r_gsub {to ti : TE} {ts : TSet} (h : to σ H fun o H1 => ti σ H1 fun i H2 => ts o i v H2 fun H3 => QG σ H3) : gSub to ti ts v σ H QG := h

/-! expressions -/
theorem r_var (h : σ[i]? = some (some v)) (k : Q v H) : tVar i σ H Q := ⟨v, h, k⟩
theorem r_c (k : Q v H) : tC v σ H Q := k
theorem r_op (h : ta σ H fun x H1 => tb σ H1 fun y H2 => r x y H2 Q) : tOp r ta tb σ H Q := h
theorem r_un {ru : V → Hp → VK → Prop} (h : ta σ H fun x H1 => ru x H1 Q) : tUn ru ta σ H Q := h
theorem r_neg {n : Int} (k : Q (.int (-n)) H) : rU (fun i => .int (-i)) (.int n) H Q := ⟨n, rfl, k⟩
theorem r_if (h : t σ H fun c H1 => if c = true then ta σ H1 Q else tb σ H1 Q) : tIf t ta tb σ H Q := h
theorem r_nil (h : QA [] H) : tNil σ H QA := h
theorem r_cons (h : ta σ H fun x H1 => tr σ H1 fun xs H2 => QA (x :: xs) H2) : tCons ta tr σ H QA := h
def kTup (Q : VK) : List V → Hp → Prop := fun xs H1 => xs.length ≤ sizeLine ∧ ∀ p, H1 p = none → Q (.ref p) (upd H1 p (.tup xs))
def kLst (Q : VK) : List V → Hp → Prop := fun xs H1 => xs.length ≤ sizeLine ∧ ∀ p, H1 p = none → Q (.ref p) (upd H1 p (.lst xs))
theorem r_tup (h : as σ H (kTup Q)) : tTup as σ H Q := h
theorem r_lst (h : as σ H (kLst Q)) : tLst as σ H Q := h
theorem v_tup (hl : vs.length ≤ 1000) (h : ∀ p, H p = none → Q (.ref p) (upd H p (.tup vs))) : kTup Q vs H := ⟨Nat.le_trans hl (by decide), h⟩
theorem v_lst (hl : vs.length ≤ 1000) (h : ∀ p, H p = none → Q (.ref p) (upd H p (.lst vs))) : kLst Q vs H := ⟨Nat.le_trans hl (by decide), h⟩
theorem v_tup2 (h : ∀ p, H p = none → Q (.ref p) (upd H p (.tup [x, y]))) : kTup Q [x, y] H := v_tup (by simp) h
theorem v_tup3 (h : ∀ p, H p = none → Q (.ref p) (upd H p (.tup [x, y, v]))) : kTup Q [x, y, v] H := v_tup (by simp) h
theorem v_lst0 (h : ∀ p, H p = none → Q (.ref p) (upd H p (.lst []))) : kLst Q [] H := v_lst (by simp) h
theorem v_lst1 (h : ∀ p, H p = none → Q (.ref p) (upd H p (.lst [x]))) : kLst Q [x] H := v_lst (by simp) h
theorem v_lst2 (h : ∀ p, H p = none → Q (.ref p) (upd H p (.lst [x, y]))) : kLst Q [x, y] H := v_lst (by simp) h
theorem v_lst3 (h : ∀ p, H p = none → Q (.ref p) (upd H p (.lst [x, y, v]))) : kLst Q [x, y, v] H := v_lst (by simp) h
theorem v_lst4 {z : V} (h : ∀ p, H p = none → Q (.ref p) (upd H p (.lst [x, y, v, z]))) : kLst Q [x, y, v, z] H := v_lst (by simp) h
theorem r_len0 {n : Nat} (h : n ≤ 1000) : n ≤ sizeLine := Nat.le_trans h (by decide)
theorem r_call {sp : Sp} {dvs : List V} {E : XK} (h : as σ H fun vs H1 => sp (vs ++ dvs) H1 Q E) : tCall sp dvs E as σ H Q := h
theorem r_cb {rc : List V → Hp → VK → Prop} (h : as σ H fun vs H1 => rc vs H1 Q) : tCB rc as σ H Q := h
theorem r_andV (h : ta σ H fun x H1 => ∃ c, x = .bl c ∧ if c = true then tb σ H1 Q else Q (.bl false) H1) : tAndV ta tb σ H Q := h
theorem r_orV (h : ta σ H fun x H1 => ∃ c, x = .bl c ∧ if c = true then Q (.bl true) H1 else tb σ H1 Q) : tOrV ta tb σ H Q := h
theorem r_notV (h : ta σ H fun x H1 => ∃ c, x = .bl c ∧ Q (.bl (!c)) H1) : tNotV ta σ H Q := h
theorem r_bl {P : Bool → Prop} (h : P b) : ∃ c, V.bl b = .bl c ∧ P c := ⟨b, rfl, h⟩
theorem r_test (h : te σ H fun x H1 => ∃ k, x = .bl k ∧ QT k H1) : tTest te σ H QT := h
theorem r_B (h : te σ H fun x H1 => ∃ k, x = .bl k ∧ QT k H1) : tB te σ H QT := h
theorem r_and (h : t σ H fun c H1 => if c = true then u σ H1 QT else QT false H1) : tAnd t u σ H QT := h
theorem r_or (h : t σ H fun c H1 => if c = true then QT true H1 else u σ H1 QT) : tOr t u σ H QT := h
theorem r_not (h : t σ H fun c H1 => QT (!c) H1) : tNot t σ H QT := h
theorem r_yes (h : QT true H) : tYes σ H QT := h
theorem r_nopart (h : QO none H) : tNoPart σ H QO := h
theorem r_part (h : te σ H fun x H1 => ∃ i, x = .int i ∧ QO (some i) H1) : tPart te σ H QO := h
theorem r_int {P : Int → Prop} {n : Int} (h : P n) : ∃ i, V.int n = .int i ∧ P i := ⟨n, rfl, h⟩
theorem r_sl {rs : V → Option Int → Option Int → Hp → VK → Prop} {tl th : TO} (h : te σ H fun x H1 => tl σ H1 fun l H2 => th σ H2 fun u H3 => rs x l u H3 Q) : tSl rs te tl th σ H Q := h
theorem r_chain (h : ta σ H fun x H1 => tb σ H1 fun y H2 => r x y H2 fun z H3 => ∃ k, z = .bl k ∧ (if k = true then tc σ H3 fun w' H4 => r' y w' H4 Q else Q (.bl false) H3)) : tChain r r' ta tb tc σ H Q := h
theorem r_bm {T : String} {rb : V → List V → Hp → VK → Prop} (h : te σ H fun x H1 => tyV K T x H1 ∧ as σ H1 fun xs H2 => rb x xs H2 Q) : tBM K T rb te as σ H Q := h
theorem r_bm0 {T : String} {rb : V → List V → Hp → VK → Prop} (h : te σ H fun x H1 => tyV K T x H1 ∧ rb x [] H1 Q) : tBM0 K T rb te σ H Q := h

/-! values -/
theorem v_addI {n m : Int} (h : Q (.int (n + m)) H) : aAdd K (.int n) (.int m) H Q := h
theorem v_addL {a c : Addr} {xs ys : List V} (h1 : H a = some (.lst xs)) (h2 : H c = some (.lst ys)) (h3 : xs.length + ys.length ≤ sizeLine) (h : ∀ p, H p = none → Q (.ref p) (upd H p (.lst (xs ++ ys)))) : aAdd K (.ref a) (.ref c) H Q := .inl ⟨xs, ys, h1, h2, h3, h⟩
theorem v_subI {n m : Int} (h : Q (.int (n - m)) H) : aSub (.int n) (.int m) H Q := h
theorem v_mulI {n m : Int} (h0 : IntMulOk n m) (h : Q (.int (n * m)) H) : aMul (.int n) (.int m) H Q := ⟨h0, h⟩
theorem v_mulL {a : Addr} {k : Int} {xs : List V} (h1 : H a = some (.lst xs)) (h2 : -(2 ^ 63) ≤ k ∧ k < 2 ^ 63) (h3 : xs.length * k.toNat ≤ sizeLine) (h : ∀ p, H p = none → Q (.ref p) (upd H p (.lst ((List.replicate k.toNat xs).flatten)))) : aMul (.ref a) (.int k) H Q := ⟨xs, h1, h2.1, h2.2, h3, h⟩
theorem v_div {n m : Int} (h0 : 0 < m) (h1 : Builtin.divisionGoesByPylong n m = false) (h : Q (.int (n / m)) H) : aDiv (.int n) (.int m) H Q := ⟨h0, h1, h⟩
theorem v_divS {n m : Int} (h0 : 0 < m) (h1 : m < 1073741824) (h : Q (.int (n / m)) H) : aDiv (.int n) (.int m) H Q := ⟨h0, PyProof.noPylong_small (by omega), h⟩
theorem v_divW {n m : Int} (h0 : 0 < m) (h1 : m.natAbs.log2 < 9000) (h : Q (.int (n / m)) H) : aDiv (.int n) (.int m) H Q := ⟨h0, PyProof.noPylong_of_log2 h1, h⟩
theorem v_mod {n m : Int} (h0 : 0 < m) (h : Q (.int (n % m)) H) : aMod (.int n) (.int m) H Q := ⟨h0, h⟩
theorem v_pow {n m : Int} (h0 : CPow n m) (h : Q (.int (n ^ m.toNat)) H) : aPow (.int n) (.int m) H Q := ⟨h0, h⟩
theorem v_shl {n m : Int} (h0 : CShl n m) (h : Q (.int (n * 2 ^ m.toNat)) H) : aShl (.int n) (.int m) H Q := ⟨h0, h⟩
theorem v_shr {n m : Int} (h0 : 0 ≤ m) (h : Q (.int (n / 2 ^ m.toNat)) H) : aShr (.int n) (.int m) H Q := ⟨h0, h⟩
theorem v_and {n m : Int} (h : Q (.int (Builtin.bitAnd n m)) H) : aAnd (.int n) (.int m) H Q := h
theorem v_ltI {n m : Int} (h : Q (.bl (decide (n < m))) H) : aLt K (.int n) (.int m) H Q := h
theorem v_ltT {a c : Addr} {ns ms : List Int} (h1 : SqT K H a (ns.map V.int)) (h2 : SqT K H c (ms.map V.int)) (h : Q (.bl (HT.lexLt ns ms)) H) : aLt K (.ref a) (.ref c) H Q := ⟨a, c, ns, ms, rfl, rfl, h1, h2, h⟩
theorem v_leI {n m : Int} (h : Q (.bl (decide (n ≤ m))) H) : aLe (.int n) (.int m) H Q := h
theorem v_gtI {n m : Int} (h : Q (.bl (decide (m < n))) H) : aGt (.int n) (.int m) H Q := h
theorem v_geI {n m : Int} (h : Q (.bl (decide (m ≤ n))) H) : aGe (.int n) (.int m) H Q := h
theorem dec_i {n m : Int} : decide (V.int n = V.int m) = decide (n = m) := by simp
theorem v_eqI {n m : Int} (h : Q (.bl (decide (n = m))) H) : aEq K (.int n) (.int m) H Q := .inl ⟨rfl, by rw [dec_i]; exact h⟩
theorem v_neI {n m : Int} (h : Q (.bl (!decide (n = m))) H) : aNe K (.int n) (.int m) H Q := .inl ⟨rfl, by rw [dec_i]; exact h⟩
theorem v_eqB {n m : Bool} (h : Q (.bl (decide (n = m))) H) : aEq K (.bl n) (.bl m) H Q := .inl ⟨rfl, by rw [show decide (V.bl n = V.bl m) = decide (n = m) by simp]; exact h⟩
theorem v_neB {n m : Bool} (h : Q (.bl (!decide (n = m))) H) : aNe K (.bl n) (.bl m) H Q := .inl ⟨rfl, by rw [show decide (V.bl n = V.bl m) = decide (n = m) by simp]; exact h⟩
theorem v_eqS {n m : Str} (h : Q (.bl (decide (n = m))) H) : aEq K (.str n) (.str m) H Q := .inl ⟨rfl, by rw [show decide (V.str n = V.str m) = decide (n = m) by simp]; exact h⟩
theorem v_neS {n m : Str} (h : Q (.bl (!decide (n = m))) H) : aNe K (.str n) (.str m) H Q := .inl ⟨rfl, by rw [show decide (V.str n = V.str m) = decide (n = m) by simp]; exact h⟩
theorem v_eqO (hs : scal x y = true) (h : Q (.bl (decide (x = y))) H) : aEq K x y H Q := .inl ⟨hs, h⟩
theorem v_neO (hs : scal x y = true) (h : Q (.bl (!decide (x = y))) H) : aNe K x y H Q := .inl ⟨hs, h⟩
theorem v_eqD {d e : PyData} (h1 : Dp K H x d) (h2 : Dp K H y e) (h3 : SeqAt.shaped d = true) (h4 : SeqAt.shaped e = true) (h : Q (.bl (PyData.eqv d e)) H) : aEq K x y H Q := .inr ⟨d, e, h1, h2, h3, h4, h⟩
theorem v_neD {d e : PyData} (h1 : Dp K H x d) (h2 : Dp K H y e) (h3 : SeqAt.shaped d = true) (h4 : SeqAt.shaped e = true) (h : Q (.bl (!PyData.eqv d e)) H) : aNe K x y H Q := .inr ⟨d, e, h1, h2, h3, h4, h⟩
theorem v_isN (h : Q (.bl (decide (x = .non))) H) : aIsN x .non H Q := ⟨rfl, h⟩
theorem v_notN (h : Q (.bl (!decide (x = .non))) H) : aNotN x .non H Q := ⟨rfl, h⟩
theorem v_ipAdd {n m : Int} (h : Q (.int (n + m)) H) : (fun (x y : V) (H : Hp) (Q : VK) => match x, y with | .int i, .int j => Q (.int (i + j)) H | _, _ => False) (.int n) (.int m) H Q := h
def aIpAdd : TIp := fun x y H Q => match x, y with
  | .int i, .int j => Q (.int (i + j)) H
  | _, _ => False
def aIpSub : TIp := fun x y H Q => match x, y with
  | .int i, .int j => Q (.int (i - j)) H
  | _, _ => False
theorem ip_add' {X : Cx} : PIp X .Add aIpAdd := ipAdd
theorem ip_sub' {X : Cx} : PIp X .Sub aIpSub := ipSub
theorem v_ipA {n m : Int} (h : Q (.int (n + m)) H) : aIpAdd (.int n) (.int m) H Q := h
theorem v_ipS {n m : Int} (h : Q (.int (n - m)) H) : aIpSub (.int n) (.int m) H Q := h

/-! ways -/
theorem r_T (h : A) : if true = true then A else B := by rw [if_pos rfl]; exact h
theorem r_F (h : B) : if false = true then A else B := by rw [if_neg Bool.false_ne_true]; exact h
theorem r_nT (h : B) : if (!true) = true then A else B := by rw [if_neg (by decide)]; exact h
theorem r_nF (h : A) : if (!false) = true then A else B := by rw [if_pos (by decide)]; exact h
theorem r_w {c : Prop} [Decidable c] (h1 : c → A) (h2 : ¬ c → B) : if decide c = true then A else B := by
  by_cases h : c
  · rw [decide_eq_true h, if_pos rfl]; exact h1 h
  · rw [decide_eq_false h, if_neg Bool.false_ne_true]; exact h2 h
theorem r_nw {c : Prop} [Decidable c] (h1 : ¬ c → A) (h2 : c → B) : if (!decide c) = true then A else B := by
  by_cases h : c
  · rw [decide_eq_true h]; exact r_nT (h2 h)
  · rw [decide_eq_false h]; exact r_nF (h1 h)
theorem r_b (h1 : b = true → A) (h2 : b = false → B) : if b = true then A else B := by
  cases b with
  | true => exact r_T (h1 rfl)
  | false => exact r_F (h2 rfl)
theorem r_nb (h1 : b = false → A) (h2 : b = true → B) : if (!b) = true then A else B := by
  cases b with
  | true => exact r_nT (h2 rfl)
  | false => exact r_nF (h1 rfl)
theorem r_wT {c : Prop} [Decidable c] (hc : c) (h : A) : if decide c = true then A else B := r_w (fun _ => h) fun n => (n hc).elim
theorem r_wF {c : Prop} [Decidable c] (hc : ¬ c) (h : B) : if decide c = true then A else B := r_w (fun n => (hc n).elim) fun _ => h
theorem r_nwT {c : Prop} [Decidable c] (hc : ¬ c) (h : A) : if (!decide c) = true then A else B := r_nw (fun _ => h) fun n => (hc n).elim
theorem r_nwF {c : Prop} [Decidable c] (hc : c) (h : B) : if (!decide c) = true then A else B := r_nw (fun n => (n hc).elim) fun _ => h

/-! loops -/
/-- while: W by a measure; the body is read for the next turn -/
theorem r_while {c : TT} (W : Nat → L2.St → Hp → Prop) (h0 : ∃ m, W m σ H)
    (hs : ∀ m σ H, W m σ H → c σ H fun b H1 => if b = true then ∃ N : L2.St → Hp → Prop, (∀ σ' H', N σ' H' → ∃ m', m' < m ∧ W m' σ' H') ∧ t1 { D with nx := N, ct := N, bk := D.nx } σ H1 else D.nx σ H1) : tWhile c t1 D σ H := ⟨W, h0, hs⟩
theorem r_next_turn {W : Nat → L2.St → Hp → Prop} {m : Nat} {P : (L2.St → Hp → Prop) → Prop} (h : P (fun σ' H' => ∃ m', m' < m ∧ W m' σ' H')) : ∃ N : L2.St → Hp → Prop, (∀ σ' H', N σ' H' → ∃ m', m' < m ∧ W m' σ' H') ∧ P N := ⟨_, fun _ _ h => h, h⟩
theorem r_rng1 {J : It → Hp → Prop} {n : Int} (h0 : -(2 ^ 62) ≤ n ∧ n < 2 ^ 62) (h : J (Itr 0 n.toNat) H) (ha : as σ H = fun QA => QA [.int n] H) : iRng1 as σ H J := by
  unfold iRng1
  rw [ha]
  exact ⟨n, rfl, h0.1, h0.2, h⟩
end

/-! ### defs by their names -/
/-- the module's name x holds a def that keeps sp; dvs: its defaults -/
structure Cal (P : Program) (w : World) (K : PySem.W.Frag) (mg : Str → Option Value) (base : Heap) (CX : CXT) (k : Nat) (x : Str) (dvs : List V) (sp : Sp) : Prop where
  ex : ∃ (f : Addr) (fd : FuncData) (ps : List Str) (ds : List Value), mg x = some (.ref f) ∧ PySem.W.keepIn K (.ref f) = true ∧ Binds K fd ps ds ∧ Vals dvs ds ∧ FnOk P w K mg base CX k f fd ps sp
/-- the class at C has a method m that keeps sp -/
structure CalM (P : Program) (w : World) (K : PySem.W.Frag) (mg : Str → Option Value) (base : Heap) (CX : CXT) (k : Nat) (C : Addr) (m : Str) (dvs : List V) (sp : Sp) : Prop where
  cl : Cls K C
  ex : ∃ (f : Addr) (fd : FuncData) (ps : List Str) (ds : List Value), Meth K C m f ∧ Binds K fd ps ds ∧ Vals dvs ds ∧ FnOk P w K mg base CX k f fd ps sp
/-- the name x holds the class at C, made by an __init__ that keeps sp -/
structure CalC (P : Program) (w : World) (K : PySem.W.Frag) (mg : Str → Option Value) (base : Heap) (CX : CXT) (k : Nat) (x : Str) (C : Addr) (dvs : List V) (sp : Sp) : Prop where
  ex : ∃ (f : Addr) (fd : FuncData) (ps : List Str) (ds : List Value), mg x = some (.ref C) ∧ Mk K C f ∧ Binds K fd ps ds ∧ Vals dvs ds ∧ FnOk P w K mg base CX k f fd ps sp
section
variable {X : Cx} {CX : CXT} {k j : Nat} {C : Addr} {sp : Sp} {dvs : List V} {E : XK} {x m : Str} {p pos apos : Pos} {e o : Expr} {es : List Expr} {ta : TE} {t : TA}
theorem pe_callF (c : Cal X.prog X.w X.K X.mg X.base CX j x dvs sp) (hr : Room k X.A) (hg : Gl X x) (hx : Passes CX X E) (ha : PA X (e :: es) t) (hk : j ≤ k := by decide)
    (hdb : (x == ("__debug__" : Str)) = false := by decide) (he : starEach (e :: es) X.env = (false, eval e X.env) :: starEach es X.env := by rfl) (hpl : (backTo pos (starEach es X.env)).any (·.1) = false := by rfl) :
    PE X (.Call (.Name x p) (e :: es) [] pos) (tCall sp dvs E t) := by
  obtain ⟨f, fd, ps, ds, h1, h2, h3, h4, h5⟩ := c.ex
  exact pe_call h5 (hr.mono hk) hg h1 h2 h3 h4 hx ha hdb he hpl
theorem pe_callF0 (c : Cal X.prog X.w X.K X.mg X.base CX j x dvs sp) (hr : Room k X.A) (hg : Gl X x) (hx : Passes CX X E) (hk : j ≤ k := by decide)
    (hdb : (x == ("__debug__" : Str)) = false := by decide) : PE X (.Call (.Name x p) [] [] pos) (tCall sp dvs E tNil) := by
  obtain ⟨f, fd, ps, ds, h1, h2, h3, h4, h5⟩ := c.ex
  exact pe_call0 h5 (hr.mono hk) hg h1 h2 h3 h4 hx hdb
theorem pe_methF {pl : Sem Bool} (he : PE X o ta) (c : CalM X.prog X.w X.K X.mg X.base CX j C m dvs sp) (hr : Room k X.A) (hx : Passes CX X E) (ha : PA X (e :: es) t) (hk : j ≤ k := by decide)
    (hst : starEach (e :: es) X.env = (false, eval e X.env) :: starEach es X.env := by rfl) (hpl : (backTo pos (starEach es X.env)).any (·.1) = false := by rfl)
    (ht : eval (.Call (.Attribute o m apos) (e :: es) [] pos) X.env = (do
      let ov ← eval o X.env
      standAt apos.atName
      let (f, first) ← holding [ov] (getMethod ov m pl)
      callWith pos f first (backTo pos (starEach (e :: es) X.env)) (backToKw pos (keywordEach [] X.env))) := by rfl) :
    PE X (.Call (.Attribute o m apos) (e :: es) [] pos) (tMeth C m sp dvs E ta t) := by
  obtain ⟨f, fd, ps, ds, h1, h3, h4, h5⟩ := c.ex
  exact pe_meth he c.cl h1 h5 (hr.mono hk) h3 h4 hx ha hst hpl ht
theorem pe_methF0 {pl : Sem Bool} (he : PE X o ta) (c : CalM X.prog X.w X.K X.mg X.base CX j C m dvs sp) (hr : Room k X.A) (hx : Passes CX X E) (hk : j ≤ k := by decide)
    (ht : eval (.Call (.Attribute o m apos) [] [] pos) X.env = (do
      let ov ← eval o X.env
      standAt apos.atName
      let (f, first) ← holding [ov] (getMethod ov m pl)
      callWith pos f first (backTo pos (starEach [] X.env)) (backToKw pos (keywordEach [] X.env))) := by rfl) :
    PE X (.Call (.Attribute o m apos) [] [] pos) (tMeth C m sp dvs E ta tNil) := by
  obtain ⟨f, fd, ps, ds, h1, h3, h4, h5⟩ := c.ex
  exact pe_meth0 he c.cl h1 h5 (hr.mono hk) h3 h4 hx ht
theorem pe_makeF (c : CalC X.prog X.w X.K X.mg X.base CX j x C dvs sp) (hr : Room k X.A) (hg : Gl X x) (hx : Passes CX X E) (ha : PA X (e :: es) t) (hk : j + 1 ≤ k := by decide)
    (hdb : (x == ("__debug__" : Str)) = false := by decide) (he : starEach (e :: es) X.env = (false, eval e X.env) :: starEach es X.env := by rfl) (hpl : (backTo pos (starEach es X.env)).any (·.1) = false := by rfl) :
    PE X (.Call (.Name x p) (e :: es) [] pos) (tMake C sp dvs E t) := by
  obtain ⟨f, fd, ps, ds, h1, h2, h3, h4, h5⟩ := c.ex
  exact pe_make h2 h5 (hr.mono hk) hg h1 h3 h4 hx ha hdb he hpl
theorem pe_makeF0 (c : CalC X.prog X.w X.K X.mg X.base CX j x C dvs sp) (hr : Room k X.A) (hg : Gl X x) (hx : Passes CX X E) (hk : j + 1 ≤ k := by decide)
    (hdb : (x == ("__debug__" : Str)) = false := by decide) : PE X (.Call (.Name x p) [] [] pos) (tMake C sp dvs E tNil) := by
  obtain ⟨f, fd, ps, ds, h1, h2, h3, h4, h5⟩ := c.ex
  exact pe_make0 h2 h5 (hr.mono hk) hg h1 h3 h4 hx hdb
end
/-- a walked thing in a for, in a comprehension -/
theorem r_for {wi : TI} {g : TG} {tb : TS} {D : Ends} {σ : L2.St} {H : Hp} (h : wi σ H fun J H1 => ∃ W : Nat → Nat → L2.St → Hp → Prop, (∃ m, W 0 m σ H1) ∧ ∀ i m σ H, W i m σ H →
  (J.stop i H ∧ D.nx σ H) ∨ (J.go i H ∧ ∃ N : L2.St → Hp → Prop, (∀ σ' H', N σ' H' → ∃ m', m' < m ∧ W (i + 1) m' σ' H') ∧ ∀ x H', J.yld i H x H' → g x σ H' fun σ2 H2 => tb { D with nx := N, ct := N, bk := D.nx } σ2 H2)) : tFor wi g tb D σ H := h
theorem r_lc {wi : TI} {g : TG} {tt : TT} {te : TE} {vs : List Nat} {σ : L2.St} {H : Hp} {Q : VK} (h : wi σ H fun J H1 => ∀ D, H1 D = none → ∃ W : Nat → Nat → Hp → Prop, (∃ m, W 0 m (upd H1 D (.lst []))) ∧ ∀ i m H, W i m H →
  (J.stop i H ∧ Q (.ref D) H) ∨ (J.go i H ∧ ∃ Nx : Hp → Prop, (∀ H', Nx H' → ∃ m', m' < m ∧ W (i + 1) m' H') ∧ ∀ x H', J.yld i H x H' → g x (wipe σ vs) H' fun σ2 H2 => wipe σ2 vs = wipe σ vs ∧ tt σ2 H2 fun b H3 =>
    if b = true then te σ2 H3 fun y H4 => ∃ acc, H4 D = some (.lst acc) ∧ acc.length < sizeLine ∧ Nx (upd H4 D (.lst (acc ++ [y]))) else Nx H3)) : tLc wi g tt te vs σ H Q := h
section
variable {K : PySem.W.Frag} {tl : TE} {as : TA} {σ : L2.St} {H : Hp} {R : It → Hp → Prop}
def kList (K : PySem.W.Frag) (R : It → Hp → Prop) : V → Hp → Prop := fun x H1 => ∃ a, x = .ref a ∧ (∃ xs, SqL K H1 a xs) ∧ R (Itl K a) H1
def kTupI (K : PySem.W.Frag) (R : It → Hp → Prop) : V → Hp → Prop := fun x H1 => ∃ a, x = .ref a ∧ (∃ xs, SqT K H1 a xs) ∧ R (Itt K a) H1
def kRng1 (R : It → Hp → Prop) : List V → Hp → Prop := fun vs H1 => ∃ j : Int, vs = [.int j] ∧ -(2 ^ 62) ≤ j ∧ j < 2 ^ 62 ∧ R (Itr 0 j.toNat) H1
def kRng2 (R : It → Hp → Prop) : List V → Hp → Prop := fun vs H1 => ∃ i j : Int, vs = [.int i, .int j] ∧ (-(2 ^ 62) ≤ i ∧ i < 2 ^ 62 ∧ -(2 ^ 62) ≤ j ∧ j < 2 ^ 62) ∧ R (Itr i (j - i).toNat) H1
def kRng3 (R : It → Hp → Prop) : List V → Hp → Prop := fun vs H1 => ∃ (i j c : Int) (n : Nat), vs = [.int i, .int j, .int c] ∧ RgC i j c n ∧ R (Itc i c n) H1
def kEnum (K : PySem.W.Frag) (R : It → Hp → Prop) : List V → Hp → Prop := fun vs H1 => ∃ a xs, vs = [.ref a] ∧ SqL K H1 a xs ∧ R (Ite K a) H1
def kZip (K : PySem.W.Frag) (R : It → Hp → Prop) : List V → Hp → Prop := fun vs H1 => ∃ a b xs ys, vs = [.ref a, .ref b] ∧ SqL K H1 a xs ∧ SqL K H1 b ys ∧ R (Itz K a b) H1
def kRev (K : PySem.W.Frag) (R : It → Hp → Prop) : List V → Hp → Prop := fun vs H1 => ∃ (a : Addr) (xs : List V), vs = [.ref a] ∧ SqL K H1 a xs ∧ R (Itv K a xs.length) H1
theorem r_iList (h : tl σ H (kList K R)) : iList K tl σ H R := h
theorem r_iTup (h : tl σ H (kTupI K R)) : iTup K tl σ H R := h
theorem r_iRng1 (h : as σ H (kRng1 R)) : iRng1 as σ H R := h
theorem r_iRng2 (h : as σ H (kRng2 R)) : iRng2 as σ H R := h
theorem r_iRng3 (h : as σ H (kRng3 R)) : iRng3 as σ H R := h
theorem r_iEnum (h : as σ H (kEnum K R)) : iEnum K as σ H R := h
theorem r_iZip (h : as σ H (kZip K R)) : iZip K as σ H R := h
theorem r_iRev (h : as σ H (kRev K R)) : iRev K as σ H R := h
theorem v_iList {a : Addr} {xs : List V} (h : SqL K H a xs) (k : R (Itl K a) H) : kList K R (.ref a) H := ⟨a, rfl, ⟨xs, h⟩, k⟩
theorem v_iTup {a : Addr} {xs : List V} (h : SqT K H a xs) (k : R (Itt K a) H) : kTupI K R (.ref a) H := ⟨a, rfl, ⟨xs, h⟩, k⟩
theorem v_rng1 {n : Int} (h0 : -(2 ^ 62) ≤ n ∧ n < 2 ^ 62) (k : R (Itr 0 n.toNat) H) : kRng1 R [.int n] H := ⟨n, rfl, h0.1, h0.2, k⟩
theorem v_rng2 {n m : Int} (h0 : -(2 ^ 62) ≤ n ∧ n < 2 ^ 62 ∧ -(2 ^ 62) ≤ m ∧ m < 2 ^ 62) (k : R (Itr n (m - n).toNat) H) : kRng2 R [.int n, .int m] H := ⟨n, m, rfl, h0, k⟩
theorem v_rng3 {i j c : Int} {n : Nat} (h0 : RgC i j c n) (k : R (Itc i c n) H) : kRng3 R [.int i, .int j, .int c] H := ⟨i, j, c, n, rfl, h0, k⟩
theorem v_enum {a : Addr} {xs : List V} (h : SqL K H a xs) (k : R (Ite K a) H) : kEnum K R [.ref a] H := ⟨a, xs, rfl, h, k⟩
theorem v_zip {a b : Addr} {xs ys : List V} (h : SqL K H a xs) (h2 : SqL K H b ys) (k : R (Itz K a b) H) : kZip K R [.ref a, .ref b] H := ⟨a, b, xs, ys, rfl, h, h2, k⟩
theorem v_rev1 {a : Addr} {xs : List V} (h : SqL K H a xs) (k : R (Itv K a xs.length) H) : kRev K R [.ref a] H := ⟨a, xs, rfl, h, k⟩
end
end SH


set_option Elab.async false
set_option linter.all false
set_option maxRecDepth 100000
set_option maxHeartbeats 4000000
/-! SHC: lengths, places, fields, constants -/
namespace SH
open PySem PySem.Spec PyProof.Rows L2

def Sq (K : PySem.W.Frag) (H : Hp) (a : Addr) (xs : List V) : Prop := SqL K H a xs ∨ SqT K H a xs
def aLen (K : PySem.W.Frag) : List V → Hp → VK → Prop := fun vs H Q => match vs with
  | [.ref p] => ∃ xs, Sq K H p xs ∧ Q (.int xs.length) H
  | [.str y] => y.length ≤ sizeLine ∧ Q (.int y.length) H
  | _ => False
def aIx (K : PySem.W.Frag) : R2 := fun x y H Q => match x, y with
  | .ref p, .int i => ∃ xs v, Sq K H p xs ∧ atI xs i = some v ∧ Q v H
  | .str z, .int i => ∃ c, z.length ≤ sizeLine ∧ atI z.cps.toList i = some c ∧ Q (.str ⟨#[c]⟩) H
  | _, _ => False
section
variable {X : Cx} {o e value : Expr} {f : Str} {pos tpos pos' : Pos} {ta tv : TE} {C : Addr}
theorem cLen : CallR X (.builtin "len") (aLen X.K) := by
  intro pins s σ H xs us Q I r h
  match xs, r, h with
  | [], _, h => exact False.elim h
  | [.ref p], r, h =>
    obtain ⟨ys, hq, q⟩ := h
    exact call_len pins s σ H _ us Q I r ⟨.ref p, ys.length, rfl, hq.elim (fun z => .inl ⟨ys, z, rfl⟩) fun z => .inr ⟨ys, z, rfl⟩, q⟩
  | [.str y], r, h => exact call_len pins s σ H _ us Q I r ⟨.str y, y.length, rfl, ⟨h.1, rfl⟩, h.2⟩
  | [.non], _, h => exact False.elim h
  | [.bl _], _, h => exact False.elim h
  | [.int _], _, h => exact False.elim h
  | [.byt _], _, h => exact False.elim h
  | [.flt _], _, h => exact False.elim h
  | [.ty _], _, h => exact False.elim h
  | _ :: _ :: _, _, h => revert h; intro h; simp [aLen] at h
theorem ixA : IxR X (aIx X.K) := by
  intro value slice pins s σ H x y v u Q I rx ry h hs
  cases x <;> cases y <;> first | exact False.elim h | skip
  · obtain ⟨c, h1, h2, q⟩ := h
    exact ix_str value slice pins s σ H _ _ v u Q I rx ry ⟨_, _, c, rfl, rfl, h1, h2, q⟩ hs
  · obtain ⟨xs, w, hq, h2, q⟩ := h
    rcases hq with hq | hq
    · exact ix_list value slice pins s σ H _ _ v u Q I rx ry ⟨_, xs, _, w, rfl, rfl, hq, h2, q⟩ hs
    · exact ix_tup value slice pins s σ H _ _ v u Q I rx ry ⟨_, xs, _, w, rfl, rfl, hq, h2, q⟩ hs
/-- e.f, the class known -/
def tFldF (C : Addr) (ta : TE) (f : Str) : TE := fun σ H Q => ta σ H fun x H1 => ∃ a dx fs v, x = .ref a ∧ H1 a = some (.ins C dx fs) ∧ fs.lookup f = some v ∧ Q v H1
theorem pe_fldF (cl : Cls X.K C) (na : NoAttr X.K C f) (he : PE X e ta) (hb : attributeBase e f X.env (eval e X.env) = eval e X.env := by rfl) : PE X (.Attribute e f pos) (tFldF C ta f) := by
  refine ⟨fun pins s σ H Q I h => ?_⟩
  refine attr_of hb (thn (he.run pins s σ H _ I h) fun u s1 ⟨x, H1, I1, rx, a, dx, fs, v, ex, ea, l, q⟩ => ?_)
  subst ex
  obtain rfl : u = Value.ref a := rx
  exact getattr_ok I1 ea cl na l fun u' s2 I2 ru => ⟨v, H1, I2, ru, q⟩
def sFldF (C : Addr) (ta tv : TE) (f : Str) : TS := fun D σ H => tv σ H fun y H1 => ta σ H1 fun x H2 => ∃ a dx fs, x = .ref a ∧ H2 a = some (.ins C dx fs) ∧ fs.length < 1000 ∧ D.nx σ (upd H2 a (.ins C dx (putF f y fs)))
theorem ps_fldF (cl : Cls X.K C) (na : NoAttr X.K C f) (ha : PE X o ta) (hv : PE X value tv) (hs : swapsWith value (some (.Attribute o f pos')) pos.line X.env = pure false) : PS X (.Assign [.Attribute o f pos'] value pos) (sFldF C ta tv f) := by
  refine ⟨fun pins s σ H D I h => ?_⟩
  refine plainObj_wpAny_Assign_Attribute (thn (hv.run pins s σ H _ I h) fun u s1 ⟨y, H1, I1, ry, q⟩ => thn (ha.run pins s1 σ H1 _ I1 q) fun ov s2 ⟨x, H2, I2, rx, a, dx, fs, ex, ea, l, q2⟩ => ?_) hs
  subst ex
  obtain rfl : ov = Value.ref a := rx
  exact setattr_ok I2 ea cl na l ry fun s3 I3 => ⟨σ, _, I3, q2⟩
def sFldAugF (C : Addr) (ta tv : TE) (rd : V → V → Hp → VK → Prop) (f : Str) : TS := fun D σ H => ta σ H fun x H1 => ∃ a dx fs v, x = .ref a ∧ H1 a = some (.ins C dx fs) ∧ fs.lookup f = some v ∧
  tv σ H1 fun y H2 => rd v y H2 fun z H3 => ∃ dx' fs', H3 a = some (.ins C dx' fs') ∧ fs'.length < 1000 ∧ D.nx σ (upd H3 a (.ins C dx' (putF f z fs')))
theorem ps_fldaugF {op : Operator} {rd : V → V → Hp → VK → Prop} (cl : Cls X.K C) (na : NoAttr X.K C f) (ha : PE X o ta) (hv : PE X value tv) (hop : InOp X op rd) : PS X (.AugAssign (.Attribute o f tpos) op value pos) (sFldAugF C ta tv rd f) := by
  refine ⟨fun pins s σ H D I h => ?_⟩
  refine wpAny_AugAssign_AttributeAny (thn (ha.run pins s σ H _ I h) fun ov s1 ⟨x, H1, I1, rx, a, dx, fs, v, ex, ea, l, q⟩ => ?_)
  subst ex
  obtain rfl : ov = Value.ref a := rx
  refine getattr_ok I1 ea cl na l fun u s2 I2 ru => thn (hv.run pins s2 σ H1 _ I2 q) fun w3 s3 ⟨y, H2, I3, ry, q3⟩ => thn (hop pins s3 σ H2 v y u w3 _ I3 ru ry q3) fun w4 s4 ⟨z, H3, I4, rz, dx', fs', ea', l', q4⟩ => ?_
  exact setattr_ok I4 ea' cl na l' rz fun s5 I5 => ⟨σ, _, I5, q4⟩
theorem in_add' : InOp X .Add aIpAdd := ip_add'
theorem in_sub' : InOp X .Sub aIpSub := ip_sub'
/-- a module's constant that is an int -/
theorem pe_k {x : Str} {v : V} (hm : ∃ u, X.mg x = some u ∧ RelV v u) (hg : Gl X x := by rfl) (hd : (x == ("__debug__" : Str)) = false := by decide) : PE X (.Name x pos) (tC v) := by
  obtain ⟨u, h1, h2⟩ := hm
  exact pe_glob hg h1 h2 hd
/-- xs[i], for xs[i] op= e -/
def aGetL (K : PySem.W.Frag) : V → V → Hp → VK → Prop := fun o i H Q => ∃ p xs k v, o = .ref p ∧ i = .int k ∧ H p = some (.lst xs) ∧ 0 ≤ k ∧ k < 2 ^ 63 ∧ xs[k.toNat]? = some v ∧ Q v H
theorem getL : PGet X (aGetL X.K) := by
  intro pins s σ H o i ov iv Q I ro ri h
  obtain ⟨p, xs, k, v, rfl, rfl, hp, h0, h1, hv, q⟩ := h
  cases ro
  obtain ⟨t, rfl⟩ := ri
  obtain ⟨its, r, pl, hz⟩ := I.list (SqL.of (K := X.K) hp)
  obtain ⟨w, ew, rw'⟩ := r.get hv
  exact wpAny_getItem_list pl.isList h0 h1 (by simpa using ew) ⟨v, H, I, rw', q⟩
end
section
variable {K : PySem.W.Frag} {H : Hp} {Q : VK} {x y v : V} {a p dx C : Addr} {fs : List (Str × V)} {f : Str} {xs : List V} {i : Int} {n : Nat} {ta tv : TE} {σ : L2.St} {D : Ends}
theorem v_lenL (h : SqL K H p xs) (k : Q (.int xs.length) H) : aLen K [.ref p] H Q := ⟨xs, .inl h, k⟩
theorem v_lenLm {α : Type} {f : α → V} {ns : List α} (h : SqL K H p (ns.map f)) (k : Q (.int ns.length) H) : aLen K [.ref p] H Q := ⟨_, .inl h, by rw [List.length_map]; exact k⟩
theorem v_lenTm {α : Type} {f : α → V} {ns : List α} (h : SqT K H p (ns.map f)) (k : Q (.int ns.length) H) : aLen K [.ref p] H Q := ⟨_, .inr h, by rw [List.length_map]; exact k⟩
theorem v_lenT (h : SqT K H p xs) (k : Q (.int xs.length) H) : aLen K [.ref p] H Q := ⟨xs, .inr h, k⟩
theorem v_ixL (h : SqL K H p xs) (ha : atI xs i = some v) (k : Q v H) : aIx K (.ref p) (.int i) H Q := ⟨xs, v, .inl h, ha, k⟩
theorem v_ixT (h : SqT K H p xs) (ha : atI xs i = some v) (k : Q v H) : aIx K (.ref p) (.int i) H Q := ⟨xs, v, .inr h, ha, k⟩
/-- at a place n -/
theorem v_ixLn (h : SqL K H p xs) (e : i = (n : Int)) (ha : xs[n]? = some v) (k : Q v H) : aIx K (.ref p) (.int i) H Q := ⟨xs, v, .inl h, by rw [e]; exact atI_nat ha, k⟩
theorem v_ixTn (h : SqT K H p xs) (e : i = (n : Int)) (ha : xs[n]? = some v) (k : Q v H) : aIx K (.ref p) (.int i) H Q := ⟨xs, v, .inr h, by rw [e]; exact atI_nat ha, k⟩
def kFld (C : Addr) (f : Str) (Q : VK) : VK := fun x H1 => ∃ a dx fs v, x = .ref a ∧ H1 a = some (.ins C dx fs) ∧ fs.lookup f = some v ∧ Q v H1
theorem r_fldF (h : ta σ H (kFld C f Q)) : tFldF C ta f σ H Q := h
theorem v_fld (h : H a = some (.ins C dx fs)) (l : fs.lookup f = some v) (k : Q v H) : kFld C f Q (.ref a) H := ⟨a, dx, fs, v, rfl, h, l, k⟩
def kSfld (C : Addr) (f : Str) (y : V) (R : Hp → Prop) : VK := fun x H2 => ∃ a dx fs, x = .ref a ∧ H2 a = some (.ins C dx fs) ∧ fs.length < 1000 ∧ R (upd H2 a (.ins C dx (putF f y fs)))
theorem r_sfldF (h : tv σ H fun y H1 => ta σ H1 (kSfld C f y (D.nx σ))) : sFldF C ta tv f D σ H := h
theorem v_sfld {fs' : List (Str × V)} {R : Hp → Prop} (h : H a = some (.ins C dx fs)) (l : fs.length < 1000) (e : putF f y fs = fs') (k : R (upd H a (.ins C dx fs'))) : kSfld C f y R (.ref a) H := ⟨a, dx, fs, rfl, h, l, by rw [e]; exact k⟩
def kAug1 (C : Addr) (f : Str) (R : V → Addr → Hp → Prop) : VK := fun x H1 => ∃ a dx fs v, x = .ref a ∧ H1 a = some (.ins C dx fs) ∧ fs.lookup f = some v ∧ R v a H1
def kAug2 (C : Addr) (f : Str) (a : Addr) (R : Hp → Prop) : VK := fun z H3 => ∃ dx' fs', H3 a = some (.ins C dx' fs') ∧ fs'.length < 1000 ∧ R (upd H3 a (.ins C dx' (putF f z fs')))
theorem r_sfldAugF {rd : V → V → Hp → VK → Prop} (h : ta σ H (kAug1 C f fun v a H1 => tv σ H1 fun y H2 => rd v y H2 (kAug2 C f a (D.nx σ)))) : sFldAugF C ta tv rd f D σ H := h
theorem v_aug1 {R : V → Addr → Hp → Prop} (h : H a = some (.ins C dx fs)) (l : fs.lookup f = some v) (k : R v a H) : kAug1 C f R (.ref a) H := ⟨a, dx, fs, v, rfl, h, l, k⟩
theorem v_aug2 {fs' : List (Str × V)} {R : Hp → Prop} (h : H a = some (.ins C dx fs)) (l : fs.length < 1000) (e : putF f y fs = fs') (k : R (upd H a (.ins C dx fs'))) : kAug2 C f a R y H := ⟨dx, fs, h, l, by rw [e]; exact k⟩
theorem v_getL (h : H p = some (.lst xs)) (e : i = (n : Int)) (hn : n < 1000000) (ha : xs[n]? = some v) (k : Q v H) : aGetL K (.ref p) (.int i) H Q := ⟨p, xs, i, v, rfl, rfl, h, by omega, by omega, by rw [e]; exact ha, k⟩
theorem ixN_n {m n : Nat} (h : n < m) : ixN m (n : Int) = some n := by
  unfold ixN
  rw [if_pos (by omega), if_pos (by omega)]
  simp
theorem v_setL {P : Hp → Prop} (h : H p = some (.lst xs)) (e : i = (n : Int)) (hn : n < xs.length) (k : P (upd H p (.lst (xs.set n v)))) : rSetL (.ref p) (.int i) v H P := ⟨p, xs, i, n, rfl, rfl, h, by rw [e]; exact ixN_n hn, k⟩
theorem v_append {P : Hp → Prop} (h : H p = some (.lst xs)) (hn : xs.length < 1000000) (k : P (upd H p (.lst (xs ++ [v])))) : tyV K "list" (.ref p) H ∧ rAppend (.ref p) [v] H (fun _ H' => P H') := ⟨.inl ⟨rfl, xs, SqL.of h⟩, p, xs, v, rfl, rfl, h, Nat.lt_trans hn (by decide), k⟩
theorem ty_list (h : H p = some (.lst xs)) : tyV K "list" (.ref p) H := .inl ⟨rfl, xs, SqL.of h⟩
theorem v_app (h : H p = some (.lst xs)) (hn : xs.length < 1000000) (k : Q .non (upd H p (.lst (xs ++ [v])))) : rAppend (.ref p) [v] H Q := ⟨p, xs, v, rfl, rfl, h, Nat.lt_trans hn (by decide), k⟩
theorem v_ext {b : Addr} {ys : List V} (h : H p = some (.lst xs)) (h2 : H b = some (.lst ys)) (hn : xs.length + ys.length ≤ 1000000) (k : Q .non (upd H p (.lst (xs ++ ys)))) : rExtend (.ref p) [.ref b] H Q := ⟨p, b, xs, ys, rfl, rfl, h, h2, Nat.le_trans hn (by decide), k⟩
theorem v_rev (h : H p = some (.lst xs)) (k : Q .non (upd H p (.lst xs.reverse))) : rReverse (.ref p) [] H Q := ⟨p, xs, rfl, rfl, h, k⟩
theorem v_clear (h : H p = some (.lst xs)) (k : Q .non (upd H p (.lst []))) : rClear (.ref p) [] H Q := ⟨p, xs, rfl, rfl, h, k⟩
theorem v_pop (h : H p = some (.lst xs)) (hv : xs[xs.length - 1]? = some v) (k : Q v (upd H p (.lst xs.dropLast))) : rPop (.ref p) [] H Q := ⟨p, xs, v, rfl, rfl, h, hv, k⟩
theorem v_slL {lo hi : Option Int} (h : SqL K H p xs) (k : ∀ q, H q = none → Q (.ref q) (upd H q (.lst (cutV xs lo hi)))) : rSlL K (.ref p) lo hi H Q := ⟨p, xs, rfl, h, k⟩
theorem v_listL (h : SqL K H p xs) (k : ∀ l, H l = none → Q (.ref l) (upd H l (.lst xs))) : ∃ p' ys, [V.ref p] = [.ref p'] ∧ (SqL K H p' ys ∨ SqT K H p' ys) ∧ ∀ l, H l = none → Q (.ref l) (upd H l (.lst ys)) := ⟨p, xs, rfl, .inl h, k⟩
theorem v_listT (h : SqT K H p xs) (k : ∀ l, H l = none → Q (.ref l) (upd H l (.lst xs))) : ∃ p' ys, [V.ref p] = [.ref p'] ∧ (SqL K H p' ys ∨ SqT K H p' ys) ∧ ∀ l, H l = none → Q (.ref l) (upd H l (.lst ys)) := ⟨p, xs, rfl, .inr h, k⟩
theorem v_sum {ns : List Int} (h : SqL K H p (ns.map V.int)) (k : Q (.int ns.sum) H) : rSum K [.ref p] H Q := ⟨p, ns, rfl, h, k⟩
theorem v_isi {c : V} {t u : Value} {b : Bool} (h1 : ClsV c u) (h2 : TyX K H x t) (h3 : PySem.W.kitOne K t u = some b) (k : Q (.bl b) H) : rIsi K [x, c] H Q := ⟨x, c, t, u, b, rfl, h1, h2, h3, k⟩
theorem v_max2 {n m : Int} (k : Q (.int (if m > n then m else n)) H) : ∃ i j, [V.int n, V.int m] = [.int i, .int j] ∧ Q (.int (if j > i then j else i)) H := ⟨n, m, rfl, k⟩
theorem v_min2 {n m : Int} (k : Q (.int (if m < n then m else n)) H) : ∃ i j, [V.int n, V.int m] = [.int i, .int j] ∧ Q (.int (if j < i then j else i)) H := ⟨n, m, rfl, k⟩
theorem v_bits {n : Int} (k : Q (.int (Builtin.Int.intBits n : Nat)) H) : ∃ i, V.int n = .int i ∧ Q (.int (Builtin.Int.intBits i : Nat)) H := ⟨n, rfl, k⟩
theorem r_bits (h : ta σ H fun x H1 => ∃ i, x = .int i ∧ Q (.int (Builtin.Int.intBits i : Nat)) H1) : tBits ta σ H Q := h
end

/-- 10 ** 60 -/
def big60 : Int := 10 ^ 60
theorem big60_pos : 0 < big60 := by unfold big60; decide
theorem big60_lt : big60 < 2 ^ 200 := by unfold big60; decide +kernel
section
variable {K : PySem.W.Frag} {H : Hp} {Q : VK} {x : V}
theorem v_pow60 (k : Q (.int big60) H) : aPow (.int 10) (.int 60) H Q := ⟨⟨by decide, by decide, by decide⟩, k⟩
theorem v_isiIT {n : Int} (k : Q (.bl true) H) : rIsi K [.int n, .ty "int"] H Q := ⟨.int n, .ty "int", .type "int", .type "int", true, rfl, .ty _, .base (.int n), by rfl, k⟩
theorem v_isiIB {n : Int} (k : Q (.bl false) H) : rIsi K [.int n, .ty "bool"] H Q := ⟨.int n, .ty "bool", .type "int", .type "bool", false, rfl, .ty _, .base (.int n), by rfl, k⟩
end
theorem map_at {α : Type} {f : α → V} {ns : List α} {i : Nat} {x : V} (h : (ns.map f)[i]? = some x) : ∃ n, ns[i]? = some n ∧ x = f n := by
  rw [List.getElem?_map] at h
  cases e : ns[i]? with
  | none => rw [e] at h; cases h
  | some n => rw [e] at h; exact ⟨n, rfl, (Option.some.inj h).symm⟩
/-- a cut of any list -/
def cutL {α : Type} (xs : List α) (lo hi : Option Int) : List α := (xs.drop (HT.sIx xs.length 0 lo)).take (HT.sIx xs.length xs.length hi - HT.sIx xs.length 0 lo)
theorem cut_map {α : Type} (f : α → V) (ns : List α) (lo hi : Option Int) : cutV (ns.map f) lo hi = (cutL ns lo hi).map f := by
  unfold cutV cutL
  rw [List.length_map, List.map_take, List.map_drop]
theorem cutL_mem {α : Type} {xs : List α} {lo hi : Option Int} {x : α} (h : x ∈ cutL xs lo hi) : x ∈ xs := List.mem_of_mem_drop (List.mem_of_mem_take h)
theorem cutL_len {α : Type} (xs : List α) (lo hi : Option Int) : (cutL xs lo hi).length ≤ xs.length := by
  unfold cutL
  rw [List.length_take, List.length_drop]
  omega
theorem cutL_upto {α : Type} (xs : List α) (k : Nat) : cutL xs none (some (k : Int)) = xs.take k := by
  unfold cutL
  rw [HT.sIx_none, HT.sIx_nat, List.drop_zero, Nat.sub_zero, List.take_eq_take_iff]
  omega
theorem cutL_from {α : Type} (xs : List α) (k : Nat) : cutL xs (some (k : Int)) none = xs.drop k := by
  unfold cutL
  rw [HT.sIx_none, HT.sIx_nat]
  by_cases h : k ≤ xs.length
  · rw [Nat.min_eq_left h, List.take_of_length_le (by rw [List.length_drop]; omega)]
  · have e1 : min k xs.length = xs.length := by omega
    rw [e1, List.drop_length, List.drop_of_length_le (by omega), List.take_nil]
theorem cutL_span {α : Type} (xs : List α) (i j : Nat) : cutL xs (some (i : Int)) (some (j : Int)) = (xs.drop i).take (j - i) := by
  unfold cutL
  rw [HT.sIx_nat, HT.sIx_nat]
  by_cases h : i ≤ xs.length
  · rw [Nat.min_eq_left h]
    by_cases h2 : j ≤ xs.length
    · rw [Nat.min_eq_left h2]
    · rw [Nat.min_eq_right (by omega), List.take_of_length_le (by rw [List.length_drop]; omega), List.take_of_length_le (by rw [List.length_drop]; omega)]
  · have e1 : min i xs.length = xs.length := by omega
    rw [e1, List.drop_length, List.drop_of_length_le (by omega), List.take_nil, List.take_nil]
/-- what a law is asked: the script's ints in, True out -/
def lawSp (K : PySem.W.Frag) : Sp := fun vs H Q _ => ∃ (a : Addr) (ns : List Int), vs = [.ref a] ∧ SqL K H a (ns.map V.int) ∧ ns.length ≤ 63 ∧ ∀ H', Q (.bl true) H'
end SH

set_option Elab.async false
set_option linter.all false
set_option maxRecDepth 100000
set_option maxHeartbeats 4000000
/-! SHD: functions that are made by a def and handed out -/
namespace SH
open PySem PySem.Spec PyProof.Rows L2 NdefX LamX

/-- the cell at c holds v -/
def cellO (c : Addr) (v : V) : HO := .ext fun h => ∃ u, L2.RelV v u ∧ h.IsCell c (some u)
theorem cellO_ok {P : Program} {w : World} {H : Hp} {h : Heap} {c : Addr} {v : V} {u : Value} (r : L2.RelV v u) (e : h.IsCell c (some u)) : ObjOk P w H h c (cellO c v) := by
  refine ⟨⟨u, r, e⟩, ?_, fun h1 h2 ⟨u', r', o, ho, hd⟩ st => ⟨u', r', o, st o ho, hd⟩⟩
  obtain ⟨o, ho, _⟩ := e
  exact ⟨o, ho⟩
theorem cellO_at {P : Program} {w : World} {H : Hp} {h : Heap} {c : Addr} {v : V} (hok : HOk P w H h) (e : H c = some (cellO c v)) : ∃ u, L2.RelV v u ∧ h.IsCell c (some u) := (hok c _ e).1
/-- at f stands a function of the text st, made in the def of the name before it; its captured names fr hold ws -/
structure Clo (H : Hp) (f : Addr) (st : Stmt) (name qual : Str) (fr : List Str) (ws : List V) (cl : List (Str × Addr)) (c' : Addr) : Prop where
  fn : H f = some (FnO f (NF.of st name qual cl c'))
  code : H c' = some (CodeO c' qual)
  len : ws.length = fr.length
  cells : ∀ y c, (y, c) ∈ cl → ∃ v, H c = some (cellO c v)
  inj : ∀ x y c, cl.lookup x = some c → cl.lookup y = some c → x = y
  has : ∀ (i : Nat) (y : Str), fr[i]? = some y → ∃ c v, cl.lookup y = some c ∧ ws[i]? = some v ∧ H c = some (cellO c v)
theorem Clo.step {M : List Addr} {H H' : Hp} {f : Addr} {st : Stmt} {name qual : Str} {fr : List Str} {ws : List V} {cl : List (Str × Addr)} {c' : Addr} (c : Clo H f st name qual fr ws cl c') (s : Stp M H H') : Clo H' f st name qual fr ws cl c' := by
  refine ⟨s.fix c.fn True.intro, s.fix c.code True.intro, c.len, fun y a e => ?_, c.inj, fun i y e => ?_⟩
  · obtain ⟨v, h⟩ := c.cells y a e
    exact ⟨v, s.fix h True.intro⟩
  · obtain ⟨a, v, h1, h2, h3⟩ := c.has i y e
    exact ⟨a, v, h1, h2, s.fix h3 True.intro⟩

/-- the cells of a list tracked too -/
def track (cl : List (Str × Addr)) (val : Addr → HO) (H : Hp) : Hp := fun b => match H b with
  | some o => some o
  | none => if b ∈ cl.map (·.2) then some (val b) else none
theorem track_some {cl : List (Str × Addr)} {val : Addr → HO} {H : Hp} {b : Addr} {o : HO} (h : H b = some o) : track cl val H b = some o := by
  unfold track; rw [h]
theorem track_cell {cl : List (Str × Addr)} {val : Addr → HO} {H : Hp} {b : Addr} (h : H b = none) (m : b ∈ cl.map (·.2)) : track cl val H b = some (val b) := by
  unfold track; rw [h]; exact if_pos m
theorem track_out {cl : List (Str × Addr)} {val : Addr → HO} {H : Hp} {b : Addr} (m : b ∉ cl.map (·.2)) : track cl val H b = H b := by
  unfold track
  cases h : H b with
  | some o => rfl
  | none => exact if_neg m
theorem track_none {cl : List (Str × Addr)} {val : Addr → HO} {H : Hp} {b : Addr} (h : track cl val H b = none) : H b = none ∧ b ∉ cl.map (·.2) := by
  unfold track at h
  cases e : H b with
  | some o => rw [e] at h; cases h
  | none =>
    rw [e] at h
    refine ⟨rfl, fun m => ?_⟩
    have h : (if b ∈ cl.map (·.2) then some (val b) else none) = none := h
    rw [if_pos m] at h
    cases h
theorem track_ok {P : Program} {w : World} {H : Hp} {h : Heap} {cl : List (Str × Addr)} {val : Addr → HO} (hok : HOk P w H h) (hv : ∀ b ∈ cl.map (·.2), H b = none → ObjOk P w (track cl val H) h b (val b)) : HOk P w (track cl val H) h := fun b o e => by
  cases q : H b with
  | some u =>
    rw [track_some q] at e
    cases e
    exact (hok b o q).stay (fun _ _ _ z => z) (fun c z => track_some z) fun c xs z => track_some z
  | none =>
    by_cases m : b ∈ cl.map (·.2)
    · rw [track_cell q m] at e
      cases e
      exact hv b m q
    · rw [track_out m, q] at e; cases e

/-- the body of a def that makes a function and hands it out has come to its end -/
def Made (X : Cx) (σ : L2.St) (H : Hp) (T : List NTab) (i : Nat) (st : Stmt) (nm : Str) : Flow → Shared → Prop := fun fl s' => ∃ f' c' H1, Inv X [] (σ.set i (some (.ref f'))) H1 s' ∧ fl = .ret (.ref f') ∧ ExtN H H1 ∧ (∀ b, H1 b = Option.none → H b = Option.none) ∧ TabsN T H1 ∧ H f' = none ∧
  H1 f' = some (FnO f' (NF.of st nm (X.env.qual ++ nm) (cloFrom X.env.cells (C8.fnScope st).names []) c')) ∧ H1 c' = some (CodeO c' (X.env.qual ++ nm))
theorem mk_body {X : Cx} {σ : L2.St} {H : Hp} {s : Shared} {c P' : Addr} {nm : Str} {pos pos2 pos3 : Pos} {T : List NTab} {nmf : Nat → Nat → Str} {i : Nat} {st : Stmt} (I : Inv X [] σ H s)
    (hst : st = .FunctionDef nm (C8.fnArgs st) (C8.fnBody st) [] none [] (C8.fnScope st) none nm pos)
    (TB : TabB X.base X.mg c P') (hcode : X.env.code = .ref c) (hm : (P', nmf) ∈ T) (hn : nmf pos.line pos.col = X.env.qual ++ nm) (hu : ∀ p ∈ T, p.1 = P' → p.2 = nmf)
    (hfree : ∀ y ∈ (C8.fnScope st).names, y.2 = .free → X.env.scope.names.lookup y.1 = some .cell)
    (hd0 : (C8.fnArgs st).defaults = []) (hk0 : (C8.fnArgs st).kw_defaults = []) (ha : annTrees (C8.fnArgs st) none X.env = []) (hN : X.N.Nodup) (hf : X.fn nm = true ∨ X.env.scope.names.lookup nm = some .local)
    (hi : X.N[i]? = some nm) (hx : X.env.scope.names.lookup nm = some .local) (hdb : (nm == ("__debug__" : Str)) = false) (hcb : (nm == ("__classdict__" : Str)) = false) (hT : TabsN T H) :
    wpAny (model X.prog X.w) X.A (execs [st, .Return (some (.Name nm pos3)) pos2] X.env) (Made X σ H T i st nm) X.xe s := by
  have first := ps_ndefMS (X := X) (i := i) (T := T) (nm := nmf) (P := P') (c := c) hst TB hcode hm hn hu (fun y hy e => .inl (hfree y hy e)) hd0 hk0 ha hN hi (.inl hx) hf
  refine wpAny_execs_cons (thn (first.run [] s σ H ⟨fun σ1 H1 => ∃ f' c', σ1 = σ.set i (some (.ref f')) ∧ ExtN H H1 ∧ (∀ b, H1 b = Option.none → H b = Option.none) ∧ TabsN T H1 ∧ H f' = none ∧
      H1 f' = some (FnO f' (NF.of st nm (X.env.qual ++ nm) (cloFrom X.env.cells (C8.fnScope st).names []) c')) ∧ H1 c' = some (CodeO c' (X.env.qual ++ nm)), fun _ _ => False, fun _ _ => False, fun _ _ => False⟩ I
        ⟨hT, fun f' c' H1 e n t z e1 e2 => ⟨f', c', rfl, e, n, t, z, e1, e2⟩⟩) fun fl s2 q => ?_)
  cases fl with
  | next =>
    obtain ⟨σ1, H1, I1, f', c', rfl, e1, e2, e3, e4, e5, e6⟩ := q
    have hv : (σ.set i (some (V.ref f')))[i]? = some (some (.ref f')) := by
      have hlt : i < X.N.length := (List.getElem?_eq_some_iff.mp hi).1
      rw [List.getElem?_set_self (by rw [I.len]; exact hlt)]
    refine wpAny_execs_cons (wpAny_Return_some (pos := pos2) (thn ((pe_var (X := X) (pos := pos3) hi (.inl hx) hdb hcb).run [] s2 _ H1 (fun v H2 => v = .ref f' ∧ H2 = H1) I1 ⟨.ref f', hv, rfl, rfl⟩) fun u s3 q3 => ?_))
    obtain ⟨v, H2, I2, r2, ev, eH⟩ := q3
    subst ev
    subst eH
    obtain rfl : u = Value.ref f' := r2
    exact ⟨f', c', _, I2, rfl, e1, e2, e3, e4, e5, e6⟩
  | ret v => obtain ⟨_, _, _, _, _, z⟩ := q; exact z.elim
  | brk => obtain ⟨_, _, _, z⟩ := q; exact z.elim
  | cont => obtain ⟨_, _, _, z⟩ := q; exact z.elim
section
variable {P : Program} {w : World} {K : PySem.W.Frag} {mg : Str → Option Value} {base : Heap} {CX : CXT}

/-- a def that makes a function of its parameters and hands it out -/
theorem maker {k : Nat} {f c P' : Addr} {name qual nm : Str} {params : Arguments} {body : List Stmt} {scope : Scope} {dV kV doc pm ct oc : Value} {an od : Option Addr} {pos pos2 pos3 : Pos}
    {osl : Array (Option Value)} {N ps fr : List Str} {sp : Sp} {T : List NTab} {nmf : Nat → Nat → Str} {i : Nat} {st : Stmt} {ix : List Nat} (lk : K.lookup f = some ⟨oc, od, .func (PySem.W.fnOf name qual params body scope dV kV doc pm an (.ref c) ct), osl⟩) (hcd : PySem.W.codeIn K (.ref c) qual = true) (S : FnScope N ps scope)
    (hst : st = .FunctionDef nm (C8.fnArgs st) (C8.fnBody st) [] none [] (C8.fnScope st) none nm pos)
    (hbody : body = [st, .Return (some (.Name nm pos3)) pos2])
    (TB : TabB base mg c P') (hm : (P', nmf) ∈ T) (hn : nmf pos.line pos.col = (qual ++ ".<locals>.") ++ nm) (hu : ∀ p ∈ T, p.1 = P' → p.2 = nmf) (hq : ∀ n g, (envOfC qual scope n g (.ref c)).qual = qual ++ ".<locals>.")
    (hfree : ∀ y ∈ (C8.fnScope st).names, y.2 = .free → scope.names.lookup y.1 = some .cell) (hfr : ∀ y ∈ fr, (y, NameKind.free) ∈ (C8.fnScope st).names) (hfr2 : ∀ y ∈ (C8.fnScope st).names, y.2 = .free → y.1 ∈ fr)
    (hd0 : (C8.fnArgs st).defaults = []) (hk0 : (C8.fnArgs st).kw_defaults = []) (ha : ∀ env, annTrees (C8.fnArgs st) none env = [])
    (hi : N[i]? = some nm) (hx : scope.names.lookup nm = some .local) (hip : ps.length ≤ i) (hdb : (nm == ("__debug__" : Str)) = false) (hcb : (nm == ("__classdict__" : Str)) = false)
    (hix : ix.map (fun j => ps[j]?) = fr.map some)
    (len : ∀ vs H Q E, sp vs H Q E → vs.length = ps.length)
    (hsp : ∀ vs H Q E, sp vs H Q E → TabsN T H ∧ ∀ (f' : Addr) (H' : Hp) (cl : List (Str × Addr)) (c' : Addr), ExtN H H' → (∀ b, H' b = Option.none → H b = Option.none) → TabsN T H' → H f' = none → Clo H' f' st nm ((qual ++ ".<locals>.") ++ nm) fr (ix.map fun j => vs.getD j .non) cl c' → Q (.ref f') H') :
    FnOk P w K mg base CX (k + 1) f (PySem.W.fnOf name qual params body scope dV kV doc pm an (.ref c) ct) ps sp := by
  refine ⟨len, fun A outer s H args us vs Q E hr e0 hb r hs => ?_⟩
  have hl := len _ _ _ _ hs
  have KX : K.In s.heap := e0.mod.kin.keeps fun b o e => (e0.bs b o e).1
  have lim : s.heap.NoLimit := e0.mod.nolimit.keeps fun b o e => (e0.bs b o e).1
  have hkind : ∀ y ∈ ps.zip us, scope.names.lookup y.1 = some .local ∨ (scope.names.lookup y.1 = some .cell ∧ ((cellsFrom (s.heap.objs.size + 1) scope.names []).lookup y.1).isSome = true) := fun ⟨n, v⟩ hy => by
    rcases S.par n (List.of_mem_zip hy).1 with q | q
    · exact .inl q
    · exact .inr ⟨q, PySem.W.cellsFrom_some _ _ _ (.inl q)⟩
  refine codeAny_call_function hr.depth (KX _ _ lk) rfl S.co S.gen rfl (PySem.W.codeRec_of KX hcd) (hb _ _ _ _ ?_)
  refine wpAny_newFunctionEnv_cells S.kind hkind fun env he s1 x => ?_
  subst he
  refine ⟨lim.keeps x.toInCall.keep, codeAny_func ?_⟩
  obtain ⟨hT, hend⟩ := hsp vs H Q E hs
  have I : Inv (cxOf CX P w K mg base N qual scope f (.ref c) A outer s H E) [] (L2.start N vs) H s1 := inv_start S hr.hd e0 hl r x
  have X0 : (cxOf CX P w K mg base N qual scope f (.ref c) A outer s H E).env.qual = qual ++ ".<locals>." := hq _ _
  have B := mk_body (X := cxOf CX P w K mg base N qual scope f (.ref c) A outer s H E) (pos2 := pos2) (pos3 := pos3) I hst TB rfl hm (by rw [X0]; exact hn) hu hfree hd0 hk0 (ha _) S.nd (.inl rfl) hi hx hdb hcb hT
  rw [← hbody] at B
  refine wpAny_mono B (fun fl s' hs => ?_) fun e s' hs => hs
  obtain ⟨f', c', H1, J, rfl, e1, e2, e3, e4, e5, e6⟩ := hs
  rw [X0] at e5 e6
  generalize hcl : cloFrom (cxOf CX P w K mg base N qual scope f (.ref c) A outer s H E).env.cells (C8.fnScope st).names [] = cl at e5
  have hcells : ∀ y ∈ (C8.fnScope st).names, y.2 = .free → ∃ a, (cxOf CX P w K mg base N qual scope f (.ref c) A outer s H E).env.cells.lookup y.1 = some a := fun y hy e => J.ok.has _ (.inl (hfree y hy e))
  have clm : ∀ y a, cl.lookup y = some a → (cxOf CX P w K mg base N qual scope f (.ref c) A outer s H E).env.cells.lookup y = some a := fun y a e => clo_cm hcells (by rw [hcl]; exact e)
  have clf : ∀ y a, (y, a) ∈ cl → y ∈ fr ∧ cl.lookup y = some a := fun y a m => by
    rw [← hcl] at m
    rcases cloFrom_mem m with z | ⟨z1, z2⟩
    · cases z
    · obtain ⟨a1, h1⟩ := hcells _ z1 rfl
      have h1 : (cxOf CX P w K mg base N qual scope f (.ref c) A outer s H E).env.cells.lookup y = some a1 := h1
      have h2 := clo_has hcells z1 h1
      rw [hcl] at h2
      have e : a = a1 := by rw [z2, h1]; rfl
      rw [e]
      exact ⟨hfr2 _ z1 rfl, h2⟩
  -- what each captured name holds
  have val : ∀ y ∈ fr, ∃ a v u, cl.lookup y = some a ∧ L2.RelV v u ∧ s'.heap.IsCell a (some u) ∧ ∀ m : Nat, fr[m]? = some y → (ix.map fun j => vs.getD j .non)[m]? = some v := by
    intro y hy
    obtain ⟨m, hm'⟩ := List.mem_iff_getElem?.mp hy
    have q : (ix.map fun j => ps[j]?)[m]? = some (some y) := by rw [hix, List.getElem?_map, hm']; rfl
    rw [List.getElem?_map] at q
    cases ej : ix[m]? with
    | none => rw [ej] at q; cases q
    | some j =>
      rw [ej] at q
      have hj : ps[j]? = some y := Option.some.inj q
      have hjl : j < ps.length := (List.getElem?_eq_some_iff.mp hj).1
      have hNj : N[j]? = some y := by
        rw [← hj, ← S.pre, List.getElem?_take_of_lt hjl]
      obtain ⟨v, hv⟩ : ∃ v, vs[j]? = some v := ⟨vs[j]'(by omega), by simp [show j < vs.length by omega]⟩
      have hs : ((L2.start N vs).set i (some (V.ref f')))[j]? = some (some v) := by
        rw [List.getElem?_set_ne (by omega)]
        unfold L2.start
        rw [List.getElem?_append_left (by rw [List.length_map]; omega), List.getElem?_map, hv] <;> rfl
      have kc : scope.names.lookup y = some .cell := hfree _ (hfr y hy) rfl
      obtain ⟨mm, hn2, hl2⟩ := J.loc
      obtain ⟨u, ru, lk2⟩ := hl2 j y v hNj hs (.inr (.inl kc))
      rcases lk2 with ⟨z, _⟩ | ⟨_, a, ha2, hcell⟩
      · have z' : scope.names.lookup y = some .local := z
        rw [kc] at z'; cases z'
      · have h2 := clo_has hcells (hfr y hy) ha2
        rw [hcl] at h2
        refine ⟨a, v, u, h2, ru, hcell, fun m' hm2 => ?_⟩
        -- any place of y
        have q2 : (ix.map fun j => ps[j]?)[m']? = some (some y) := by rw [hix, List.getElem?_map, hm2]; rfl
        rw [List.getElem?_map] at q2
        cases ej2 : ix[m']? with
        | none => rw [ej2] at q2; cases q2
        | some j2 =>
          rw [ej2] at q2
          have hj2 : ps[j2]? = some y := Option.some.inj q2
          have ndP : ps.Nodup := by rw [← S.pre]; exact S.nd.sublist (List.take_sublist _ _)
          have : j2 = j := L2.nodup_ix ndP hj2 hj
          subst this
          rw [List.getElem?_map, ej2]
          show some (vs.getD j2 .non) = some v
          rw [List.getD_eq_getElem?_getD, hv] <;> rfl
  let pick : Addr → HO := fun a => cellO a (match cl.find? (fun p => p.2 == a) with | some p => (match fr.findIdx? (fun z => z == p.1) with | some m => (ix.map fun j => vs.getD j .non).getD m .non | none => .non) | none => .non)
  have pick_of : ∀ y a, cl.lookup y = some a → ∀ v, (∀ m : Nat, fr[m]? = some y → (ix.map fun j => vs.getD j .non)[m]? = some v) → y ∈ fr → pick a = cellO a v := by
    intro y a hya v hv hy
    show cellO a _ = cellO a v
    have hmem : (y, a) ∈ cl := PySem.mem_of_lookup hya
    cases ef : cl.find? (fun p => p.2 == a) with
    | none =>
      have := List.find?_eq_none.mp ef (y, a) hmem
      simp at this
    | some p =>
      have hp1 := List.find?_some ef
      have hp2 := List.mem_of_find?_eq_some ef
      have e1 : p.2 = a := by simpa using hp1
      obtain ⟨hpf, hpl⟩ := clf p.1 p.2 hp2
      rw [e1] at hpl
      have ey : p.1 = y := J.ok.inj _ _ _ (clm _ _ hpl) (clm _ _ hya)
      show cellO a (match fr.findIdx? (fun z => z == p.1) with | some m => (ix.map fun j => vs.getD j .non).getD m .non | none => .non) = cellO a v
      rw [ey]
      cases ei : fr.findIdx? (fun z => z == y) with
      | none =>
        have := List.findIdx?_eq_none_iff.mp ei y hy
        simp at this
      | some m =>
        obtain ⟨hm1, hm2, _⟩ := List.findIdx?_eq_some_iff_getElem.mp ei
        have e2 : fr[m] = y := by simpa using hm2
        have := hv m (by rw [List.getElem?_eq_getElem hm1, e2])
        show cellO a ((ix.map fun j => vs.getD j .non).getD m .non) = cellO a v
        rw [List.getD_eq_getElem?_getD, this] <;> rfl
  have offc : ∀ a, a ∈ cl.map (·.2) → H1 a = none ∧ s.heap.objs.size ≤ a := fun a m => by
    obtain ⟨p, hp, rfl⟩ := List.mem_map.mp m
    obtain ⟨_, h2⟩ := clf p.1 p.2 hp
    exact ⟨J.freeC _ _ (clm _ _ h2), J.ok.cab _ _ rfl (clm _ _ h2)⟩
  have hok2 : HOk P w (track cl pick H1) s'.heap := track_ok J.hok fun a m _ => by
    obtain ⟨p, hp, rfl⟩ := List.mem_map.mp m
    obtain ⟨hy, h2⟩ := clf p.1 p.2 hp
    obtain ⟨a', v, u, h3, h4, h5, h6⟩ := val p.1 hy
    rw [h2] at h3
    cases h3
    rw [pick_of _ _ h2 v h6 hy]
    exact cellO_ok h4 h5
  have un2 : Un (frs outer) [] H (track cl pick H1) s.heap s'.heap := by
    have u := J.base
    refine ⟨u.keep, u.slot, fun b o q n hb => ?_, u.there, fun b xs q => track_some (u.tups b xs q), fun b o xs q => track_some (u.frzs b o xs q), fun b xs q => ?_⟩
    · rw [track_out fun m => absurd (Heap.lt_size q) (Nat.not_lt.mpr (offc b m).2)]
      exact u.free b o q n hb
    · obtain ⟨more, h2⟩ := u.tbls b xs q
      exact ⟨more, track_some h2⟩
  refine ⟨.ref f', track cl pick H1, J.os, J.bare, un2, hok2, rfl, hend f' _ cl c' (fun b o q n => track_some (e1 b o q n)) (fun b q => e2 b (track_none q).1) (e3.ext fun b o q => track_some q) e4 ?_⟩
  refine ⟨track_some e5, track_some e6, ?_, fun y a e => ?_, fun x y a h1 h2 => J.ok.inj _ _ _ (clm _ _ h1) (clm _ _ h2), fun m y e => ?_⟩
  · have := congrArg List.length hix
    rw [List.length_map, List.length_map] at this
    rw [List.length_map]; exact this
  · have m : a ∈ cl.map (·.2) := List.mem_map.mpr ⟨(y, a), e, rfl⟩
    exact ⟨_, track_cell (offc a m).1 m⟩
  · have hy := List.mem_of_getElem? e
    obtain ⟨a, v, u, h3, h4, h5, h6⟩ := val y hy
    have m' : a ∈ cl.map (·.2) := List.mem_map.mpr ⟨(y, a), PySem.mem_of_lookup h3, rfl⟩
    refine ⟨a, v, h3, h6 m e, ?_⟩
    rw [track_cell (offc a m').1 m', pick_of _ _ h3 v h6 hy]

/-! ### such a function called -/
def untrack (cl : List (Str × Addr)) (H : Hp) : Hp := fun b => if b ∈ cl.map (·.2) then none else H b
def retrack (cl : List (Str × Addr)) (H H' : Hp) : Hp := fun b => match H' b with
  | some o => some o
  | none => if b ∈ cl.map (·.2) then H b else none
theorem retrack_some {cl : List (Str × Addr)} {H H' : Hp} {b : Addr} {o : HO} (h : H' b = some o) : retrack cl H H' b = some o := by unfold retrack; rw [h]
theorem retrack_cell {cl : List (Str × Addr)} {H H' : Hp} {b : Addr} (h : H' b = none) (m : b ∈ cl.map (·.2)) : retrack cl H H' b = H b := by unfold retrack; rw [h]; exact if_pos m
theorem retrack_out {cl : List (Str × Addr)} {H H' : Hp} {b : Addr} (m : b ∉ cl.map (·.2)) : retrack cl H H' b = H' b := by
  unfold retrack
  cases h : H' b with
  | some o => rfl
  | none => exact if_neg m
theorem untrack_out {cl : List (Str × Addr)} {H : Hp} {b : Addr} (m : b ∉ cl.map (·.2)) : untrack cl H b = H b := if_neg m
theorem untrack_in {cl : List (Str × Addr)} {H : Hp} {b : Addr} (m : b ∈ cl.map (·.2)) : untrack cl H b = none := if_pos m
theorem untrack_some {cl : List (Str × Addr)} {H : Hp} {b : Addr} {o : HO} (h : untrack cl H b = some o) : b ∉ cl.map (·.2) ∧ H b = some o := by
  unfold untrack at h
  by_cases m : b ∈ cl.map (·.2)
  · rw [if_pos m] at h; cases h
  · rw [if_neg m] at h; exact ⟨m, h⟩
/-- no function, no cell -/
def Low : HO → Prop
  | .ext _ => False
  | _ => True
/-- what such a function promises; fin hands its end back to the caller's heap -/
structure COk (P : Program) (w : World) (K : PySem.W.Frag) (mg : Str → Option Value) (base : Heap) (CX : CXT) (k : Nat) (st : Stmt) (nm qual : Str) (ps fr : List Str) (sp : List V → Sp) : Prop where
  len : ∀ ws vs H Q E, sp ws vs H Q E → vs.length = ps.length
  run : ∀ (A : Around) (outer : List Env) (s : Shared) (H : Hp) (us : List Value) (vs : List V) (f : Addr) (cl : List (Str × Addr)) (c' : Addr) (ws : List V) (Q : VK) (E : XK), Room k A → Env0 P w K mg base A outer s H → Clo H f st nm qual fr ws cl c' → Vals vs us → sp ws vs H Q E →
    codeAny (model P w) A (.call (.ref f) ⟨us, []⟩) (CR CX0 outer P w H s Q E) s
theorem clo_mem {H : Hp} {f : Addr} {st : Stmt} {nm qual : Str} {fr : List Str} {ws : List V} {cl : List (Str × Addr)} {c' : Addr} (C : Clo H f st nm qual fr ws cl c') {b : Addr} (m : b ∈ cl.map (·.2)) : ∃ v, H b = some (cellO b v) := by
  obtain ⟨p, hp, rfl⟩ := List.mem_map.mp m
  exact C.cells p.1 p.2 hp
theorem cok_of {k : Nat} {st : Stmt} {nm qual : Str} {N ps fr : List Str} {sp : List V → Sp} (S : NScope N ps fr (C8.fnScope st))
    (hb : ∀ (cl : List (Str × Addr)) (c' : Addr) (doc pm ctv : Value) (us : List Value), us.length = ps.length → bindArgs ((NF.of st nm qual cl c').fd doc pm ctv) ⟨us, []⟩ = pure (ps.zip us)) (len : ∀ ws vs H Q E, sp ws vs H Q E → vs.length = ps.length)
    (hbody : ∀ (A : Around) (outer : List Env) (s : Shared) (f : Addr) (cl : List (Str × Addr)) (c' : Addr) (H H0 : Hp) (vs : List V) (ws : List V) (Q Q0 : VK) (E : XK), Room k (A.deeper (envF (NF.of st nm qual cl c') f s.heap.objs.size)) → sp ws vs H Q E → ws.length = fr.length →
      (∀ b o, H b = some o → Low o → H0 b = some o) → (∀ (v : V) (M : List Addr) (H2 : Hp), Stp M H0 H2 → (∀ H', Stp M H H' → (∀ b o, H2 b = some o → H' b = some o) → Q v H') → Q0 v H2) →
      ∃ t, PSs (ncx CX0 P w K mg base N (NF.of st nm qual cl c') f A outer s H0 E) (C8.fnBody st) t ∧ t { nx := fun _ H' => Q0 .non H', rt := Q0 } (startF N vs (ws.map some)) H0) :
    COk P w K mg base CX (k + 1) st nm qual ps fr sp := by
  refine ⟨len, fun A outer s H us vs f cl c' ws Q E hr e0 C r hsp => ?_⟩
  have cellN : ∀ b, b ∈ cl.map (·.2) → ∃ v, H b = some (cellO b v) := fun b m => clo_mem C m
  have lo : ∀ b o, H b = some o → (∀ v, o ≠ cellO b v) → untrack cl H b = some o := fun b o e n => by
    rw [untrack_out fun m => ?_]
    · exact e
    · obtain ⟨v, hv⟩ := cellN b m
      rw [e] at hv
      exact n v (Option.some.inj hv)
  have nf : untrack cl H f = some (FnO f (NF.of st nm qual cl c')) := by
    have ho := fnO_at e0.hok C.fn
    rw [untrack_out fun m => ?_]
    · exact C.fn
    · obtain ⟨v, hv⟩ := cellN f m
      obtain ⟨u, _, o, h1, h2⟩ := cellO_at e0.hok hv
      obtain ⟨od, sl, doc, pm, ctv, h3⟩ := ho
      rw [h1] at h3
      cases h3
      cases h2
  have nc : untrack cl H c' = some (CodeO c' qual) := by
    have ho := codeO_at e0.hok C.code
    rw [untrack_out fun m => ?_]
    · exact C.code
    · obtain ⟨v, hv⟩ := cellN c' m
      obtain ⟨u, _, o, h1, h2⟩ := cellO_at e0.hok hv
      obtain ⟨c2, oc, vs2, t, e1, h3, h4, _⟩ := ho
      cases e1
      rw [h1] at h3
      cases h3
      rw [h2] at h4
      cases h4
  have hok0 : HOk P w (untrack cl H) s.heap := fun b o e => by
    obtain ⟨m, e⟩ := untrack_some e
    refine (e0.hok b o e).stay (fun _ _ _ z => z) (fun d z => lo d _ z fun v q => ?_) fun d xs z => lo d _ z fun v q => ?_
    · cases q
    · cases q
  have env0 : Env0 P w K mg base A outer s (untrack cl H) := ⟨e0.frames, e0.mod, fun b o e => ⟨(e0.bs b o e).1, by
      unfold untrack
      split
      · rfl
      · exact (e0.bs b o e).2⟩, e0.bsz, e0.funs, fun b hb => by
      unfold untrack
      split
      · rfl
      · exact e0.frf b hb, hok0, e0.bare⟩
  have cells : CellsAt cl fr (ws.map some) s.heap (untrack cl H) := by
    refine ⟨by rw [List.length_map]; exact C.len, fun y a e => ?_, C.inj, fun i y e => ?_⟩
    · have m : a ∈ cl.map (·.2) := List.mem_map.mpr ⟨(y, a), PySem.mem_of_lookup e, rfl⟩
      obtain ⟨v, hv⟩ := cellN a m
      obtain ⟨u, _, z⟩ := cellO_at e0.hok hv
      exact ⟨untrack_in m, _, z⟩
    · obtain ⟨a, v, h1, h2, h3⟩ := C.has i y e
      refine ⟨a, h1, fun v' e' => ?_⟩
      rw [List.getElem?_map, h2] at e'
      cases e'
      exact cellO_at e0.hok h3
  let Q0 : VK := fun v H2 => (∀ b ∈ cl.map (·.2), H2 b = none) → Q v (retrack cl H H2)
  have nok : NOk P w K mg base CX0 (k + 1) f (NF.of st nm qual cl c') ps fr (fun ws' vs' H' Q' E' => ws' = ws.map some ∧ vs' = vs ∧ H' = untrack cl H ∧ Q' = Q0 ∧ E' = E) := by
    refine nok_of S (hb cl c') (fun _ _ _ _ _ h => by obtain ⟨_, rfl, _⟩ := h; exact len _ _ _ _ _ hsp) fun A1 outer1 s1 H1 vs1 ws1 Q1 E1 hr1 hf hc hl h => ?_
    obtain ⟨rfl, rfl, rfl, rfl, rfl⟩ := h
    refine hbody A1 outer1 s1 f cl c' H _ vs1 ws Q Q0 E1 hr1 hsp C.len (fun b o e n => lo b o e fun v q => ?_) fun v M H2 st2 hq hc2 => ?_
    · subst q; exact n
    · refine hq _ ⟨fun b o e n => ?_, fun b e => ?_⟩ fun b o e => retrack_some e
      · by_cases m : b ∈ cl.map (·.2)
        · rw [retrack_cell (hc2 b m) m]; exact e
        · exact retrack_some (st2.same b o (by rw [untrack_out m]; exact e) n)
      · by_cases m : b ∈ cl.map (·.2)
        · rw [retrack_cell (hc2 b m) m] at e; exact e
        · rw [retrack_out m] at e
          have := st2.dom b e
          rw [untrack_out m] at this
          exact this
  refine codeAny_mono (nok.run A outer s _ us vs _ Q0 E hr env0 nf nc cells r ⟨rfl, rfl, rfl, rfl, rfl⟩) fun rr s' hq => ?_
  cases rr with
  | error e => exact hq
  | ok fl =>
    cases fl with
    | next => exact hq
    | brk => exact hq
    | cont => exact hq
    | ret u =>
      obtain ⟨v, H2, os, bare, un, hok2, rv, q⟩ := hq
      have cellAt : ∀ b, b ∈ cl.map (·.2) → ∃ v u o, H b = some (cellO b v) ∧ L2.RelV v u ∧ s.heap.get? b = some o ∧ o.data = .cell (some u) ∧ untrack cl H b = none := fun b m => by
        obtain ⟨v, hv⟩ := cellN b m
        obtain ⟨u, h1, o, h2, h3⟩ := cellO_at e0.hok hv
        exact ⟨v, u, o, hv, h1, h2, h3, untrack_in m⟩
      have free2 : ∀ b ∈ cl.map (·.2), H2 b = none := fun b m => by
        obtain ⟨v, u, o, h1, h2, h3, h4, h5⟩ := cellAt b m
        exact un.free b o h3 h5 (by simp)
      refine ⟨v, retrack cl H H2, os, bare, ?_, ?_, rv, q free2⟩
      · have un0 : ∀ b, H b = none → untrack cl H b = none := fun b e => by
          unfold untrack
          split
          · rfl
          · exact e
        refine ⟨fun b o e n hb hx => un.keep b o e (un0 b n) hb hx, fun b o e n hb hx => un.slot b o e (un0 b n) hb hx, fun b o e n hx => ?_, un.there, fun b xs e => ?_, fun b o xs e => ?_, fun b xs e => ?_⟩
        · have m : b ∉ cl.map (·.2) := fun m => by
            obtain ⟨v, hv⟩ := cellN b m
            rw [n] at hv; cases hv
          rw [retrack_out m]
          exact un.free b o e (un0 b n) hx
        · exact retrack_some (un.tups b xs (lo b _ e fun v q => by cases q))
        · exact retrack_some (un.frzs b o xs (lo b _ e fun v q => by cases q))
        · obtain ⟨more, h2⟩ := un.tbls b xs (lo b _ e fun v q => by cases q)
          exact ⟨more, retrack_some h2⟩
      · intro b o e
        cases q2 : H2 b with
        | some u2 =>
          rw [retrack_some q2] at e
          cases e
          exact (hok2 b o q2).stay (fun _ _ _ z => z) (fun d z => retrack_some z) fun d xs z => retrack_some z
        | none =>
          by_cases m : b ∈ cl.map (·.2)
          · rw [retrack_cell q2 m] at e
            obtain ⟨v, u, o1, h1, h2, h3, h4, h5⟩ := cellAt b m
            rw [h1] at e
            cases e
            obtain ⟨sl, h6⟩ := un.any h3 h5 (by simp)
            exact cellO_ok h2 ⟨_, h6, h4⟩
          · rw [retrack_out m, q2] at e; cases e

/-- functions that a name may hold, by what they promise -/
structure TelOk (P : Program) (w : World) (K : PySem.W.Frag) (mg : Str → Option Value) (base : Heap) (k : Nat) (at_ : Addr → Hp → Prop) (sp : Addr → Sp) : Prop where
  fn : ∀ (H : Hp) (h : Heap) (f : Addr), HOk P w H h → at_ f H → PySem.W.FnAt f h
  ok : ∀ f vs H Q E, sp f vs H Q E → at_ f H
  run : ∀ (A : Around) (outer : List Env) (s : Shared) (H : Hp) (us : List Value) (vs : List V) (f : Addr) (Q : VK) (E : XK), Room k A → Env0 P w K mg base A outer s H → Vals vs us → sp f vs H Q E →
    codeAny (model P w) A (.call (.ref f) ⟨us, []⟩) (CR CX0 outer P w H s Q E) s
theorem COk.tel {k : Nat} {st : Stmt} {nm qual : Str} {ps fr : List Str} {sp : List V → Sp} (c : COk P w K mg base CX k st nm qual ps fr sp) :
    TelOk P w K mg base k (fun f H => ∃ ws cl c', Clo H f st nm qual fr ws cl c') (fun f vs H Q E => ∃ ws cl c', Clo H f st nm qual fr ws cl c' ∧ sp ws vs H Q E) := by
  refine ⟨fun H h f hok ⟨ws, cl, c', C⟩ => ?_, fun f vs H Q E ⟨ws, cl, c', C, _⟩ => ⟨ws, cl, c', C⟩, fun A outer s H us vs f Q E hr e0 r ⟨ws, cl, c', C, q⟩ => c.run A outer s H us vs f cl c' ws Q E hr e0 C r q⟩
  obtain ⟨od, sl, doc, pm, ctv, ho⟩ := fnO_at hok C.fn
  exact ⟨_, od, _, sl, ho⟩
theorem TelOk.or {k : Nat} {a1 a2 : Addr → Hp → Prop} {s1 s2 : Addr → Sp} (t1 : TelOk P w K mg base k a1 s1) (t2 : TelOk P w K mg base k a2 s2) :
    TelOk P w K mg base k (fun f H => a1 f H ∨ a2 f H) (fun f vs H Q E => s1 f vs H Q E ∨ s2 f vs H Q E) :=
  ⟨fun H h f hok a => a.elim (t1.fn H h f hok) (t2.fn H h f hok), fun f vs H Q E q => q.imp (t1.ok f vs H Q E) (t2.ok f vs H Q E), fun A outer s H us vs f Q E hr e0 r q => q.elim (t1.run A outer s H us vs f Q E hr e0 r) (t2.run A outer s H us vs f Q E hr e0 r)⟩
end
/-- f(..), f a local name -/
def tTel (i : Nat) (at_ : Addr → Hp → Prop) (sp : Addr → Sp) (t : TA) : TE := fun σ H Q => ∃ f, σ[i]? = some (some (.ref f)) ∧ at_ f H ∧ t σ H fun vs H1 => sp f vs H1 Q (fun _ _ _ => False)
section
variable {X : Cx} {k j i : Nat} {at_ : Addr → Hp → Prop} {sp : Addr → Sp} {t : TA} {x : Str} {e : Expr} {es : List Expr} {p pos : Pos}
theorem pe_callTel (c : TelOk X.prog X.w X.K X.mg X.base j at_ sp) (hr : Room k X.A) (hN : X.N[i]? = some x) (hv : Vis X.env.scope x) (ha : PA X (e :: es) t) (hk : j ≤ k := by decide)
    (hd : (x == ("__debug__" : Str)) = false := by decide) (hcd : (x == ("__classdict__" : Str)) = false := by decide)
    (he : starEach (e :: es) X.env = (false, eval e X.env) :: starEach es X.env := by rfl) (hpl : (backTo pos (starEach es X.env)).any (·.1) = false := by rfl) :
    PE X (.Call (.Name x p) (e :: es) [] pos) (tTel i at_ sp t) := by
  refine ⟨fun pins s σ H Q I h => ?_⟩
  obtain ⟨f, hs, hf, ht⟩ := h
  refine wpAny_Call_Name_kw (thn ((pe_var (pos := p) hN hv hd hcd).run pins s σ H (fun v H1 => v = .ref f ∧ H1 = H) I ⟨.ref f, hs, rfl, rfl⟩) fun u s1 ⟨v, H1, I1, r1, q1⟩ => ?_)
  obtain ⟨ev, eH⟩ := q1
  subst ev
  subst eH
  obtain rfl : u = Value.ref f := r1
  refine PySem.W.callWith_F (first := []) (c.fn H1 s1.heap f I1.hok hf) (thn (ha.run pos pins s1 σ H1 _ I1 ht) fun us s2 ⟨vs, H2, I2, r, q⟩ => ⟨c.fn H2 s2.heap f I2.hok (c.ok f vs H2 _ _ q), ?_⟩) he hpl
  show wpAny _ _ (call (.ref f) us) _ _ _
  refine wpAny_call (codeAny_mono (c.run X.A X.stack s2 H2 us vs f Q _ (hr.mono hk) I2.env0 r q) fun r s' hq => ?_)
  cases r with
  | error e => exact hq.elim
  | ok fl =>
    cases fl with
    | ret u => exact I2.after hq
    | next => exact False.elim hq
    | brk => exact False.elim hq
    | cont => exact False.elim hq
theorem r_tel {σ : L2.St} {H : Hp} {Q : VK} {f : Addr} (hs : σ[i]? = some (some (.ref f))) (h : at_ f H) (k : t σ H fun vs H1 => sp f vs H1 Q (fun _ _ _ => False)) : tTel i at_ sp t σ H Q := ⟨f, hs, h, k⟩
end
end SH

set_option Elab.async false
set_option linter.all false
set_option maxRecDepth 100000
set_option maxHeartbeats 4000000
/-! SHE: data, and what == tells of it -/
namespace SH
open PySem PySem.Spec PyProof.Rows L2

/-- Lean values that stand in the heap as data; n: how deep -/
class Enc (α : Type) where
  dec : DecidableEq α
  d : α → PyData
  n : Nat
  lay : ∀ x, (d x).canLay0 = true
  deep : ∀ x, (d x).depth ≤ n
  eqv : ∀ x y, PyData.eqv (d x) (d y) = @decide (x = y) (dec x y)
/-- a tuple of one kind of things -/
structure Tu (α : Type) where
  l : List α
theorem Enc.deepAll {α : Type} [Enc α] : ∀ xs : List α, PyData.depthAll (xs.map Enc.d) ≤ Enc.n α
  | [] => by simp [PyData.depthAll]
  | x :: xs => by
    have h1 := Enc.deep x
    have h2 := Enc.deepAll xs
    simp only [List.map_cons, PyData.depthAll]
    omega
theorem Enc.layAll {α : Type} [Enc α] : ∀ xs : List α, PyData.canLayAll0 (xs.map Enc.d) = true
  | [] => by simp [PyData.canLayAll0]
  | x :: xs => by simp only [List.map_cons, PyData.canLayAll0, Enc.lay x, Enc.layAll xs, Bool.and_self]
theorem Enc.eqvAll {α : Type} [Enc α] : ∀ xs ys : List α, PyData.eqvAll (xs.map Enc.d) (ys.map Enc.d) = @decide (xs = ys) (@instDecidableEqList α Enc.dec xs ys)
  | [], [] => by simp [PyData.eqvAll]
  | x :: xs, [] => by simp [PyData.eqvAll]
  | [], y :: ys => by simp [PyData.eqvAll]
  | x :: xs, y :: ys => by
    rw [List.map_cons, List.map_cons, show PyData.eqvAll (Enc.d x :: xs.map Enc.d) (Enc.d y :: ys.map Enc.d) = (PyData.eqv (Enc.d x) (Enc.d y) && PyData.eqvAll (xs.map Enc.d) (ys.map Enc.d)) by simp only [PyData.eqvAll], Enc.eqv, Enc.eqvAll xs ys]
    have : ∀ (A B C : Prop) (a : Decidable A) (b : Decidable B) (c : Decidable C), (C ↔ A ∧ B) → (@decide A a && @decide B b) = @decide C c := by
      intro A B C a b c h
      by_cases ha : A <;> by_cases hb : B <;> simp [ha, hb, h]
    exact this _ _ _ _ _ _ (by simp)
instance : Enc Int := ⟨inferInstance, .int, 0, fun _ => by simp [PyData.canLay0], fun _ => by simp [PyData.depth], fun x y => by by_cases h : x = y <;> simp [PyData.eqv, h]⟩
instance : Enc Bool := ⟨inferInstance, .bool, 0, fun _ => by simp [PyData.canLay0], fun _ => by simp [PyData.depth], fun x y => by by_cases h : x = y <;> simp [PyData.eqv, h]⟩
instance : Enc Nat := ⟨inferInstance, fun n => .int n, 0, fun _ => by simp [PyData.canLay0], fun _ => by simp [PyData.depth], fun x y => by
  rw [show PyData.eqv (.int (x : Int)) (.int (y : Int)) = ((x : Int) == (y : Int)) by simp only [PyData.eqv]]
  by_cases h : x = y
  · subst h; simp
  · rw [decide_eq_false h]
    exact beq_eq_false_iff_ne.mpr (by omega)⟩
instance {α : Type} [e : Enc α] : Enc (List α) := ⟨@instDecidableEqList α e.dec, fun xs => .list (xs.map Enc.d), Enc.n α + 1, fun xs => by simp only [PyData.canLay0]; exact Enc.layAll xs,
  fun xs => by simp only [PyData.depth]; exact Nat.succ_le_succ (Enc.deepAll xs), fun xs ys => by simp only [PyData.eqv]; exact Enc.eqvAll xs ys⟩
instance {α : Type} [e : Enc α] : Enc (Tu α) := ⟨fun a b => @decidable_of_iff _ (a.l = b.l) (by cases a; cases b; simp) (@instDecidableEqList α e.dec a.l b.l), fun xs => .tuple (xs.l.map Enc.d), Enc.n α + 1, fun xs => by simp only [PyData.canLay0]; exact Enc.layAll xs.l,
  fun xs => by simp only [PyData.depth]; exact Nat.succ_le_succ (Enc.deepAll xs.l), fun xs ys => by
    simp only [PyData.eqv]
    rw [Enc.eqvAll xs.l ys.l]
    cases xs; cases ys
    simp⟩
instance {α β : Type} [e : Enc α] [f : Enc β] : Enc (α × β) := ⟨@instDecidableEqProd α β e.dec f.dec, fun x => .tuple [Enc.d x.1, Enc.d x.2], max (Enc.n α) (Enc.n β) + 1,
  fun x => by simp only [PyData.canLay0, PyData.canLayAll0, Enc.lay]; rfl,
  fun x => by
    have h1 := Enc.deep x.1
    have h2 := Enc.deep x.2
    simp only [PyData.depth, PyData.depthAll]; omega, fun x y => by
    simp only [PyData.eqv, PyData.eqvAll, Enc.eqv, Bool.and_true]
    obtain ⟨a, b⟩ := x
    obtain ⟨c, d⟩ := y
    by_cases ha : a = c <;> by_cases hb : b = d <;> simp [ha, hb]⟩
/-- three in a tuple -/
structure T3 (α β γ : Type) where
  a : α
  b : β
  c : γ
deriving DecidableEq
instance {α β γ : Type} [e : Enc α] [f : Enc β] [g : Enc γ] : Enc (T3 α β γ) := ⟨@instDecidableEqT3 α β γ e.dec f.dec g.dec, fun x => .tuple [Enc.d x.a, Enc.d x.b, Enc.d x.c], max (Enc.n α) (max (Enc.n β) (Enc.n γ)) + 1,
  fun x => by simp only [PyData.canLay0, PyData.canLayAll0, Enc.lay]; rfl,
  fun x => by
    have h1 := Enc.deep x.a
    have h2 := Enc.deep x.b
    have h3 := Enc.deep x.c
    simp only [PyData.depth, PyData.depthAll]; omega, fun x y => by
    simp only [PyData.eqv, PyData.eqvAll, Enc.eqv, Bool.and_true]
    obtain ⟨a, b, c⟩ := x
    obtain ⟨a', b', c'⟩ := y
    by_cases ha : a = a' <;> by_cases hb : b = b' <;> by_cases hc : c = c' <;> simp [ha, hb, hc]⟩

/-- a text of plain signs -/
abbrev SOk := { s : Str // PyData.canLay0 (.str s) = true }
instance : Enc SOk := ⟨inferInstance, fun s => .str s.1, 0, fun s => s.2, fun _ => by simp [PyData.depth], fun x y => by
  rw [show PyData.eqv (.str x.1) (.str y.1) = (x.1 == y.1) by simp only [PyData.eqv]]
  by_cases h : x = y
  · subst h; simp
  · rw [decide_eq_false h]
    exact beq_eq_false_iff_ne.mpr fun z => h (Subtype.ext z)⟩

mutual
theorem dp_stp {K : PySem.W.Frag} {H H' : Hp} (S : Stp [] H H') : ∀ (d : PyData) (v : V), Dp K H v d → Dp K H' v d
  | .none, _, h => by cases h; exact .non
  | .bool _, _, h => by cases h; exact .bl _
  | .int _, _, h => by cases h; exact .int _
  | .str _, _, h => by cases h; exact .str _
  | .list ds, _, h => by
    cases h with
    | lst hs ha => exact .lst (S.sql0 hs) (dp_stpAll S ds _ ha)
  | .tuple ds, _, h => by
    cases h with
    | tup hs ha => exact .tup (S.sqt0 hs) (dp_stpAll S ds _ ha)
  | .dict _, _, h => by cases h
theorem dp_stpAll {K : PySem.W.Frag} {H H' : Hp} (S : Stp [] H H') : ∀ (ds : List PyData) (vs : List V), DpAll K H vs ds → DpAll K H' vs ds
  | [], _, h => by cases h; exact .nil
  | d :: ds, _, h => by
    cases h with
    | cons h1 h2 => exact .cons (dp_stp S d _ h1) (dp_stpAll S ds _ h2)
end

mutual
/-- no list in it -/
def noL : PyData → Bool
  | .none | .bool _ | .int _ | .str _ => true
  | .tuple xs => noLs xs
  | .list _ => false
  | .dict _ => false
def noLs : List PyData → Bool
  | [] => true
  | x :: xs => noL x && noLs xs
end
mutual
theorem dp_stpM {K : PySem.W.Frag} {M : List Addr} {H H' : Hp} (S : Stp M H H') : ∀ (d : PyData) (v : V), noL d = true → Dp K H v d → Dp K H' v d
  | .none, _, _, h => by cases h; exact .non
  | .bool _, _, _, h => by cases h; exact .bl _
  | .int _, _, _, h => by cases h; exact .int _
  | .str _, _, _, h => by cases h; exact .str _
  | .list _, _, n, _ => by simp [noL] at n
  | .tuple ds, _, n, h => by
    cases h with
    | tup hs ha => exact .tup (S.sqtM hs) (dp_stpMs S ds _ (by simpa [noL] using n) ha)
  | .dict _, _, _, h => by cases h
theorem dp_stpMs {K : PySem.W.Frag} {M : List Addr} {H H' : Hp} (S : Stp M H H') : ∀ (ds : List PyData) (vs : List V), noLs ds = true → DpAll K H vs ds → DpAll K H' vs ds
  | [], _, _, h => by cases h; exact .nil
  | d :: ds, _, n, h => by
    have n' : noL d = true ∧ noLs ds = true := by simpa [noLs] using n
    cases h with
    | cons h1 h2 => exact .cons (dp_stpM S d _ n'.1 h1) (dp_stpMs S ds _ n'.2 h2)
end
class Flat (α : Type) [Enc α] : Prop where
  fl : ∀ x : α, noL (Enc.d x) = true
instance : Flat Int := ⟨fun _ => by simp [Enc.d, noL]⟩
instance : Flat Nat := ⟨fun _ => by simp [Enc.d, noL]⟩
instance : Flat Bool := ⟨fun _ => by simp [Enc.d, noL]⟩
instance : Flat SOk := ⟨fun _ => by simp [Enc.d, noL]⟩
instance {α β : Type} [Enc α] [Enc β] [Flat α] [Flat β] : Flat (α × β) := ⟨fun x => by simp only [Enc.d, noL, noLs, Flat.fl]; rfl⟩
instance {α β γ : Type} [Enc α] [Enc β] [Enc γ] [Flat α] [Flat β] [Flat γ] : Flat (T3 α β γ) := ⟨fun x => by simp only [Enc.d, noL, noLs, Flat.fl]; rfl⟩
theorem noLs_map {α : Type} [Enc α] [Flat α] : ∀ xs : List α, noLs (xs.map Enc.d) = true
  | [] => by simp [noLs]
  | x :: xs => by simp only [List.map_cons, noLs, Flat.fl, noLs_map xs, Bool.and_self]
instance {α : Type} [Enc α] [Flat α] : Flat (Tu α) := ⟨fun x => by simp only [Enc.d, noL]; exact noLs_map x.l⟩

/-- v is x, in the heap H -/
def Is {α : Type} [Enc α] (K : PySem.W.Frag) (H : Hp) (v : V) (x : α) : Prop := Dp K H v (Enc.d x)
def IsL {α : Type} [Enc α] (K : PySem.W.Frag) (H : Hp) (vs : List V) (xs : List α) : Prop := DpAll K H vs (xs.map Enc.d)
section
variable {K : PySem.W.Frag} {H H' : Hp} {α β γ : Type} [Enc α] [Enc β] [Enc γ] {p : Addr} {vs : List V} {xs : List α} {v u t : V} {x y : α} {b : β} {c : γ} {Q : VK}
theorem is_int {n : Int} : Is K H (.int n) n := .int n
theorem is_nat {n : Nat} : Is K H (.int n) n := .int n
theorem is_str {s : Str} (h : PyData.canLay0 (.str s) = true) : Is K H (.str s) (⟨s, h⟩ : SOk) := .str s
theorem is_stp (S : Stp [] H H') (h : Is K H v x) : Is K H' v x := dp_stp S _ _ h
theorem isl_stp (S : Stp [] H H') (h : IsL K H vs xs) : IsL K H' vs xs := dp_stpAll S _ _ h
theorem is_stpM [Flat α] {M : List Addr} (S : Stp M H H') (h : Is K H v x) : Is K H' v x := dp_stpM S _ _ (Flat.fl x) h
theorem isl_stpM [Flat α] {M : List Addr} (S : Stp M H H') (h : IsL K H vs xs) : IsL K H' vs xs := dp_stpMs S _ _ (noLs_map xs) h
theorem is_bl {b : Bool} : Is K H (.bl b) b := .bl b
theorem is_lst (h : SqL K H p vs) (k : IsL K H vs xs) : Is K H (.ref p) xs := .lst h k
theorem is_tu (h : SqT K H p vs) (k : IsL K H vs xs) : Is K H (.ref p) (Tu.mk xs) := .tup h k
theorem is_pr (h : SqT K H p [v, u]) (k : Is K H v x) (l : Is K H u b) : Is K H (.ref p) (x, b) := .tup h (.cons k (.cons l .nil))
theorem is_t3 (h : SqT K H p [v, u, t]) (k : Is K H v x) (l : Is K H u b) (m : Is K H t c) : Is K H (.ref p) (T3.mk x b c) := .tup h (.cons k (.cons l (.cons m .nil)))
theorem isl_nil : IsL K H [] ([] : List α) := .nil
theorem isl_cons (h : Is K H v x) (k : IsL K H vs xs) : IsL K H (v :: vs) (x :: xs) := .cons h k
theorem isl_map {f : α → V} (h : ∀ x ∈ xs, Is K H (f x) x) : IsL K H (xs.map f) xs := by
  induction xs with
  | nil => exact .nil
  | cons x xs ih => exact .cons (h x (by simp)) (ih fun y hy => h y (by simp [hy]))
theorem isl_map2 {β : Type} {l : List β} {f : β → V} {g : β → α} (h : ∀ b ∈ l, Is K H (f b) (g b)) : IsL K H (l.map f) (l.map g) := by
  induction l with
  | nil => exact .nil
  | cons x xs ih => exact .cons (h x (by simp)) (ih fun y hy => h y (by simp [hy]))
theorem isl_ints {ns : List Int} : IsL K H (ns.map V.int) ns := isl_map fun _ _ => is_int
theorem isl_nats {ns : List Nat} : IsL K H (ns.map fun n : Nat => V.int n) ns := isl_map fun _ _ => is_nat
theorem isl_bls {ns : List Bool} : IsL K H (ns.map V.bl) ns := isl_map fun _ _ => is_bl
theorem isl_app {vs' : List V} {xs' : List α} (h : IsL K H vs xs) (k : IsL K H vs' xs') : IsL K H (vs ++ vs') (xs ++ xs') := by
  induction vs generalizing xs with
  | nil => cases xs with
    | nil => exact k
    | cons x xs => cases h
  | cons v vs ih => cases xs with
    | nil => cases h
    | cons x xs => cases h with | cons h1 h2 => exact .cons h1 (ih (xs := xs) h2)
theorem isl_len (h : IsL K H vs xs) : vs.length = xs.length := by
  induction vs generalizing xs with
  | nil => cases xs with
    | nil => rfl
    | cons x xs => cases h
  | cons v vs ih => cases xs with
    | nil => cases h
    | cons x xs => cases h with | cons h1 h2 => simp [ih (xs := xs) h2]
theorem isl_at {i : Nat} {v : V} (h : IsL K H vs xs) (e : vs[i]? = some v) : ∃ x, xs[i]? = some x ∧ Is K H v x := by
  induction vs generalizing xs i with
  | nil => cases e
  | cons w vs ih => cases xs with
    | nil => cases h
    | cons x xs => cases h with | cons h1 h2 => cases i with
      | zero => cases e; exact ⟨x, rfl, h1⟩
      | succ i => exact ih (xs := xs) h2 e
theorem isl_get {i : Nat} {x : α} (h : IsL K H vs xs) (e : xs[i]? = some x) : ∃ v, vs[i]? = some v ∧ Is K H v x := by
  induction vs generalizing xs i with
  | nil => cases xs with
    | nil => cases e
    | cons x xs => cases h
  | cons w vs ih => cases xs with
    | nil => cases h
    | cons y xs => cases h with | cons h1 h2 => cases i with
      | zero => cases e; exact ⟨w, rfl, h1⟩
      | succ i => exact ih (xs := xs) h2 e
theorem is_shaped (hn : Enc.n α ≤ 64) : SeqAt.shaped (Enc.d x) = true := by
  unfold SeqAt.shaped
  rw [Enc.lay]
  exact decide_eq_true (Nat.le_trans (Enc.deep x) hn)
theorem v_eqE (h1 : Is K H v x) (h2 : Is K H u y) (k : Q (.bl (@decide (x = y) (Enc.dec x y))) H) (hn : Enc.n α ≤ 64 := by decide) : aEq K v u H Q :=
  v_eqD h1 h2 (is_shaped hn) (is_shaped hn) (by rw [Enc.eqv]; exact k)
theorem v_neE (h1 : Is K H v x) (h2 : Is K H u y) (k : Q (.bl (!@decide (x = y) (Enc.dec x y))) H) (hn : Enc.n α ≤ 64 := by decide) : aNe K v u H Q :=
  v_neD h1 h2 (is_shaped hn) (is_shaped hn) (by rw [Enc.eqv]; exact k)
theorem v_eqL {ns ms : List Int} {q : Addr} (h1 : SqL K H p (ns.map V.int)) (h2 : SqL K H q (ms.map V.int)) (k : Q (.bl (decide (ns = ms))) H) : aEq K (.ref p) (.ref q) H Q :=
  v_eqE (is_lst h1 isl_ints) (is_lst h2 isl_ints) (by rw [show @decide (ns = ms) (Enc.dec ns ms) = decide (ns = ms) by congr]; exact k)
theorem v_neL {ns ms : List Int} {q : Addr} (h1 : SqL K H p (ns.map V.int)) (h2 : SqL K H q (ms.map V.int)) (k : Q (.bl (!decide (ns = ms))) H) : aNe K (.ref p) (.ref q) H Q :=
  v_neE (is_lst h1 isl_ints) (is_lst h2 isl_ints) (by rw [show @decide (ns = ms) (Enc.dec ns ms) = decide (ns = ms) by congr]; exact k)
theorem v_neL0 {ns : List Int} {q : Addr} (h1 : SqL K H p (ns.map V.int)) (h2 : SqL K H q []) (k : Q (.bl (!decide (ns = []))) H) : aNe K (.ref p) (.ref q) H Q := v_neL (ms := []) h1 h2 k
theorem v_ixLast {ys : List V} (h : SqL K H p (ys ++ [v])) (k : Q v H) : aIx K (.ref p) (.int (-1)) H Q := ⟨_, v, .inl h, atI_last ys v, k⟩
theorem v_neN0 {ns : List Nat} {q : Addr} (h1 : SqL K H p (ns.map fun n : Nat => V.int n)) (h2 : SqL K H q []) (k : Q (.bl (!decide (ns = []))) H) : aNe K (.ref p) (.ref q) H Q :=
  v_neE (y := []) (is_lst h1 isl_nats) (is_lst h2 isl_nil) (by rw [show @decide (ns = []) (Enc.dec ns []) = decide (ns = []) by congr]; exact k)
theorem v_ixMod {vs : List V} {c : Int} {m : Nat} (h : SqL K H p vs) (hl : vs.length = m) (hm : 0 < m) (k : ∀ v ∈ vs, Q v H) : aIx K (.ref p) (.int (c % (m : Int))) H Q := by
  have h0 := Int.emod_nonneg c (show (m : Int) ≠ 0 by omega)
  have h1 := Int.emod_lt_of_pos c (show (0 : Int) < m by omega)
  have e : c % (m : Int) = ((c % (m : Int)).toNat : Int) := by omega
  have hlt : (c % (m : Int)).toNat < vs.length := by omega
  exact v_ixLn h e (List.getElem?_eq_getElem hlt) (k _ (List.getElem_mem hlt))
theorem v_ixAny {vs : List V} {i : Int} {n : Nat} (h : SqL K H p vs) (e : i = n) (hn : n < vs.length) (k : ∀ v ∈ vs, Q v H) : aIx K (.ref p) (.int i) H Q := v_ixLn h e (List.getElem?_eq_getElem hn) (k _ (List.getElem_mem hn))
/-- all are ints -/
def Ints (vs : List V) : Prop := ∀ v ∈ vs, ∃ n : Int, v = .int n
theorem ints_nil : Ints [] := fun _ h => by cases h
theorem ints_cons {n : Int} {vs : List V} (h : Ints vs) : Ints (.int n :: vs) := fun v hv => by
  rcases List.mem_cons.mp hv with rfl | hv
  · exact ⟨n, rfl⟩
  · exact h v hv
/-- a place of a list of ints -/
def getE (es : List Int) (i : Nat) : Int := es.getD i 0
theorem getE_at {es : List Int} {i : Nat} (h : i < es.length) : (es.map V.int)[i]? = some (V.int (getE es i)) := by simp [getE, h]
theorem getE_app {es : List Int} {i : Nat} {y : Int} (h : i < es.length) : getE (es ++ [y]) i = getE es i := by simp [getE, List.getElem?_append, h]
theorem getE_last {es : List Int} {i : Nat} {y : Int} (h : es.length = i) : getE (es ++ [y]) i = y := by subst h; simp [getE]
theorem v_ixE {es : List Int} {i : Int} {n : Nat} (h : SqL K H p (es.map V.int)) (e : i = n) (hn : n < es.length) (k : Q (.int (getE es n)) H) : aIx K (.ref p) (.int i) H Q := v_ixLn h e (getE_at hn) k
theorem v_ixTE {es : List Int} {i : Int} {n : Nat} (h : SqT K H p (es.map V.int)) (e : i = n) (hn : n < es.length) (k : Q (.int (getE es n)) H) : aIx K (.ref p) (.int i) H Q := v_ixTn h e (getE_at hn) k
theorem v_ixEl {es : List Int} {n : Nat} (h : SqL K H p (es.map V.int)) (e : es.length = n + 1) (k : Q (.int (getE es n)) H) : aIx K (.ref p) (.int (-1)) H Q := by
  rcases List.eq_nil_or_concat es with z | ⟨ys, y, z⟩
  · subst z; cases e
  · have hz : es = ys ++ [y] := by simpa using z
    subst hz
    rw [List.map_append] at h
    have hl : ys.length = n := by simpa using e
    rw [getE_last hl] at k
    exact v_ixLast h k
theorem v_eqLL {ns ms : List Int} {q : Addr} (h1 : SqL K H p (ns.map V.int)) (h2 : SqL K H q (ms.map V.int)) (e : ns = ms) (k : Q (.bl true) H) : aEq K (.ref p) (.ref q) H Q := v_eqL h1 h2 (by rw [decide_eq_true e]; exact k)
theorem v_lenQ {n : Nat} (h : SqL K H p vs) (e : vs.length = n) (k : Q (.int n) H) : aLen K [.ref p] H Q := ⟨_, .inl h, by rw [e]; exact k⟩
theorem v_lenU {n : Nat} (h : SqT K H p vs) (e : vs.length = n) (k : Q (.int n) H) : aLen K [.ref p] H Q := ⟨_, .inr h, by rw [e]; exact k⟩
/-- tuple(xs) -/
theorem v_tuL (h : SqL K H p vs) (k : ∀ l, H l = none → Q (.ref l) (upd H l (.tup vs))) : ∃ p' ys, [V.ref p] = [.ref p'] ∧ ((SqL K H p' ys ∧ ∀ l, H l = none → Q (.ref l) (upd H l (.tup ys))) ∨ (SqT K H p' ys ∧ Q (.ref p') H)) := ⟨p, vs, rfl, .inl ⟨h, k⟩⟩
/-- xs.pop(i) -/
theorem v_popAt {i : Int} {n : Nat} (h : H p = some (.lst vs)) (e : i = n) (hn : n < 1000000) (hv : vs[n]? = some v) (k : Q v (upd H p (.lst (vs.eraseIdx n)))) : rPopAt (.ref p) [.int i] H Q := by
  refine ⟨p, vs, i, n, v, rfl, rfl, h, by omega, by omega, ?_, hv, k⟩
  subst e
  exact (ixN_seq (ixN_n (List.getElem?_eq_some_iff.mp hv).1)).1
/-- sorted(xs), ints -/
theorem v_sortI {ns : List Int} (h : SqL K H p (ns.map V.int)) (k : ∀ (ns' : List Int) (q : Addr), ns'.Perm ns → ns'.Pairwise (· ≤ ·) → H q = none → Q (.ref q) (upd H q (.lst (ns'.map V.int)))) : rSortedI K [.ref p] H Q := ⟨p, ns, rfl, h, k⟩
/-- list(range(n)) -/
def kLrg1 (Q : VK) : VK := fun x H1 => ∃ n : Int, x = .int n ∧ RgOk 0 n ∧ ∀ q, H1 q = none → Q (.ref q) (upd H1 q (.lst (rgV 0 n)))
theorem r_lrg1 {ta : TE} {σ : L2.St} (h : ta σ H (kLrg1 Q)) : tLstRg (tRg1 ta) σ H Q := h
theorem rgV_nat (n : Nat) : rgV 0 (n : Int) = (List.range n).map fun i : Nat => V.int i := by unfold rgV; simp
theorem v_lrg1 {i : Int} {n : Nat} (e : i = n) (hn : n ≤ 1000000) (k : ∀ q, H q = none → Q (.ref q) (upd H q (.lst ((List.range n).map fun i : Nat => V.int i)))) : kLrg1 Q (.int i) H := by
  refine ⟨i, rfl, RgOk.of_le (by omega) (by omega) (by omega) (by omega), ?_⟩
  rw [e, rgV_nat]
  exact k
def kLrg2 (Q : VK) (x : V) : VK := fun y H2 => ∃ i j : Int, x = .int i ∧ y = .int j ∧ RgOk i j ∧ ∀ q, H2 q = none → Q (.ref q) (upd H2 q (.lst (rgV i j)))
theorem r_lrg2 {ta tb : TE} {σ : L2.St} (h : ta σ H fun x H1 => tb σ H1 (kLrg2 Q x)) : tLstRg (tRg2 ta tb) σ H Q := h
theorem rgV_nats (n m : Nat) : rgV (n : Int) (m : Int) = (List.range' n (m - n)).map fun i : Nat => V.int i := by
  unfold rgV
  rw [show ((m : Int) - (n : Int)).toNat = m - n by omega, List.range'_eq_map_range, List.map_map]
  exact List.map_congr_left fun i _ => by simp
theorem v_lrg2 {i j : Int} {n m : Nat} (e : i = n) (e2 : j = m) (hn : n ≤ 1000000) (hm : m ≤ 1000000) (k : ∀ q, H q = none → Q (.ref q) (upd H q (.lst ((List.range' n (m - n)).map fun i : Nat => V.int i)))) : kLrg2 Q (.int i) (.int j) H := by
  refine ⟨i, j, rfl, rfl, RgOk.of_le (by omega) (by omega) (by omega) (by omega), ?_⟩
  rw [e, e2, rgV_nats]
  exact k
end
section
variable {X : Cx} {a b : Expr} {ta tb : TE} {p p2 pos pos2 : Pos}
theorem pe_listrange (hg : Gl X "list") (hm : X.mg "list" = none) (hg2 : Gl X "range") (hm2 : X.mg "range" = none) (ha : PE X a ta) (hc : X.calm = true := by rfl) (na : starEach [a] X.env = (false, eval a X.env) :: starEach [] X.env := by rfl)
    (na2 : starEach [.Call (.Name "range" p2) [a] [] pos2] X.env = (false, eval (.Call (.Name "range" p2) [a] [] pos2) X.env) :: starEach [] X.env := by rfl) : PE X (.Call (.Name "list" p) [.Call (.Name "range" p2) [a] [] pos2] [] pos) (tLstRg (tRg1 ta)) :=
  pe_listRg hc hg hm (prg_1 hg2 hm2 ha na) na2
theorem pe_listrange2 (hg : Gl X "list") (hm : X.mg "list" = none) (hg2 : Gl X "range") (hm2 : X.mg "range" = none) (ha : PE X a ta) (hb : PE X b tb) (hc : X.calm = true := by rfl) (na : starEach [a, b] X.env = (false, eval a X.env) :: starEach [b] X.env := by rfl)
    (nb : starEach [b] X.env = (false, eval b X.env) :: starEach [] X.env := by rfl) (hp : (backTo pos2 (starEach [b] X.env)).any (·.1) = false := by rfl)
    (na2 : starEach [.Call (.Name "range" p2) [a, b] [] pos2] X.env = (false, eval (.Call (.Name "range" p2) [a, b] [] pos2) X.env) :: starEach [] X.env := by rfl) : PE X (.Call (.Name "list" p) [.Call (.Name "range" p2) [a, b] [] pos2] [] pos) (tLstRg (tRg2 ta tb)) :=
  pe_listRg hc hg hm (prg_2 hg2 hm2 ha hb na nb hp) na2
end
section
variable {C : Addr} {m : Str} {sp : Sp} {dvs vs : List V} {E : XK} {ta : TE} {t : TA} {σ : L2.St} {H : Hp} {Q : VK} {a dx : Addr} {fs : List (Str × V)}
def kMeth (C : Addr) (m : Str) (sp : Sp) (dvs : List V) (E : XK) (t : TA) (σ : L2.St) (Q : VK) : VK := fun x H1 => ∃ a dx fs, x = .ref a ∧ H1 a = some (.ins C dx fs) ∧ fs.lookup m = none ∧ t σ H1 fun vs H2 => sp (x :: (vs ++ dvs)) H2 Q E
theorem r_meth (h : ta σ H (kMeth C m sp dvs E t σ Q)) : tMeth C m sp dvs E ta t σ H Q := h
theorem v_meth (h : H a = some (.ins C dx fs)) (l : fs.lookup m = none) (k : t σ H fun vs H2 => sp (.ref a :: (vs ++ dvs)) H2 Q E) : kMeth C m sp dvs E t σ Q (.ref a) H := ⟨a, dx, fs, rfl, h, l, k⟩
def kMake (C : Addr) (sp : Sp) (dvs : List V) (E : XK) (Q : VK) : List V → Hp → Prop := fun vs H1 => ∀ x dx, H1 x = none → H1 dx = none → dx ≠ x → sp (.ref x :: (vs ++ dvs)) (upd (upd H1 dx (.own x)) x (.ins C dx [])) (fun v H2 => v = .non ∧ Q (.ref x) H2) E
theorem r_make (h : t σ H (kMake C sp dvs E Q)) : tMake C sp dvs E t σ H Q := h
theorem v_make (k : ∀ x dx, H x = none → H dx = none → dx ≠ x → sp (.ref x :: (vs ++ dvs)) (upd (upd H dx (.own x)) x (.ins C dx [])) (fun v H2 => v = .non ∧ Q (.ref x) H2) E) : kMake C sp dvs E Q vs H := k
theorem isi_bl_int {K : PySem.W.Frag} {b : Bool} (k : Q (.bl true) H) : rIsi K [.bl b, .ty "int"] H Q := ⟨.bl b, .ty "int", .type "bool", .type "int", true, rfl, .ty _, .base (.bl b), by rfl, k⟩
theorem isi_bl_bool {K : PySem.W.Frag} {b : Bool} (k : Q (.bl true) H) : rIsi K [.bl b, .ty "bool"] H Q := ⟨.bl b, .ty "bool", .type "bool", .type "bool", true, rfl, .ty _, .base (.bl b), by rfl, k⟩
theorem isi_L {K : PySem.W.Frag} {xs : List V} (h : H a = some (.lst xs)) (k : Q (.bl true) H) : rIsi K [.ref a, .ty "list"] H Q := ⟨.ref a, .ty "list", .type "list", .type "list", true, rfl, .ty _, .base (.lst h), by rfl, k⟩
theorem isi_T {K : PySem.W.Frag} {xs : List V} (h : H a = some (.tup xs)) (k : Q (.bl true) H) : rIsi K [.ref a, .ty "tuple"] H Q := ⟨.ref a, .ty "tuple", .type "tuple", .type "tuple", true, rfl, .ty _, .base (.tup h), by rfl, k⟩
end
section
variable {f g : Str} {v x : V} {r r' : List (Str × V)} {a1 a2 a3 a4 a5 a6 : Str × V}
theorem pf_nil : putF f v [] = [(f, v)] := rfl
theorem pf_hit : putF f v ((f, x) :: r) = (f, v) :: r := by simp [putF]
theorem pf_miss (h : g ≠ f) (k : putF f v r = r') : putF f v ((g, x) :: r) = (g, x) :: r' := by simp [putF, h, k]
theorem few0 : ([] : List (Str × V)).length < 1000 := by simp
theorem few1 : [a1].length < 1000 := by simp
theorem few2 : [a1, a2].length < 1000 := by simp
theorem few3 : [a1, a2, a3].length < 1000 := by simp
theorem few4 : [a1, a2, a3, a4].length < 1000 := by simp
theorem few5 : [a1, a2, a3, a4, a5].length < 1000 := by simp
theorem few6 : [a1, a2, a3, a4, a5, a6].length < 1000 := by simp
end
theorem mul64 {i j : Int} (h : -18446744073709551616 < i ∧ i < 18446744073709551616) (k : -18446744073709551616 < j ∧ j < 18446744073709551616) : IntMulOk i j :=
  (mulx_ok (a := 64) (b := 64) (by have : (2 : Nat) ^ 64 = 18446744073709551616 := by decide
                                   omega) (by have : (2 : Nat) ^ 64 = 18446744073709551616 := by decide
                                              omega) (by decide)).ok
theorem ne_of_none' {H : Hp} {a p : Addr} {o : HO} (hp : H p = none) (h : H a = some o) : a ≠ p := ne_of_none h hp
theorem r_ty {K : PySem.W.Frag} {H : Hp} {p : Addr} {xs : List V} {B : Prop} (h : H p = some (.lst xs)) (k : B) : tyV K "list" (.ref p) H ∧ B := ⟨ty_list h, k⟩
/-! built-ins by names of their own -/
def rListOf (K : PySem.W.Frag) : List V → Hp → VK → Prop := fun xs H Q => ∃ p ys, xs = [.ref p] ∧ (SqL K H p ys ∨ SqT K H p ys) ∧ ∀ l, H l = none → Q (.ref l) (upd H l (.lst ys))
def rTupOf (K : PySem.W.Frag) : List V → Hp → VK → Prop := fun xs H Q => ∃ p ys, xs = [.ref p] ∧ ((SqL K H p ys ∧ ∀ l, H l = none → Q (.ref l) (upd H l (.tup ys))) ∨ (SqT K H p ys ∧ Q (.ref p) H))
def rMax2 : List V → Hp → VK → Prop := fun xs H Q => ∃ i j, xs = [.int i, .int j] ∧ Q (.int (if j > i then j else i)) H
def rMin2 : List V → Hp → VK → Prop := fun xs H Q => ∃ i j, xs = [.int i, .int j] ∧ Q (.int (if j < i then j else i)) H
def rIns : V → List V → Hp → VK → Prop := fun x vs H Q => ∃ (l : Addr) (xs : List V) (i : Int) (y : V), x = .ref l ∧ vs = [.int i, y] ∧ H l = some (.lst xs) ∧ xs.length < sizeLine ∧ 0 ≤ i ∧ i < 2 ^ 63 ∧ Q .non (upd H l (.lst (xs.take i.toNat ++ [y] ++ xs.drop i.toNat)))
section
variable {X : Cx} {K : PySem.W.Frag} {H : Hp} {Q : VK} {p : Addr} {vs : List V} {v : V} {i j : Int}
theorem cListOf : CallR X (.type "list") (rListOf X.K) := call_list_of
theorem cTupOf : CallR X (.type "tuple") (rTupOf X.K) := call_tuple_of
theorem cMax2 (hc : X.calm = true) : CallR X (.builtin "max") rMax2 := call_max2 hc
theorem cMin2 (hc : X.calm = true) : CallR X (.builtin "min") rMin2 := call_min2 hc
theorem mIns : MtR X "list.insert" rIns := mt_insert
theorem w_listL (h : SqL K H p vs) (k : ∀ l, H l = none → Q (.ref l) (upd H l (.lst vs))) : rListOf K [.ref p] H Q := ⟨p, vs, rfl, .inl h, k⟩
theorem w_listT (h : SqT K H p vs) (k : ∀ l, H l = none → Q (.ref l) (upd H l (.lst vs))) : rListOf K [.ref p] H Q := ⟨p, vs, rfl, .inr h, k⟩
theorem w_tupL (h : SqL K H p vs) (k : ∀ l, H l = none → Q (.ref l) (upd H l (.tup vs))) : rTupOf K [.ref p] H Q := ⟨p, vs, rfl, .inl ⟨h, k⟩⟩
theorem w_tupT (h : SqT K H p vs) (k : Q (.ref p) H) : rTupOf K [.ref p] H Q := ⟨p, vs, rfl, .inr ⟨h, k⟩⟩
theorem w_max (k : Q (.int (if j > i then j else i)) H) : rMax2 [.int i, .int j] H Q := ⟨i, j, rfl, k⟩
theorem w_min (k : Q (.int (if j < i then j else i)) H) : rMin2 [.int i, .int j] H Q := ⟨i, j, rfl, k⟩
theorem w_ins {n : Nat} (h : H p = some (.lst vs)) (e : i = n) (hn : n < 1000000) (hl : vs.length < 1000000) (k : Q .non (upd H p (.lst (vs.take n ++ [v] ++ vs.drop n)))) : rIns (.ref p) [.int i, v] H Q :=
  ⟨p, vs, i, v, rfl, rfl, h, Nat.lt_trans hl (by decide), by omega, by omega, by rw [e]; exact k⟩
theorem w_insI (h : H p = some (.lst vs)) (h0 : 0 ≤ i) (h1 : i < 1000000) (hl : vs.length < 1000000) (k : Q .non (upd H p (.lst (vs.take i.toNat ++ [v] ++ vs.drop i.toNat)))) : rIns (.ref p) [.int i, v] H Q :=
  ⟨p, vs, i, v, rfl, rfl, h, Nat.lt_trans hl (by decide), h0, by omega, k⟩
end
/-! one layer of a heap taken off -/
section
variable {K : PySem.W.Frag} {H : Hp} {a p : Addr} {xs : List V} {o u : HO}
theorem off_old (hp : H p = none) (h : H a = some o) : upd H p u a = some o := upd_old h hp
theorem off_far (n : a ≠ p) (h : H a = some o) : upd H p u a = some o := upd_far n h
theorem sql_off (hp : H p = none) (h : SqL K H a xs) : SqL K (upd H p u) a xs := sql_upd h hp
theorem sql_offar (n : a ≠ p) (h : SqL K H a xs) : SqL K (upd H p u) a xs := sql_far h n
theorem sqt_off (hp : H p = none) (h : SqT K H a xs) : SqT K (upd H p u) a xs := sqt_upd h hp
theorem sqt_offar (n : a ≠ p) (h : SqT K H a xs) : SqT K (upd H p u) a xs := sqt_far h n
end
/-! x is True, for a truth x -/
def aIsB : R2 := fun x y H Q => ∃ b c, x = .bl b ∧ y = .bl c ∧ Q (.bl (decide (b = c))) H
def aNotB : R2 := fun x y H Q => ∃ b c, x = .bl b ∧ y = .bl c ∧ Q (.bl (!decide (b = c))) H
section
variable {X : Cx} {K : PySem.W.Frag} {H : Hp} {Q : VK} {b c : Bool} {x y : V} {d : PyData}
theorem oIsB : OpR X (compareOp .Is) aIsB := by
  intro pins s σ H x y v u Q I rx ry h
  obtain ⟨b, c, rfl, rfl, q⟩ := h
  cases rx
  cases ry
  show wpAny _ _ ((isSame (Value.bool b) (Value.bool c)) >>= fun z => pure (Value.bool z)) _ _ s
  exact wpAny_bind (wpAny_isSame_plain (by rfl) (wpAny_pure (fin_bl I q (by cases b <;> cases c <;> rfl))))
theorem oNotB : OpR X (compareOp .IsNot) aNotB := by
  intro pins s σ H x y v u Q I rx ry h
  obtain ⟨b, c, rfl, rfl, q⟩ := h
  cases rx
  cases ry
  show wpAny _ _ ((isSame (Value.bool b) (Value.bool c)) >>= fun z => pure (Value.bool (!z))) _ _ s
  exact wpAny_bind (wpAny_isSame_plain (by rfl) (wpAny_pure (fin_bl I q (by cases b <;> cases c <;> rfl))))
theorem w_isB (k : Q (.bl (decide (b = c))) H) : aIsB (.bl b) (.bl c) H Q := ⟨b, c, rfl, rfl, k⟩
theorem w_notB (k : Q (.bl (!decide (b = c))) H) : aNotB (.bl b) (.bl c) H Q := ⟨b, c, rfl, rfl, k⟩
mutual
theorem eqv_refl : ∀ d : PyData, d.canLay0 = true → PyData.eqv d d = true
  | .none, _ => by simp [PyData.eqv]
  | .bool _, _ => by simp [PyData.eqv]
  | .int _, _ => by simp [PyData.eqv]
  | .str _, _ => by simp [PyData.eqv]
  | .list ds, h => by simp only [PyData.eqv]; exact eqvAll_refl ds (by simpa [PyData.canLay0] using h)
  | .tuple ds, h => by simp only [PyData.eqv]; exact eqvAll_refl ds (by simpa [PyData.canLay0] using h)
  | .dict _, h => by simp [PyData.canLay0] at h
theorem eqvAll_refl : ∀ ds : List PyData, PyData.canLayAll0 ds = true → PyData.eqvAll ds ds = true
  | [], _ => by simp [PyData.eqvAll]
  | d :: ds, h => by
    have h' : d.canLay0 = true ∧ PyData.canLayAll0 ds = true := by simpa [PyData.canLayAll0] using h
    simp only [PyData.eqvAll, eqv_refl d h'.1, eqvAll_refl ds h'.2, Bool.and_self]
end
/-- the same data -/
theorem v_eqR (h1 : Dp K H x d) (h2 : Dp K H y d) (hs : SeqAt.shaped d = true) (k : Q (.bl true) H) : aEq K x y H Q :=
  v_eqD h1 h2 hs hs (by rw [eqv_refl d (SeqAt.canLay_of_shaped hs)]; exact k)
theorem v_neR (h1 : Dp K H x d) (h2 : Dp K H y d) (hs : SeqAt.shaped d = true) (k : Q (.bl false) H) : aNe K x y H Q :=
  v_neD h1 h2 hs hs (by rw [eqv_refl d (SeqAt.canLay_of_shaped hs)]; exact k)
end
/-- an if whose two ways meet again -/
theorem r_wJ {c : Prop} [Decidable c] {t1 t2 : TS} {D : Ends} {σ : L2.St} {H : Hp} (W : L2.St → Hp → Prop) (hk : ∀ σ' H', W σ' H' → D.nx σ' H')
    (h1 : c → ∀ N : L2.St → Hp → Prop, (∀ σ' H', W σ' H' → N σ' H') → t1 { D with nx := N } σ H) (h2 : ¬ c → ∀ N : L2.St → Hp → Prop, (∀ σ' H', W σ' H' → N σ' H') → t2 { D with nx := N } σ H) :
    if decide c = true then t1 D σ H else t2 D σ H := r_w (fun h => h1 h D.nx hk) fun h => h2 h D.nx hk
theorem r_nwJ {c : Prop} [Decidable c] {t1 t2 : TS} {D : Ends} {σ : L2.St} {H : Hp} (W : L2.St → Hp → Prop) (hk : ∀ σ' H', W σ' H' → D.nx σ' H')
    (h1 : ¬ c → ∀ N : L2.St → Hp → Prop, (∀ σ' H', W σ' H' → N σ' H') → t1 { D with nx := N } σ H) (h2 : c → ∀ N : L2.St → Hp → Prop, (∀ σ' H', W σ' H' → N σ' H') → t2 { D with nx := N } σ H) :
    if (!decide c) = true then t1 D σ H else t2 D σ H := r_nw (fun h => h1 h D.nx hk) fun h => h2 h D.nx hk
/-! a heap without one address -/
def wo (D : Addr) (H : Hp) : Hp := fun b => if b = D then none else H b
theorem wo_at {D b : Addr} {H : Hp} {o : HO} (n : b ≠ D) (h : H b = some o) : wo D H b = some o := by unfold wo; rw [if_neg n]; exact h
theorem wo_upd {D : Addr} {H : Hp} {o : HO} : wo D (upd H D o) = wo D H := by
  funext b
  unfold wo
  by_cases h : b = D
  · rw [if_pos h, if_pos h]
  · rw [if_neg h, if_neg h, upd_ne h]
theorem wo_stp {D : Addr} {H : Hp} : Stp [] (wo D H) H := ⟨fun b o e _ => by
  unfold wo at e
  by_cases h : b = D
  · rw [if_pos h] at e; cases e
  · rw [if_neg h] at e; exact e, fun b e => by
  unfold wo
  by_cases h : b = D
  · rw [if_pos h]
  · rw [if_neg h]; exact e⟩
theorem wo_mono {D : Addr} {H H' : Hp} (S : Stp [] H H') : Stp [] (wo D H) (wo D H') := ⟨fun b o e _ => by
  unfold wo at e ⊢
  by_cases h : b = D
  · rw [if_pos h] at e; cases e
  · rw [if_neg h] at e ⊢; exact S.keep0 e, fun b e => by
  unfold wo at e ⊢
  by_cases h : b = D
  · rw [if_pos h]
  · rw [if_neg h] at e ⊢; exact S.dom b e⟩
/-- data gathered in the list at D -/
theorem dp_gather {K : PySem.W.Frag} {D : Addr} {H1 H2 : Hp} {us : List V} {ds : List PyData} {x : V} {d : PyData} {o : HO} (S : Stp [] H1 H2) (h : DpAll K (wo D H1) us ds) (k : Dp K (wo D H2) x d) : DpAll K (wo D (upd H2 D o)) (us ++ [x]) (ds ++ [d]) := by
  rw [wo_upd]
  have h2 := dp_stpAll (wo_mono S) _ _ h
  clear h
  induction us generalizing ds with
  | nil => cases h2; exact .cons k .nil
  | cons u us ih => cases h2 with | cons h1 h2 => exact .cons h1 (ih h2)
theorem st_new {M : List Addr} {H H1 : Hp} {p : Addr} {o : HO} (h : H1 p = none) (a : Stp M H H1) : Stp M H (upd H1 p o) := a.new h
theorem st_trans {M : List Addr} {H H1 H2 : Hp} (b : Stp [] H1 H2) (a : Stp M H H1) : Stp M H H2 := a.then0 b
theorem st_put {M : List Addr} {H H1 : Hp} {p : Addr} {o : HO} (h : H p = none) (a : Stp M H H1) : Stp M H (upd H1 p o) := a.putN h
theorem st_fr {H H' : Hp} {p : Addr} (h : H' p = none) (S : Stp [] H H') : H p = none := S.dom p h
theorem dpall_len {K : PySem.W.Frag} {H : Hp} : ∀ {us : List V} {ds : List PyData}, DpAll K H us ds → us.length = ds.length
  | [], _, h => by cases h; rfl
  | u :: us, _, h => by cases h with | cons h1 h2 => simp [dpall_len h2]
theorem dpall_get {K : PySem.W.Frag} {H : Hp} {us : List V} {ds : List PyData} {i : Nat} {d : PyData} (h : DpAll K H us ds) (e : ds[i]? = some d) : ∃ v, us[i]? = some v ∧ Dp K H v d := by
  induction us generalizing ds i with
  | nil => cases h; cases e
  | cons u us ih => cases h with | cons h1 h2 => cases i with
    | zero => cases e; exact ⟨u, rfl, h1⟩
    | succ i => exact ih h2 e
theorem dpall_map {K : PySem.W.Frag} {H : Hp} {β : Type} {l : List β} {f : β → V} {g : β → PyData} (h : ∀ b ∈ l, Dp K H (f b) (g b)) : DpAll K H (l.map f) (l.map g) := by
  induction l with
  | nil => exact .nil
  | cons x xs ih => exact .cons (h x (by simp)) (ih fun y hy => h y (by simp [hy]))
theorem shaped_list {ds : List PyData} (h : ∀ d ∈ ds, PyData.canLay0 d = true ∧ PyData.depth d ≤ 1) : SeqAt.shaped (.list ds) = true := by
  have h1 : PyData.canLayAll0 ds = true ∧ PyData.depthAll ds ≤ 1 := by
    induction ds with
    | nil => exact ⟨by simp [PyData.canLayAll0], by simp [PyData.depthAll]⟩
    | cons d ds ih =>
      obtain ⟨a, b⟩ := h d (by simp)
      obtain ⟨c, e⟩ := ih fun x hx => h x (by simp [hx])
      exact ⟨by simp only [PyData.canLayAll0, a, c, Bool.and_self], by simp only [PyData.depthAll]; omega⟩
  unfold SeqAt.shaped
  rw [show PyData.canLay0 (.list ds) = true by simp only [PyData.canLay0]; exact h1.1]
  exact decide_eq_true (by simp only [PyData.depth]; omega)
/-! defs with defaults -/
section
variable {P : Program} {w : World} {K : PySem.W.Frag} {mg : Str → Option Value} {base : Heap}
theorem funD_mk {x qual : Str} {st : Stmt} {f T : Addr} {oc oT : Value} {od an oU : Option Addr} {osl tsl : Array (Option Value)} {kV doc pm cdv ct : Value} {its : List Value} {n : Nat} {dvs : List V}
    (l : K.lookup f = some ⟨oc, od, .func (PySem.W.fnOf x qual (defArgs st) (defBody st) (defScope st) (.ref T) kV doc pm an cdv ct), osl⟩) (t : K.lookup T = some ⟨oT, oU, .seq its.toArray n, tsl⟩) (r : Vals dvs its) (hd : dvs ≠ [])
    (c : PySem.W.codeIn K cdv qual = true) (k : PySem.W.keepIn K (.ref f) = true) : FunD K x qual (defArgs st) (defBody st) (defScope st) dvs [] f (PySem.W.fnOf x qual (defArgs st) (defBody st) (defScope st) (.ref T) kV doc pm an cdv ct) :=
  ⟨⟨oc, od, _, kV, doc, pm, an, cdv, ct, osl, rfl, l, c, .inr ⟨hd, T, _, its, n, rfl, t, rfl, r⟩, .inl rfl⟩, k⟩
theorem funD_ok {x qual : Str} {st : Stmt} {dvs : List V} {f : Addr} {fd : FuncData} {N ps : List Str} {k : Nat} {sp : Sp} (F : FunD K x qual (defArgs st) (defBody st) (defScope st) dvs [] f fd) (S : FnScope N ps (defScope st)) (len : ∀ vs H Q E, sp vs H Q E → vs.length = ps.length)
    (hb : ∀ (cdv : Value) (A : Around) (outer : List Env) (s : Shared) (H : Hp) (vs : List V) (Q : VK) (E : XK), Room k (A.deeper (envOfC qual (defScope st) s.heap.objs.size f cdv)) → sp vs H Q E →
      ∃ t, PSs (cxOf CX0 P w K mg base N qual (defScope st) f cdv A outer s H E).nox (defBody st) t ∧ t { nx := fun _ H' => Q .non H', rt := Q } (start N vs) H) : FnOk P w K mg base CX0 (k + 1) f fd ps sp :=
  F.ok S len fun cdv A outer s H vs Q E hr h => by
    obtain ⟨t, h1, h2⟩ := hb cdv A outer s H vs Q E hr h
    exact ⟨t, h1.nox, h2⟩
end
theorem Stp.putI {M : List Addr} {H H1 : Hp} {p C d : Addr} {fs : List (Str × V)} {o : HO} (a : Stp M H H1) (h : p ∈ M) (h1 : H1 p = some (.ins C d fs)) : Stp M H (upd H1 p o) := a.putM h h1 (fun z => z)
theorem Stp.putL {M : List Addr} {H H1 : Hp} {p : Addr} {xs : List V} {o : HO} (a : Stp M H H1) (h : p ∈ M) (h1 : H1 p = some (.lst xs)) : Stp M H (upd H1 p o) := a.putM h h1 (fun z => z)
theorem v_tup1 {H : Hp} {Q : VK} {x : V} (h : ∀ p, H p = none → Q (.ref p) (upd H p (.tup [x]))) : SH.kTup Q [x] H := v_tup (by simp) h
/-- a statement of a def's body -/
def inDef (s : Stmt) (j : Nat) : Stmt := (defBody s).getD j (.Pass ⟨0, 0, 0, 0⟩)
/-- a table that tells nothing as yet -/
theorem tabN_empty {H : Hp} {P : Addr} {nm : Nat → Nat → Str} (h : H P = some (.tbl #[])) : NdefX.TabN H P nm := ⟨#[], h, by trivial, fun pos cv hc => by cases hc⟩
/-! rules with the frag by its name (in a comprehension the context is not to be seen from outside) -/
section
variable {X : Cx}
theorem opK {op : Value → Value → Sem Value} (r : PySem.W.Frag → R2) (K : PySem.W.Frag) (h : OpR X op (r X.K)) (e : X.K = K := by rfl) : OpR X op (r K) := e ▸ h
theorem ixK (r : PySem.W.Frag → R2) (K : PySem.W.Frag) (h : IxR X (r X.K)) (e : X.K = K := by rfl) : IxR X (r K) := e ▸ h
theorem crK {v : Value} (r : PySem.W.Frag → List V → Hp → VK → Prop) (K : PySem.W.Frag) (h : CallR X v (r X.K)) (e : X.K = K := by rfl) : CallR X v (r K) := e ▸ h
theorem slK (r : PySem.W.Frag → V → Option Int → Option Int → Hp → VK → Prop) (K : PySem.W.Frag) (h : SlR X (r X.K)) (e : X.K = K := by rfl) : SlR X (r K) := e ▸ h
theorem piK {tg e : Expr} (r : PySem.W.Frag → TI) (K : PySem.W.Frag) (h : PI X tg e (r X.K)) (e' : X.K = K := by rfl) : PI X tg e (r K) := e' ▸ h
theorem peK {e : Expr} (r : PySem.W.Frag → TE) (K : PySem.W.Frag) (h : PE X e (r X.K)) (e' : X.K = K := by rfl) : PE X e (r K) := e' ▸ h
end
end SH

set_option Elab.async false
set_option linter.all false
set_option maxRecDepth 100000
set_option maxHeartbeats 4000000
/-! SHF: list(reversed(xs)), a new list -/
namespace SH
open PySem PySem.Spec PyProof.Rows L2
section
variable {prog : Program} {w : World} {A : Around} {E : Value → Shared → Prop} {s : Shared}
theorem ext_lrev {R : Result → Shared → Prop} {it l : Addr} {items : Array Value} (hh : A.handled = none) (hit : s.heap.IsRevIter it l ((items.size : Int) - 1)) (hl : s.heap.IsList l items) (hne : l ≠ it) (hn : items.size ≤ sizeLine)
    (S : Addr) (c0 : Nat) (hS : s.heap.get? S = some { cls := .type "list", data := .seq #[] c0 }) (nSi : S ≠ it) (nSl : S ≠ l)
    (hR : ∀ h' tk acc c', (∀ b o, b ≠ S → b ≠ it → s.heap.get? b = some o → h'.get? b = some o) → h'.get? S = some { cls := .type "list", dict := none, data := .seq acc c', slots := #[] } →
      ItemsOf (fun i v => items[items.size - 1 - i]? = some v) acc items.size → R (.ok (.ret .none)) { s with heap := h', toks := tk }) :
    wpAny (model prog w) A.in1 (Builtin.List.listExtendWith (.ref S) (.ref it) .none)
      (fun z s' => match z with | .done u => R (.ok u) s' | .again c' => c'.quiet = true ∧ codeAny (model prog w) A c' R s') (fun e s' => R (.error e) s') s := by
  have W := (Walks.listRev (prog := prog) (w := w) (A := A.in1) hh it l hne items).toS
  have nf : S ∉ [it, l] := by simp only [List.mem_cons, List.not_mem_nil, or_false, not_or]; exact ⟨nSi, nSl⟩
  have ty : s.TypeIs (.ref it) "list_reverseiterator" := Heap.IsRevIter.typeIs (s := s) hit
  have same : Builtin.List.listSameRef (.ref S) (.ref it) = false := by simp [Builtin.List.listSameRef, nSi]
  unfold Builtin.List.listExtendWith; refine wpAny_bind (wpAny_typeOf ty ?_); rw [if_neg (by rw [same]; decide)]
  refine wpAny_bind (wpAny_pyIter_revIter (s := s) hit ?_); refine wpAny_bind (wpAny_holding ?_); unfold Builtin.List.listLengthHint
  refine wpAny_bind (wpAny_specialOf ty RT.nolen_lri ?_); show wpAny _ A.in1 (specialOf (Value.ref it) (Str.ofString "__length_hint__") >>= _) _ _ _
  refine wpAny_bind (wpAny_specialOf ty RT.hint_lri ?_); generalize hid : ("list_reverseiterator.__length_hint__" : String) = id0
  wp_delta; rw [show splitId id0 = some ("list_reverseiterator", "__length_hint__") from by subst hid; decide +kernel]; subst hid
  refine wpAny_bind (wpAny_isInstance (b := true) ty (by rw [isSubtype_type]; kernel_rfl) ?_); refine wpAny_pure ?_; rw [if_neg (by decide)]
  have z0 : ((items.size : Nat) : Int) - 1 - ((0 : Nat) : Int) = (items.size : Int) - 1 := by omega
  refine wpAny_pure ⟨plainId_quiet F.plain_extend_loop _, codeAny_extend_loopS W hn _ nf _ items.size 0 _ _ _ rfl (Nat.zero_le _) ⟨Nat.zero_le _, by rw [z0]; exact hit, hl⟩ hS (ItemsOf.nil _) fun s' acc c' hm hS' ha => ?_⟩
  rw [Moved.eq_with hm]; refine hR s'.heap s'.toks acc c' (fun b o n1 n2 e => hm.heap b o (fun hmem => ?_) e) hS' ha
  rcases List.mem_cons.mp hmem with e' | hmem
  · exact n1 e'
  · exact n2 (List.mem_singleton.mp hmem)
theorem call_list_rev {it l : Addr} {items : Array Value} {Q : Value → Shared → Prop} (hh : A.handled = none) (hit : s.heap.IsRevIter it l ((items.size : Int) - 1)) (hl : s.heap.IsList l items) (hne : l ≠ it) (hn : items.size ≤ sizeLine)
    (hQ : ∀ h' tk acc c', (∀ b o, b ≠ it → s.heap.get? b = some o → h'.get? b = some o) → h'.get? s.heap.objs.size = some { cls := .type "list", dict := none, data := .seq acc c', slots := #[] } →
      ItemsOf (fun i v => items[items.size - 1 - i]? = some v) acc items.size → Q (.ref s.heap.objs.size) { s with heap := h', toks := tk }) :
    wpAny (model prog w) A (call (.type "list") [.ref it]) Q E s := by
  refine callType_codes (Q₁ := fun ob s1 => ob = .ref s.heap.objs.size ∧ s1 = { s with heap := s.heap.push { cls := .type "list", data := .seq #[] } }) F.called_list (F.typeCall_list_1 _) F.entry_list_init (code_list_new _ ⟨rfl, rfl⟩) fun ob s1 h1 => ?_
  obtain ⟨e1, e2⟩ := h1; subst e1; subst e2
  have hS : (s.heap.push { cls := .type "list", data := .seq #[] }).get? s.heap.objs.size = some { cls := .type "list", data := .seq #[] } := by exact Heap.get?_push_size _ rfl
  obtain ⟨oi, hoi, _⟩ := id hit; obtain ⟨ol, hol, hol'⟩ := id hl
  have nSi : s.heap.objs.size ≠ it := Nat.ne_of_gt (Heap.lt_size hoi); have nSl : s.heap.objs.size ≠ l := Nat.ne_of_gt (Heap.lt_size hol)
  refine ⟨⟨_, hS, rfl⟩, F.args_list_init_2 _ _, ?_⟩
  show wpAny _ _ (do let old ← Builtin.List.listItems (.ref s.heap.objs.size); Builtin.List.listUpdate (.ref s.heap.objs.size) (fun _ => #[]); letGo old.toList.reverse; Builtin.List.listExtendWith (.ref s.heap.objs.size) (.ref it) .none) _ _ _
  refine wpAny_bind ?_; unfold Builtin.List.listItems; refine wpAny_bind (wpAny_seqItems hS rfl (wpAny_pure ?_))
  show wpAny _ _ (updateSeq s.heap.objs.size (fun _ => #[]) >>= fun _ => letGo (#[] : Array Value).toList.reverse >>= fun _ => Builtin.List.listExtendWith (.ref s.heap.objs.size) (.ref it) .none) _ _ _
  refine wpAny_bind (wpAny_updateSeq hS rfl ?_); have hS2 := Heap.get?_update_self (Obj.mapSeq (fun _ => (#[] : Array Value))) hS rfl
  have oth : ∀ b o, b ≠ s.heap.objs.size → s.heap.get? b = some o → ((s.heap.push { cls := .type "list", data := .seq #[] }).update s.heap.objs.size (Obj.mapSeq (fun _ => (#[] : Array Value)))).get? b = some o :=
    fun b o hb e => (Heap.get?_update_other _ _ (Ne.symm hb)).trans (Heap.get?_push_of_some _ e)
  refine wpAny_bind (wpAny_letGo ?_)
  refine ext_lrev (A := A.in1) (R := wants (fun r s2 => r = Value.none ∧ Q (.ref s.heap.objs.size) s2) E) (s := { s with heap := (s.heap.push { cls := .type "list", data := .seq #[] }).update s.heap.objs.size (Obj.mapSeq (fun _ => (#[] : Array Value))) }) hh (hit.at fun o e => oth it o (Ne.symm nSi) e) ?_ hne hn _ _ hS2 nSi nSl fun h' tk acc c' hk hS' ha => ?_
  · exact ⟨ol, oth l ol (Ne.symm nSl) hol, hol'⟩
  · exact ⟨rfl, hQ h' tk acc c' (fun b o n2 e => hk b o (Nat.ne_of_lt (Heap.lt_size e)) n2 (oth b o (Nat.ne_of_lt (Heap.lt_size e)) e)) hS' ha⟩
end
/-- list(reversed(xs)) -/
def kLstRev (K : PySem.W.Frag) (Q : VK) : VK := fun v H1 => ∃ (a : Addr) (xs : List V), v = .ref a ∧ SqL K H1 a xs ∧ ∀ q, H1 q = none → Q (.ref q) (upd H1 q (.lst xs.reverse))
def tLstRev (K : PySem.W.Frag) (te : TE) : TE := fun σ H Q => te σ H (kLstRev K Q)
theorem r_lrev {K : PySem.W.Frag} {te : TE} {σ : L2.St} {H : Hp} {Q : VK} (h : te σ H (kLstRev K Q)) : tLstRev K te σ H Q := h
theorem v_lrev {K : PySem.W.Frag} {H : Hp} {Q : VK} {a : Addr} {xs : List V} (h : SqL K H a xs) (k : ∀ q, H q = none → Q (.ref q) (upd H q (.lst xs.reverse))) : kLstRev K Q (.ref a) H := ⟨a, xs, rfl, h, k⟩
section
variable {X : Cx}
theorem pe_lstRev {e : Expr} {te : TE} {p p2 pos pos2 : Pos} (hg : Gl X "list") (hm : X.mg "list" = none) (hg2 : Gl X "reversed") (hm2 : X.mg "reversed" = none) (he : PE X e te) (hc : X.calm = true := by rfl)
    (hs : starEach [e] X.env = (false, eval e X.env) :: starEach [] X.env := by rfl)
    (hs2 : starEach [.Call (.Name "reversed" p2) [e] [] pos2] X.env = (false, eval (.Call (.Name "reversed" p2) [e] [] pos2) X.env) :: starEach [] X.env := by rfl) :
    PE X (.Call (.Name "list" p) [.Call (.Name "reversed" p2) [e] [] pos2] [] pos) (tLstRev X.K te) := by
  refine ⟨fun pins s σ H Q I h => ?_⟩
  refine Call_ (ld_blt I hg hm boot_list (PyProof.Rows.callWith_type1 (args_cons (Call_ (ld_blt I hg2 hm2 PyProof.Rows.boot_reversed (PyProof.Rows.callWith_type1 (args_cons (thn (he.run pins s σ H _ I h) fun u s1 ⟨v, H1, I1, r1, q1⟩ => args_nil ?_) hs) hs rfl))) hs2) hs2 rfl))
  obtain ⟨a, xs, ev, hq, q⟩ := q1; subst ev; obtain rfl : u = Value.ref a := r1; obtain ⟨its, rv, p', hz⟩ := I1.list hq
  refine call_reversed_list p'.isList (args_nil ?_)
  have I2 : Inv X pins σ H1 { s1 with heap := s1.heap.push (revObj a ((its.toArray.size : Int) - 1)) } := by exact I1.kept (t' := s1.toks) fun b o e => Heap.get?_push_of_some _ e
  obtain ⟨f0, f1, f2, f3, f4, f5⟩ := I1.fpOk (H' := H1) (b := s1.heap.objs.size) (Nat.le_refl _) (I1.hok.fresh (Nat.le_refl _)); have hl := p'.isList; obtain ⟨ol, hol, _⟩ := id hl
  have hne : a ≠ s1.heap.objs.size := by exact Nat.ne_of_lt (Heap.lt_size hol)
  have hn : its.toArray.size ≤ sizeLine := by rw [List.size_toArray, ← rv.length]; exact (by exact hz)
  refine call_list_rev (s := { s1 with heap := s1.heap.push (revObj a ((its.toArray.size : Int) - 1)) }) (I1.ok.hd hc) ⟨_, Heap.get?_push_size _ rfl, rfl, rfl⟩ (hl.push _) hne hn fun h' tk acc c' hk hS' hi => ?_
  have z : s1.heap.objs.size ≤ (s1.heap.push (revObj a ((its.toArray.size : Int) - 1))).objs.size := by simp [Heap.push]
  have k1 : ∀ b o, s1.heap.get? b = some o → h'.get? b = some o := fun b o e => hk b o (Nat.ne_of_lt (Heap.lt_size e)) (by exact Heap.get?_push_of_some _ e)
  refine ⟨.ref _, upd H1 (s1.heap.push (revObj a ((its.toArray.size : Int) - 1))).objs.size (.lst xs.reverse), I1.laid (t' := tk) k1 z (show ObjOk X.prog X.w _ _ _ (.lst xs.reverse) from ⟨by rw [List.length_reverse]; exact hz, acc.toList, c', RT.vals_rev rv hi, ?_⟩), rfl, q _ (I1.hok.fresh z)⟩
  rw [Array.toArray_toList]; exact (by exact hS')
end
theorem cutL_from_len {α : Type} (xs : List α) (i : Nat) (hi : Option Int) : (cutL xs (some (i : Int)) hi).length ≤ xs.length - i := by
  unfold cutL
  rw [HT.sIx_nat, List.length_take, List.length_drop]
  omega
theorem r_ckw2 {r : List V → List V → Hp → VK → Prop} {t tk : TA} {σ : L2.St} {H : Hp} {Q : VK} (h : t σ H fun vs H1 => tk σ H1 fun zs H2 => r vs zs H2 Q) : tCKw r t tk σ H Q := h
end SH

set_option Elab.async false
set_option linter.all false
set_option maxRecDepth 100000
set_option maxHeartbeats 4000000
/-! SHG: max(xs, default=d), ints -/
namespace SH
open PySem PySem.Spec PyProof.Rows L2
def rMaxDef (K : PySem.W.Frag) : List V → List V → Hp → VK → Prop := fun vs zs H Q => ∃ (a : Addr) (ns : List Int) (d : Int), vs = [V.ref a] ∧ zs = [V.int d] ∧ SqL K H a (ns.map V.int) ∧ (ns = [] → Q (.int d) H) ∧ ∀ m, m ∈ ns → (∀ y, y ∈ ns → y ≤ m) → Q (.int m) H
theorem foldl_max : ∀ (r : List Int) (n : Int), r.foldl max n ∈ n :: r ∧ ∀ y ∈ n :: r, y ≤ r.foldl max n
  | [], n => ⟨by simp, by simp⟩
  | k :: r, n => by
    obtain ⟨h1, h2⟩ := foldl_max r (max n k)
    rw [List.foldl_cons]
    constructor
    · rcases List.mem_cons.mp h1 with e | e
      · rw [e]
        by_cases z : n ≤ k
        · rw [Int.max_eq_right z]; simp
        · rw [Int.max_eq_left (by omega)]; simp
      · simp [e]
    · intro y hy
      have hm := h2 (max n k) (by simp)
      rcases List.mem_cons.mp hy with e | hy
      · omega
      · rcases List.mem_cons.mp hy with e | hy
        · omega
        · exact h2 y (by simp [hy])
theorem depth_ints : ∀ ns : List Int, PyData.depthAll (ns.map PyData.int) = 0
  | [] => by simp [PyData.depthAll]
  | n :: r => by simp [PyData.depthAll, PyData.depth, depth_ints r]
theorem dp_ints {K : PySem.W.Frag} {H : Hp} : ∀ ns : List Int, DpAll K H (ns.map V.int) (ns.map PyData.int)
  | [] => .nil
  | n :: r => .cons (.int n) (dp_ints r)
section
variable {X : Cx}
theorem cr_maxDef (hc : X.calm = true) (hu : X.A.units + 64 < cLine) : CallRK X (.builtin "max") [Str.ofString "default"] (rMaxDef X.K) := by
  intro pins s σ H vs zs us ws Q I r rz h
  obtain ⟨a, ns, d, rfl, rfl, hs, h0, h1⟩ := h
  obtain rfl := Vals.ref1 r
  obtain ⟨w1, rfl, e1⟩ := vals1 rz
  obtain ⟨t, rfl⟩ := e1
  obtain ⟨its, rv, hl, hz⟩ := I.list hs
  obtain ⟨as, hr⟩ := Dp.readsAll I (ns.map PyData.int) _ its (dp_ints ns) rv
  have al : PySem.W.AlikeAll (ns.map PyData.int) := ⟨fun x hx y hy => by
    obtain ⟨i, _, rfl⟩ := List.mem_map.mp hx
    obtain ⟨j, _, rfl⟩ := List.mem_map.mp hy
    rfl, fun x hx => by
    obtain ⟨i, _, rfl⟩ := List.mem_map.mp hx
    intro z; cases z⟩
  refine PySem.W.max_list_default (xs := ns.map PyData.int) (I.ok.hd hc) hl.isList (by simpa using hr) al (by rw [depth_ints]; omega) (fun e h' tk hk => ⟨.int d, H, I.kept hk, ⟨t, rfl⟩, h0 (by simpa using e)⟩) fun y ys i v h' tk bs e hv hR hk => ?_
  cases ns with
  | nil => cases e
  | cons n r =>
    rw [List.map_cons] at e
    cases e
    rw [PySem.W.maxD_ints] at hR
    obtain ⟨m1, m2⟩ := foldl_max r n
    generalize r.foldl max n = m at hR m1 m2
    cases hR
    exact ⟨.int m, H, I.kept hk, ⟨_, rfl⟩, h1 m m1 m2⟩
end
theorem r_ckw {r : List V → List V → Hp → VK → Prop} {t tk : TA} {σ : L2.St} {H : Hp} {Q : VK} (h : t σ H fun vs H1 => tk σ H1 fun zs H2 => r vs zs H2 Q) : tCKw r t tk σ H Q := h
end SH

set_option Elab.async false
set_option linter.all false
set_option maxRecDepth 100000
set_option maxHeartbeats 4000000
/-! SHI: xs[i] op= e, dicts with tuples as keys, int(truth) -/
namespace SH
open PySem PySem.Spec PyProof.Rows L2
section
variable {K : PySem.W.Frag} {σ : L2.St} {H : Hp} {Q : VK} {D : Ends} {to ti te td ty tv : TE} {tget : V → V → Hp → VK → Prop} {tip : TIp} {tset : TSet} {P : Hp → Prop} {d b : Addr} {kvs : List (List Key × V)} {ks : List Key} {v x y : V}
/-- a, b = x, y -/
def kPar2 (i j : Nat) (σ : L2.St) (P : L2.St → Hp → Prop) : List V → Hp → Prop := fun vs H1 => ∃ v w, vs = [v, w] ∧ P ((σ.set i (some v)).set j (some w)) H1
theorem r_par {i j : Nat} {ta : TA} (h : ta σ H (kPar2 i j σ D.nx)) : tPar i j ta D σ H := h
theorem v_par {i j : Nat} {w : V} {σ1 σ2 : L2.St} {R : L2.St → Hp → Prop} (e1 : σ.set i (some v) = σ1) (e2 : σ1.set j (some w) = σ2) (h : R σ2 H) : kPar2 i j σ R [v, w] H := ⟨v, w, rfl, by rw [e1, e2]; exact h⟩
def kPar3 (i j l : Nat) (σ : L2.St) (P : L2.St → Hp → Prop) : List V → Hp → Prop := fun vs H1 => ∃ u v w, vs = [u, v, w] ∧ P (((σ.set i (some u)).set j (some v)).set l (some w)) H1
theorem r_par3 {i j l : Nat} {ta : TA} (h : ta σ H (kPar3 i j l σ D.nx)) : tPar3 i j l ta D σ H := h
theorem v_par3 {i j l : Nat} {u w : V} {σ1 σ2 σ3 : L2.St} {R : L2.St → Hp → Prop} (e1 : σ.set i (some u) = σ1) (e2 : σ1.set j (some v) = σ2) (e3 : σ2.set l (some w) = σ3) (h : R σ3 H) : kPar3 i j l σ R [u, v, w] H := ⟨u, v, w, rfl, by rw [e1, e2, e3]; exact h⟩
theorem r_augS (h : to σ H fun o H1 => ti σ H1 fun i H2 => tget o i H2 fun x H3 => te σ H3 fun y H4 => tip x y H4 fun z H5 => tset o i z H5 fun H6 => D.nx σ H6) : tAugS to ti te tget tip tset D σ H := h
theorem r_dnewT (h : ∀ p, H p = none → Q (.ref p) (upd H p (.dT []))) : tDNewT σ H Q := h
theorem r_dnewK (h : ∀ p, H p = none → Q (.ref p) (upd H p (.dK []))) : tDNewK σ H Q := h
def kDPut (x y v : V) (H3 : Hp) (P : Hp → Prop) : Prop := ∃ a H4, x = .ref a ∧ DPut H3 a y v H4 ∧ P H4
theorem r_dput (h : tv σ H fun v H1 => td σ H1 fun x H2 => ty σ H2 fun y H3 => kDPut x y v H3 (D.nx σ)) : sDPut td ty tv D σ H := h
theorem v_dputT (hd : H d = some (.dT kvs)) (hk : H b = some (.tup (ks.map kV))) (hl : kvs.length < 1000000) (k : P (upd H d (.dT (putK kvs ks v)))) : kDPut (.ref d) (.ref b) v H P := ⟨d, _, rfl, DPut.t hd hk (Nat.lt_trans hl (by decide)), k⟩
def kDGet1 (ty : TE) (σ : L2.St) (Q : VK) : VK := fun x H1 => ∃ a, x = .ref a ∧ IsD H1 a ∧ ty σ H1 fun y H2 => ∃ o, DGet H2 a y o ∧ Q (o.getD .non) H2
theorem r_dget1 (h : td σ H (kDGet1 ty σ Q)) : tDGet1 td ty σ H Q := h
theorem v_dget1 (hd : H d = some (.dT kvs)) (h : ty σ H fun y H2 => ∃ o, DGet H2 d y o ∧ Q (o.getD .non) H2) : kDGet1 ty σ Q (.ref d) H := ⟨d, rfl, .inr ⟨kvs, .inl hd⟩, h⟩
theorem v_dgetT {R : Option V → Prop} (hd : H d = some (.dT kvs)) (hk : H b = some (.tup (ks.map kV))) (q : R (valV kvs ks)) : ∃ o, DGet H d (.ref b) o ∧ R o := ⟨_, DGet.t hd hk, q⟩
def kDGet (x y : V) (H2 : Hp) (Q : VK) : Prop := ∃ a v, x = .ref a ∧ DGet H2 a y (some v) ∧ Q v H2
theorem r_dgetI (h : td σ H fun x H1 => ty σ H1 fun y H2 => kDGet x y H2 Q) : tDGet td ty σ H Q := h
theorem v_dgetI (hd : H d = some (.dT kvs)) (hk : H b = some (.tup (ks.map kV))) (e : valV kvs ks = some v) (q : Q v H) : kDGet (.ref d) (.ref b) H Q := ⟨d, v, rfl, by rw [← e]; exact DGet.t hd hk, q⟩
def kDIn (y x : V) (H2 : Hp) (Q : VK) : Prop := ∃ a o, x = .ref a ∧ DGet H2 a y o ∧ Q (.bl o.isSome) H2
def kDNi (y x : V) (H2 : Hp) (Q : VK) : Prop := ∃ a o, x = .ref a ∧ DGet H2 a y o ∧ Q (.bl (!o.isSome)) H2
theorem r_din (h : ty σ H fun y H1 => td σ H1 fun x H2 => kDIn y x H2 Q) : tDIn ty td σ H Q := h
theorem r_dnotin (h : ty σ H fun y H1 => td σ H1 fun x H2 => kDNi y x H2 Q) : tDNotIn ty td σ H Q := h
theorem v_din (hd : H d = some (.dT kvs)) (hk : H b = some (.tup (ks.map kV))) (q : Q (.bl (valV kvs ks).isSome) H) : kDIn (.ref b) (.ref d) H Q := ⟨d, _, rfl, DGet.t hd hk, q⟩
theorem v_dnotin (hd : H d = some (.dT kvs)) (hk : H b = some (.tup (ks.map kV))) (q : Q (.bl (!(valV kvs ks).isSome)) H) : kDNi (.ref b) (.ref d) H Q := ⟨d, _, rfl, DGet.t hd hk, q⟩
end
/-- int(truth) or int(int) -/
def rInt1 : List V → Hp → VK → Prop := fun xs H Q => (∃ i, xs = [.int i] ∧ Q (.int i) H) ∨ ∃ k, xs = [.bl k] ∧ Q (.int (if k then 1 else 0)) H
section
variable {X : Cx} {H : Hp} {Q : VK} {i : Int} {b : Bool}
theorem cInt1 : CallR X (.type "int") rInt1 := call_int1
theorem w_intI (k : Q (.int i) H) : rInt1 [.int i] H Q := .inl ⟨i, rfl, k⟩
theorem w_intB (k : Q (.int (b.toNat : Nat)) H) : rInt1 [.bl b] H Q := .inr ⟨b, rfl, by cases b <;> exact k⟩
end
/-! a dict of answers -/
def pk (a b : Nat) : List Key := [.inl (a : Int), .inl (b : Int)]
theorem pk_map {a b : Nat} : (pk a b).map kV = [.int (a : Nat), .int (b : Nat)] := rfl
theorem pk_inj {a b c d : Nat} : pk a b = pk c d ↔ a = c ∧ b = d := by
  unfold pk
  constructor
  · intro h
    injection h with h1 h2
    injection h2 with h2 _
    injection h1 with h1
    injection h2 with h2
    exact ⟨by omega, by omega⟩
  · rintro ⟨rfl, rfl⟩; rfl
/-- what is known behind so many answers -/
def kn (es : List (T3 Nat Nat Bool)) : List (List Key × V) := es.foldl (fun acc e => putK acc (pk e.a e.b) (.bl e.c)) []
theorem kn_app {es : List (T3 Nat Nat Bool)} {e : T3 Nat Nat Bool} : kn (es ++ [e]) = putK (kn es) (pk e.a e.b) (.bl e.c) := by simp [kn]
theorem kn_len (es : List (T3 Nat Nat Bool)) : (kn es).length ≤ es.length := by
  have : ∀ (es : List (T3 Nat Nat Bool)) (acc : List (List Key × V)), (es.foldl (fun acc e => putK acc (pk e.a e.b) (.bl e.c)) acc).length ≤ acc.length + es.length := by
    intro es
    induction es with
    | nil => intro acc; simp
    | cons e es ih => intro acc; have := ih (putK acc (pk e.a e.b) (.bl e.c)); have := length_putK acc (pk e.a e.b) (.bl e.c); simp only [List.foldl_cons, List.length_cons]; omega
  simpa [kn] using this es []
theorem kn_val {es : List (T3 Nat Nat Bool)} {f : Nat → Nat → Bool} (h : ∀ e ∈ es, e.c = f e.a e.b) (a b : Nat) [Decidable (∃ e ∈ es, e.a = a ∧ e.b = b)] : valV (kn es) (pk a b) = if (∃ e ∈ es, e.a = a ∧ e.b = b) then some (.bl (f a b)) else none := by
  have key : ∀ (es : List (T3 Nat Nat Bool)), (∀ e ∈ es, e.c = f e.a e.b) → ((∃ e ∈ es, e.a = a ∧ e.b = b) → valV (kn es) (pk a b) = some (.bl (f a b))) ∧ ((¬ ∃ e ∈ es, e.a = a ∧ e.b = b) → valV (kn es) (pk a b) = none) := by
    intro es h
    obtain ⟨n, hn⟩ : ∃ n, n = es.length := ⟨_, rfl⟩
    induction n generalizing es with
    | zero =>
      have : es = [] := List.length_eq_zero_iff.mp hn.symm
      subst this
      exact ⟨fun ⟨e, he, _⟩ => by simp at he, fun _ => rfl⟩
    | succ n ih =>
      obtain ⟨fs, e, rfl⟩ : ∃ fs e, es = fs ++ [e] := ⟨es.dropLast, es.getLast (by intro z; subst z; simp at hn), (List.dropLast_concat_getLast _).symm⟩
      obtain ⟨i1, i2⟩ := ih fs (fun x hx => h x (by simp [hx])) (by simp at hn; omega)
      rw [kn_app, valV_put]
      have he := h e (by simp)
      by_cases z : pk a b = pk e.a e.b
      · obtain ⟨z1, z2⟩ := pk_inj.mp z
        subst z1; subst z2
        simp only [if_true]
        exact ⟨fun _ => by rw [he], fun n => (n ⟨e, by simp, rfl, rfl⟩).elim⟩
      · rw [if_neg z]
        have z' : ¬ (e.a = a ∧ e.b = b) := fun ⟨p, q⟩ => z (pk_inj.mpr ⟨p.symm, q.symm⟩)
        refine ⟨fun ⟨x, hx, q⟩ => i1 ?_, fun n => i2 fun ⟨x, hx, q⟩ => n ⟨x, by simp [hx], q⟩⟩
        rcases List.mem_append.mp hx with hx | hx
        · exact ⟨x, hx, q⟩
        · rw [List.mem_singleton] at hx; subst hx; exact (z' q).elim
  by_cases c : ∃ e ∈ es, e.a = a ∧ e.b = b
  · rw [if_pos c]; exact (key es h).1 c
  · rw [if_neg c]; exact (key es h).2 c
theorem kn_get {es : List (T3 Nat Nat Bool)} {f : Nat → Nat → Bool} (h : ∀ e ∈ es, e.c = f e.a e.b) {a b : Nat} (hm : ∃ e ∈ es, e.a = a ∧ e.b = b) : valV (kn es) (pk a b) = some (.bl (f a b)) := by
  classical
  rw [kn_val h, if_pos hm]
theorem kn_none {es : List (T3 Nat Nat Bool)} {f : Nat → Nat → Bool} (h : ∀ e ∈ es, e.c = f e.a e.b) {a b : Nat} (hm : ¬ ∃ e ∈ es, e.a = a ∧ e.b = b) : valV (kn es) (pk a b) = none := by
  classical
  rw [kn_val h, if_neg hm]
end SH

set_option Elab.async false
set_option linter.all false
set_option maxRecDepth 100000
set_option maxHeartbeats 4000000
/-! SHJ: (k, p) >= (k', q); t[:2] -/
namespace SH
open PySem PySem.Spec PySem.W PyProof.Rows L2
theorem dataLt_pair {k p k' p' : Int} : dataLt (.tuple [.int k, .int p]) (.tuple [.int k', .int p']) = decide (k < k' ∨ (k = k' ∧ p < p')) := by
  unfold dataLt
  simp only [keyToks, keyToksAll, List.cons_append, List.nil_append]
  rw [lex_self (O := itemOrd)]
  by_cases e : k = k'
  · subst e
    rw [lex_self (O := itemOrd), lex_self (O := itemOrd)]
    by_cases e2 : p = p'
    · subst e2
      rw [lex_self (O := itemOrd), lex_self (O := itemOrd)]
      simp [PyProof.Rows.lexLt]
    · rw [lex_diff (O := itemOrd) (by simpa using e2)]
      show decide (p < p') = _
      exact decide_eq_decide.mpr (by omega)
  · rw [lex_diff (O := itemOrd) (by simpa using e)]
    show decide (k < k') = _
    exact decide_eq_decide.mpr (by omega)
def aGeT (K : PySem.W.Frag) : R2 := fun x y H Q => ∃ a b k p k' p', x = .ref a ∧ y = .ref b ∧ SqT K H a [.int k, .int p] ∧ SqT K H b [.int k', .int p'] ∧ Q (.bl (decide (¬ (k < k' ∨ (k = k' ∧ p < p'))))) H
theorem oGeT {X : Cx} (hu : X.A.units + 64 < cLine) : OpR X (compareOp .GtE) (aGeT X.K) := by
  intro pins s σ H x y v u Q I rx ry h
  obtain ⟨a, b, k, p, k', p', rfl, rfl, h1, h2, q⟩ := h
  obtain ⟨as, r1⟩ := Dp.reads I (.tuple [.int k, .int p]) _ v (.tup h1 (.cons (.int k) (.cons (.int p) .nil))) rx
  obtain ⟨bs, r2⟩ := Dp.reads I (.tuple [.int k', .int p']) _ u (.tup h2 (.cons (.int k') (.cons (.int p') .nil))) ry
  refine ge_data r1 r2 rfl (fun z => by cases z) ?_ ⟨.bl _, H, I, rfl, ?_⟩
  · have : (PyData.tuple [.int k, .int p]).depth ≤ 64 := by show 1 ≤ 64; decide
    omega
  · rw [dataLt_pair]
    have e : (!decide (k < k' ∨ (k = k' ∧ p < p'))) = decide (¬ (k < k' ∨ (k = k' ∧ p < p'))) := decide_not.symm
    rw [e]
    exact q
theorem v_geT {K : PySem.W.Frag} {H : Hp} {Q : VK} {a b : Addr} {k p k' p' : Int} (h1 : SqT K H a [.int k, .int p]) (h2 : SqT K H b [.int k', .int p']) (q : Q (.bl (decide (¬ (k < k' ∨ (k = k' ∧ p < p'))))) H) : aGeT K (.ref a) (.ref b) H Q := ⟨a, b, k, p, k', p', rfl, rfl, h1, h2, q⟩
def aGtT (K : PySem.W.Frag) : R2 := fun x y H Q => ∃ a b k p k' p', x = .ref a ∧ y = .ref b ∧ SqT K H a [.int k, .int p] ∧ SqT K H b [.int k', .int p'] ∧ Q (.bl (decide (k' < k ∨ (k' = k ∧ p' < p)))) H
theorem oGtT {X : Cx} (hu : X.A.units + 64 < cLine) : OpR X (compareOp .Gt) (aGtT X.K) := by
  intro pins s σ H x y v u Q I rx ry h
  obtain ⟨a, b, k, p, k', p', rfl, rfl, h1, h2, q⟩ := h
  obtain ⟨as, r1⟩ := Dp.reads I (.tuple [.int k, .int p]) _ v (.tup h1 (.cons (.int k) (.cons (.int p) .nil))) rx
  obtain ⟨bs, r2⟩ := Dp.reads I (.tuple [.int k', .int p']) _ u (.tup h2 (.cons (.int k') (.cons (.int p') .nil))) ry
  refine gt_data r1 r2 rfl (fun z => by cases z) ?_ ⟨.bl _, H, I, rfl, ?_⟩
  · have : (PyData.tuple [.int k, .int p]).depth ≤ 64 := by show 1 ≤ 64; decide
    omega
  · rw [dataLt_pair]
    exact q
theorem v_gtT {K : PySem.W.Frag} {H : Hp} {Q : VK} {a b : Addr} {k p k' p' : Int} (h1 : SqT K H a [.int k, .int p]) (h2 : SqT K H b [.int k', .int p']) (q : Q (.bl (decide (k' < k ∨ (k' = k ∧ p' < p)))) H) : aGtT K (.ref a) (.ref b) H Q := ⟨a, b, k, p, k', p', rfl, rfl, h1, h2, q⟩
/-- t[:2] of three -/
theorem v_slT2 {K : PySem.W.Frag} {H : Hp} {Q : VK} {a : Addr} {x y z : V} (h : SqT K H a [x, y, z]) (q : ∀ p, H p = none → Q (.ref p) (upd H p (.tup [x, y]))) : rSlT K (.ref a) none (some 2) H Q :=
  ⟨a, _, rfl, h, by rintro ⟨_, h⟩; exact absurd (show (2 : Nat) = 3 from h) (by decide), q⟩
end SH

set_option Elab.async false
set_option linter.all false
set_option maxRecDepth 100000
set_option maxHeartbeats 4000000
/-! SHK: d.update(d2), keys that are tuples; a method whose class is known at the run alone -/
namespace SH
open PySem PySem.Spec PyProof.Rows L2
/-- d.update(d2) -/
def mergK (kvs more : List (List Key × V)) : List (List Key × V) := more.foldl (fun acc p => putK acc p.1 p.2) kvs
theorem mergK_len : ∀ (more kvs : List (List Key × V)), (mergK kvs more).length ≤ kvs.length + more.length
  | [], kvs => by simp [mergK]
  | p :: ps, kvs => by
    have h1 := mergK_len ps (putK kvs p.1 p.2)
    have h2 := length_putK kvs p.1 p.2
    show (mergK (putK kvs p.1 p.2) ps).length ≤ _
    rw [List.length_cons]; omega
theorem mergK_val : ∀ (more kvs : List (List Key × V)) (k : List Key), (∃ p ∈ more, p.1 = k ∧ valV (mergK kvs more) k = some p.2) ∨ ((∀ p ∈ more, p.1 ≠ k) ∧ valV (mergK kvs more) k = valV kvs k)
  | [], kvs, k => .inr ⟨by simp, rfl⟩
  | p :: ps, kvs, k => by
    show (∃ q ∈ p :: ps, q.1 = k ∧ valV (mergK (putK kvs p.1 p.2) ps) k = some q.2) ∨ ((∀ q ∈ p :: ps, q.1 ≠ k) ∧ valV (mergK (putK kvs p.1 p.2) ps) k = valV kvs k)
    rcases mergK_val ps (putK kvs p.1 p.2) k with ⟨q, hq, e1, e2⟩ | ⟨h1, h2⟩
    · exact .inl ⟨q, List.mem_cons_of_mem _ hq, e1, e2⟩
    · rw [valV_put] at h2
      by_cases e : k = p.1
      · rw [if_pos e] at h2
        exact .inl ⟨p, List.mem_cons_self .., e.symm, h2⟩
      · rw [if_neg e] at h2
        refine .inr ⟨fun q hq => ?_, h2⟩
        rcases List.mem_cons.mp hq with rfl | hq
        · exact fun z => e z.symm
        · exact h1 q hq
theorem mem_putK {kvs : List (List Key × V)} {k : List Key} {v : V} {p : List Key × V} (h : p ∈ putK kvs k v) : p = (k, v) ∨ p ∈ kvs := by
  unfold putK at h
  split at h
  · obtain ⟨q, hq, e⟩ := List.mem_map.mp h
    by_cases z : q.1 = k
    · rw [if_pos z] at e
      exact .inl (by rw [← e, z])
    · rw [if_neg z] at e
      exact .inr (by rw [← e]; exact hq)
  · rcases List.mem_append.mp h with h | h
    · exact .inr h
    · exact .inl (List.mem_singleton.mp h)
theorem putK_same {kvs : List (List Key × V)} {k : List Key} {v : V} : (k, v) ∈ putK kvs k v := by
  unfold putK
  split
  · rename_i h
    obtain ⟨q, hq, e⟩ := List.any_eq_true.mp h
    exact List.mem_map.mpr ⟨q, hq, by rw [if_pos (of_decide_eq_true e), of_decide_eq_true e]⟩
  · exact List.mem_append_right _ (List.mem_singleton.mpr rfl)
theorem putK_other {kvs : List (List Key × V)} {k : List Key} {v : V} {p : List Key × V} (h : p ∈ kvs) (n : p.1 ≠ k) : p ∈ putK kvs k v := by
  unfold putK
  split
  · exact List.mem_map.mpr ⟨p, h, by rw [if_neg n]⟩
  · exact List.mem_append_left _ h
theorem KT_all {H : Hp} : ∀ {more : List (List Key × V)} {ps : List (List Key × Addr × Value)} {kvs : List (List Key × V)} {xs : List (List Key × Addr × Value)}, KT H kvs xs → KT H more ps → KT H (mergK kvs more) (storedAllH xs ps)
  | _, _, kvs, xs, h, .nil => h
  | _, _, kvs, xs, h, .cons (a := p) (b := q) (l₁ := more) (l₂ := ps) hq t => by
    obtain ⟨e1, e2, e3⟩ := hq
    show KT H (mergK (putK kvs p.1 p.2) more) (storedAllH (storedH xs q.1 q.2.1 q.2.2) ps)
    exact KT_all (by rw [← e1]; exact h.put p.1 e2 e3) t
def rUpdT : V → List V → Hp → VK → Prop := fun x xs H Q => ∃ (a b : Addr) (kvs more : List (List Key × V)), x = .ref a ∧ xs = [.ref b] ∧ H a = some (.dT kvs) ∧ H b = some (.dT more) ∧ a ≠ b ∧ kvs ≠ [] ∧ kvs.length + more.length ≤ 1000000 ∧ Q .non (upd H a (.dT (mergK kvs more)))
theorem mt_updT {X : Cx} (hu : X.A.units + 1 < cLine) : MtR X "dict.update" rUpdT := by
  intro pins s σ H x xs v us Q I rx rxs h
  obtain ⟨a, b, kvs, more, rfl, rfl, ha, hb, hab, hne, hl, q⟩ := h
  cases rx
  obtain rfl := Vals.ref1 rxs
  obtain ⟨z, hd, xs', rel, dd⟩ := dt_of I.hok ha
  obtain ⟨z2, hd2, ps, rel2, dd2⟩ := dt_of I.hok hb
  have e1 := Paired.length rel
  have e2 := Paired.length rel2
  have hz : xs'.length + ps.length ≤ sizeLine := by rw [← e1, ← e2]; exact Nat.le_trans hl (by decide)
  refine call_update_dictH (knd := tupleKind (mixKind X.prog X.w)) (tupleKind_room_in1 hu) hab hd2 dd dd2 (.inl fun e => hne ?_) hz fun h' dd' _ hs => ?_
  · rw [e] at e1
    exact List.length_eq_zero_iff.mp e1
  · obtain ⟨o, es, ep, hq, h2, h3, h4, _, h5⟩ := dd'
    have hml : (mergK kvs more).length ≤ sizeLine := Nat.le_trans (mergK_len more kvs) (Nat.le_trans hl (by decide))
    have I2 : Inv X pins σ (upd H a (.dT (mergK kvs more))) { s with heap := h' } :=
      d_write (t' := s.toks) I (by rw [ha]; exact True.intro) hs ⟨o, hq⟩ ⟨hml, hd, _, (KT_all rel rel2).keeps (fun c ys ec => (by rw [upd_ne (ne_of ec ha (fun z => nomatch z))]; exact ec)), o, es, ep, hq, h2, h3, h4, h5⟩
    exact ⟨.non, _, I2, rfl, q⟩
theorem w_upd {H : Hp} {Q : VK} {a b : Addr} {kvs more : List (List Key × V)} (ha : H a = some (.dT kvs)) (hb : H b = some (.dT more)) (hab : a ≠ b) (hne : kvs ≠ []) (hl : kvs.length + more.length ≤ 1000000) (q : Q .non (upd H a (.dT (mergK kvs more)))) : rUpdT (.ref a) [.ref b] H Q :=
  ⟨a, b, kvs, more, rfl, rfl, ha, hb, hab, hne, hl, q⟩
theorem ty_dT {K : PySem.W.Frag} {H : Hp} {a : Addr} {kvs : List (List Key × V)} (ha : H a = some (.dT kvs)) : tyV K "dict" (.ref a) H := .inr (.inr (.inl ⟨rfl, .inr ⟨kvs, ha⟩⟩))
/-- either rule will do -/
theorem peOr {X : Cx} {e : Expr} {t u : TE} (h : PE X e t) (k : PE X e u) : PE X e (fun σ H Q => t σ H Q ∨ u σ H Q) := ⟨fun pins s σ H Q I q => q.elim (h.run pins s σ H Q I) (k.run pins s σ H Q I)⟩
/-- either rule will do, by name -/
def tOrE (t u : TE) : TE := fun σ H Q => t σ H Q ∨ u σ H Q
theorem peOrE {X : Cx} {e : Expr} {t u : TE} (h : PE X e t) (k : PE X e u) : PE X e (tOrE t u) := peOr h k
theorem r_orL {t u : TE} {σ : L2.St} {H : Hp} {Q : VK} (h : t σ H Q) : tOrE t u σ H Q := .inl h
theorem r_orR {t u : TE} {σ : L2.St} {H : Hp} {Q : VK} (h : u σ H Q) : tOrE t u σ H Q := .inr h
/-- an if by two tests, whose ways meet again -/
theorem r_waJ {c : Prop} [Decidable c] {te : TT} {t1 t2 : TS} {D : Ends} {σ : L2.St} {H : Hp} (W : L2.St → Hp → Prop) (hk : ∀ σ' H', W σ' H' → D.nx σ' H')
    (h1 : c → ∀ N : L2.St → Hp → Prop, (∀ σ' H', W σ' H' → N σ' H') → te σ H fun b H1 => if b = true then t1 { D with nx := N } σ H1 else t2 { D with nx := N } σ H1) (h2 : ¬ c → ∀ N : L2.St → Hp → Prop, (∀ σ' H', W σ' H' → N σ' H') → t2 { D with nx := N } σ H) :
    if decide c = true then te σ H (fun b H1 => if b = true then t1 D σ H1 else t2 D σ H1) else if false = true then t1 D σ H else t2 D σ H := r_w (fun h => h1 h D.nx hk) fun h => r_F (h2 h D.nx hk)
theorem r_naJ {c : Prop} [Decidable c] {te : TT} {t1 t2 : TS} {D : Ends} {σ : L2.St} {H : Hp} (W : L2.St → Hp → Prop) (hk : ∀ σ' H', W σ' H' → D.nx σ' H')
    (h1 : ¬ c → ∀ N : L2.St → Hp → Prop, (∀ σ' H', W σ' H' → N σ' H') → te σ H fun b H1 => if b = true then t1 { D with nx := N } σ H1 else t2 { D with nx := N } σ H1) (h2 : c → ∀ N : L2.St → Hp → Prop, (∀ σ' H', W σ' H' → N σ' H') → t2 { D with nx := N } σ H) :
    if (!decide c) = true then te σ H (fun b H1 => if b = true then t1 D σ H1 else t2 D σ H1) else if false = true then t1 D σ H else t2 D σ H := r_nw (fun h => h1 h D.nx hk) fun h => r_F (h2 h D.nx hk)
theorem inV_nats {p : Nat} {xs : List Nat} : inV (.int (p : Nat)) (xs.map fun n : Nat => V.int n) = decide (p ∈ xs) := by
  unfold inV
  rw [List.any_map]
  induction xs with
  | nil => simp
  | cons x xs ih =>
    rw [List.any_cons, ih]
    by_cases e : p = x
    · subst e; simp [eqV]
    · have e2 : ¬ ((x : Int) = (p : Int)) := by omega
      simp [eqV, e, e2]
theorem flat_nats {xs : List Nat} : (xs.map fun n : Nat => V.int n).all flatV = true := by
  rw [List.all_map]
  exact List.all_eq_true.mpr fun _ _ => rfl
section
variable {K : PySem.W.Frag} {H : Hp} {Q : VK} {a : Addr} {xs : List Nat} {p : Nat}
theorem v_inN (h : SqL K H a (xs.map fun n : Nat => V.int n)) (k : Q (.bl (decide (p ∈ xs))) H) : rIn K false (.int (p : Nat)) (.ref a) H Q := ⟨a, _, rfl, .inl h, rfl, flat_nats, by rw [inV_nats]; exact k⟩
theorem v_niN (h : SqL K H a (xs.map fun n : Nat => V.int n)) (k : Q (.bl (!decide (p ∈ xs))) H) : rIn K true (.int (p : Nat)) (.ref a) H Q := ⟨a, _, rfl, .inl h, rfl, flat_nats, by rw [inV_nats]; exact k⟩
end
/-! dicts of numbers -/
theorem v_dputK {H : Hp} {P : Hp → Prop} {d : Addr} {kvs : List (Key × V)} {i : Int} {v : V} (hd : H d = some (.dK kvs)) (hl : kvs.length < 1000000) (k : P (upd H d (.dK (putK kvs (.inl i) v)))) : kDPut (.ref d) (.int i) v H P := ⟨d, _, rfl, DPut.k (k := .inl i) hd (Nat.lt_trans hl (by decide)), k⟩
theorem v_dgetK {H : Hp} {Q : VK} {d : Addr} {kvs : List (Key × V)} {i : Int} {v : V} (hd : H d = some (.dK kvs)) (e : valV kvs (.inl i) = some v) (q : Q v H) : kDGet (.ref d) (.int i) H Q := ⟨d, v, rfl, by rw [← e]; exact DGet.k (k := .inl i) hd, q⟩
/-! isinstance of an own class -/
structure IsiC (K : PySem.W.Frag) (C : Addr) : Prop where
  ca : PySem.W.findIn K (.ref C) "__class__" = some (some (.builtin "object.__class__"))
  cn : PySem.W.specialIn K (.builtin "object.__class__") "__get__" = some (some (.builtin "getset_descriptor.__get__"))
  ct : PySem.W.takesIn K (.builtin "object.__class__") = some true
  cm : PySem.W.mroIn K C (.type "object") = some true
theorem isi_ins {K : PySem.W.Frag} {H : Hp} {Q : VK} {a C D dx : Addr} {fs : List (Str × V)} {b : Bool} (ho : H a = some (.ins C dx fs)) (cl : Cls K C) (i : IsiC K C) (kt : PySem.W.kitOne K (.ref C) (.ref D) = some b) (k : Q (.bl b) H) : rIsi K [.ref a, .ref D] H Q :=
  v_isi (.own D) (.base (.ins ho cl i.ca i.cn i.ct i.cm)) kt k
end SH

set_option Elab.async false
set_option linter.all false
set_option maxRecDepth 100000
set_option maxHeartbeats 4000000
/-! SHN: C(e, .., k = v): an instance made with keywords -/
namespace SH
open PySem PySem.Spec PyProof.Rows L2
structure CalCK (P : Program) (w : World) (K : PySem.W.Frag) (mg : Str → Option Value) (base : Heap) (CX : CXT) (k : Nat) (x : Str) (C : Addr) (n : Nat) (ks : List Str) (gV : List V → List V → List V) (sp : Sp) : Prop where
  ex : ∃ (f : Addr) (fd : FuncData) (ps : List Str) (g : List Value → List Value → List Value), mg x = some (.ref C) ∧ L2.Mk K C f ∧ KBn K fd ps (n + 1) ks g gV ∧ FnOk P w K mg base CX k f fd ps sp
section
variable {X : Cx} {CX : CXT} {k j n : Nat} {C : Addr} {sp : Sp} {gV : List V → List V → List V} {ks : List Str} {E : XK} {x : Str} {p pos : Pos} {e : Expr} {es : List Expr} {kws : List Keyword} {t tk : TA}
theorem pe_makeKF (c : CalCK X.prog X.w X.K X.mg X.base CX j x C n ks gV sp) (hr : Room k X.A) (hg : Gl X x) (hx : Passes CX X E) (ha : PA X (e :: es) t) (hkw : PK X kws tk) (hk : j + 1 ≤ k := by decide)
    (hall : (backToKw pos (keywordEach kws X.env)).all (·.1.isSome) = true := by rfl) (hks : (backToKw pos (keywordEach kws X.env)).filterMap (·.1) = ks := by rfl)
    (hdb : (x == ("__debug__" : Str)) = false := by decide) (he : starEach (e :: es) X.env = (false, eval e X.env) :: starEach es X.env := by rfl)
    (hpl : ((backTo pos (starEach (e :: es) X.env)).any (·.1) || (backToKw pos (keywordEach kws X.env)).any (·.1.isNone)) = false := by rfl) :
    PE X (.Call (.Name x p) (e :: es) kws pos) (tMakeN C n ks.length sp gV E t tk) := by
  obtain ⟨f, fd, ps, g, h1, h2, h3, h5⟩ := c.ex
  exact pe_makeN h2 h5 (hr.mono hk) hg h1 h3 hx ha hkw hall hks hdb he hpl
def kMakeN (C : Addr) (n m : Nat) (sp : Sp) (gV : List V → List V → List V) (E : XK) (Q : VK) (vs zs : List V) (H2 : Hp) : Prop := vs.length = n ∧ zs.length = m ∧
  ∀ x dx, H2 x = none → H2 dx = none → dx ≠ x → sp (gV (.ref x :: vs) zs) (upd (upd H2 dx (.own x)) x (.ins C dx [])) (fun v H3 => v = .non ∧ Q (.ref x) H3) E
theorem r_makeN {C : Addr} {n m : Nat} {σ : L2.St} {H : Hp} {Q : VK} (h : t σ H fun vs H1 => tk σ H1 fun zs H2 => kMakeN C n m sp gV E Q vs zs H2) : tMakeN C n m sp gV E t tk σ H Q := h
end
/-! a name of one's own that holds a def of the module -/
section
variable {X : Cx} {k j i : Nat} {f : Addr} {sp : Sp} {x : Str} {p pos : Pos} {e : Expr} {es : List Expr} {t : TA}
theorem pe_callLF (c : Held X.prog X.w X.K X.mg X.base j f sp) (hr : Room k X.A) (hN : X.N[i]? = some x) (hv : Vis X.env.scope x) (ha : PA X (e :: es) t) (hk : j ≤ k := by decide)
    (hdb : (x == ("__debug__" : Str)) = false := by decide) (hcd : (x == ("__classdict__" : Str)) = false := by decide)
    (he : starEach (e :: es) X.env = (false, eval e X.env) :: starEach es X.env := by rfl) (hpl : (backTo pos (starEach es X.env)).any (·.1) = false := by rfl) : PE X (.Call (.Name x p) (e :: es) [] pos) (tCallL i f sp [] (fun _ _ _ => False) t) := by
  obtain ⟨fd, ps, F, h1, h2⟩ := c.ex
  exact pe_callL F (hr.mono hk) hN hv h1 h2 .nil (fun _ _ _ _ _ _ _ z => z.elim) ha hdb hcd he hpl
theorem r_callL {σ : L2.St} {H : Hp} {Q : VK} {E : XK} (hs : σ[i]? = some (some (.ref f))) (k : t σ H fun vs H1 => sp (vs ++ []) H1 Q E) : tCallL i f sp [] E t σ H Q := ⟨hs, k⟩
end
end SH

set_option Elab.async false
set_option linter.all false
set_option maxRecDepth 100000
set_option maxHeartbeats 4000000
/-! SHR: C() where C has no __init__ but object's -/
namespace SH
open PySem PySem.Spec PyProof.Rows L2
structure MkP (K : PySem.W.Frag) (C : Addr) : Prop where
  makes : PySem.W.makesIn K C = true
  init : PySem.W.findIn K (.ref C) "__init__" = some (some (.builtin "object.__init__"))
  kp : PySem.W.keepIn K (.ref C) = true
def tMakeP (C : Addr) : TE := fun σ H Q => ∀ x dx, H x = none → H dx = none → dx ≠ x → Q (.ref x) (upd (upd H dx (.own x)) x (.ins C dx []))
theorem pe_makeP {X : Cx} {C : Addr} {x : Str} {p pos : Pos} (M : MkP X.K C) (hg : Gl X x) (hm : X.mg x = some (.ref C)) (hdb : (x == ("__debug__" : Str)) = false := by decide) : PE X (.Call (.Name x p) [] [] pos) (tMakeP C) := by
  refine ⟨fun pins s σ H Q I h => ?_⟩
  refine wpAny_Call_Name_kw (ld_glob I hg hm ?_ hdb)
  refine PySem.W.callWith_K0 I.kIn M.kp ?_
  have hq := h (s.heap.objs.size + 1) s.heap.objs.size (I.hok.fresh (Nat.le_succ _)) (I.hok.fresh (Nat.le_refl _)) (Nat.ne_of_lt (Nat.lt_succ_self _))
  have I2 := Inv.made (C := C) I
  refine wpAny_call (make_map0 I.kIn M.makes M.init (fun self => PySem.W.Looks.of_pure (PySem.W.oi_bind self)) ?_)
  have hx : ((s.heap.push PySem.W.emptyDict).push (PySem.W.instObj C s.heap.objs.size)).get? (s.heap.objs.size + 1) = some (PySem.W.instObj C s.heap.objs.size) := by heap_get
  refine codeAny_call_builtin PySem.W.oi_plain PySem.W.entry_oi (PySem.W.check_slot PySem.W.oi_kind PySem.W.oi_split ?_ (PySem.W.oi_args _) ?_)
  · have LT : PySem.W.Looks (model X.prog X.w) ((s.heap.push PySem.W.emptyDict).push (PySem.W.instObj C s.heap.objs.size)) (typeOf (.ref (s.heap.objs.size + 1))) (.ref C) := fun A Q E s k q => wpAny_typeOf_ref (k _ _ hx) q
    exact LT.andThen (PySem.W.looks_mroIn I2.kIn (mro_obj M.makes))
  · rw [PySem.W.oi_run]
    exact wpAny_pure ⟨rfl, ⟨V.ref (s.heap.objs.size + 1), _, I2, rfl, hq⟩⟩
/-! membership of data in a list of data -/
def rInD (K : PySem.W.Frag) (neg : Bool) : R2 := fun x y H Q => ∃ d ds, Dp K H x d ∧ Dp K H y (.list ds) ∧ d.canLay0 = true ∧ PyData.canLayAll0 ds = true ∧ d.depth ≤ 8 ∧ Q (.bl (if neg then !(ds.any fun e => PyData.eqv e d) else ds.any fun e => PyData.eqv e d)) H
theorem op_inD {X : Cx} (hu : X.A.units + 64 < cLine) : OpR X (compareOp .In) (rInD X.K false) := by
  intro pins s σ H x y v u Q I rx ry h
  obtain ⟨d, ds, hd, he, sd, se, hdp, q⟩ := h
  obtain ⟨as, r1⟩ := Dp.reads I d x v hd rx
  obtain ⟨bs, r2⟩ := Dp.reads I _ y u he ry
  refine SeqAt.in_list_reads r2 r1 se sd ?_ ⟨.bl _, H, I, rfl, q⟩
  have := Nat.min_le_right (PyData.depthAll ds) d.depth
  omega
theorem op_notInD {X : Cx} (hu : X.A.units + 64 < cLine) : OpR X (compareOp .NotIn) (rInD X.K true) := by
  intro pins s σ H x y v u Q I rx ry h
  obtain ⟨d, ds, hd, he, sd, se, hdp, q⟩ := h
  obtain ⟨as, r1⟩ := Dp.reads I d x v hd rx
  obtain ⟨bs, r2⟩ := Dp.reads I _ y u he ry
  refine SeqAt.notIn_list_reads r2 r1 se sd ?_ ⟨.bl _, H, I, rfl, q⟩
  have := Nat.min_le_right (PyData.depthAll ds) d.depth
  omega
section
variable {K : PySem.W.Frag} {H : Hp} {α : Type} [Enc α] {p : Addr} {vs : List V} {xs : List α} {v : V} {x : α} {Q : VK}
theorem v_notInE (h1 : Is K H v x) (h2 : SqL K H p vs) (h3 : IsL K H vs xs) (k : ∀ b : Bool, (b = true ↔ x ∈ xs) → Q (.bl (!b)) H) (hn : Enc.n α ≤ 8 := by decide) : rInD K true v (.ref p) H Q := by
  refine ⟨Enc.d x, xs.map Enc.d, h1, .lst h2 h3, Enc.lay x, Enc.layAll xs, Nat.le_trans (Enc.deep x) hn, ?_⟩
  rw [if_pos rfl]
  refine k _ ?_
  rw [List.any_map, List.any_eq_true]
  constructor
  · rintro ⟨y, hy, e⟩
    have e' : PyData.eqv (Enc.d y) (Enc.d x) = true := e
    rw [Enc.eqv] at e'
    obtain rfl := @of_decide_eq_true _ (Enc.dec y x) e'
    exact hy
  · intro h
    refine ⟨x, h, ?_⟩
    show PyData.eqv (Enc.d x) (Enc.d x) = true
    rw [Enc.eqv]
    exact @decide_eq_true _ (Enc.dec x x) rfl
end
end SH

set_option Elab.async false
set_option linter.all false
set_option maxRecDepth 100000
set_option maxHeartbeats 4000000
/-! SHT: set(xs), xs a list of ints -/
namespace SH
open PySem PySem.Spec PyProof.Rows L2
section
variable {P : Program} {w : World} {A : Around} {E : Value → Shared → Prop} {s : Shared}
abbrev set0O (w : World) : Obj := { cls := .type "set", dict := none, data := .set #[] 0 (.fresh 0 0 (!w.params.followText "set-order")) }
set_option maxHeartbeats 8000000 in
theorem call_set_lst {l : Addr} {items : Array Value} (ns : List Int) {Q : Value → Shared → Prop} (hh : A.handled = none) (hl : s.heap.IsList l items) (hit : IntsAre items.toList ns) (hb : ns.length + 1 < scanBound)
    (k : ∀ (h' : Heap) (tk c : Nat), SetR w h' s.heap.objs.size (fun j => decide (j ∈ ns)) c → c ≤ ns.length → (∀ b o, s.heap.get? b = some o → h'.get? b = some o) → Q (.ref s.heap.objs.size) { s with heap := h', toks := tk }) :
    wpAny (model P w) A (call (.type "set") [.ref l]) Q E s := by
  have hisz : items.size = ns.length := by have q := IntsAre.length hit; rw [Array.length_toList] at q; exact q
  obtain ⟨c, tl, hmro⟩ := F.called_set.mro; have hmade := F.called_set.made; have hsub := F.called_set.sub
  refine wpAny_call (codeAny_of_tree ?_); show wpAny _ _ (callAny (.type "set") _) _ _ _
  refine wpAny_pure ⟨Code.quiet_builtin _ (by decide +kernel), codeAny_builtin F.entry_type_call ?_⟩; rw [Around.under_plain (weight_type_call_type "set" [.ref l] []) rfl]
  have h1 := F.called_set.notType; have h2 := F.called_set.canCreate; have hct := F.typeCall_set_1 (.ref l)
  (repeat (any_goals (first | assumption | wp_step)))
  refine codeAny_mono (code_set_led1 (.ref l) (E := E) (Q₁ := fun obj s1 => obj = .ref s.heap.objs.size ∧ s1 = { s with heap := s.heap.push (set0O w) }) ⟨rfl, rfl⟩) fun r s1 hr => ?_
  match r, hr with
  | .error e, hr => exact hr
  | .ok .next, hr => exact hr.elim
  | .ok .brk, hr => exact hr.elim
  | .ok .cont, hr => exact hr.elim
  | .ok (.ret obj), hr =>
    obtain ⟨e1, e2⟩ := hr; subst e1; subst e2
    have hS : (s.heap.push (set0O w)).get? s.heap.objs.size = some (set0O w) := Heap.get?_push_size _ rfl
    have hT : Shared.TypeIs { s with heap := s.heap.push (set0O w) } (.ref s.heap.objs.size) "set" := ⟨_, hS, rfl⟩
    have hli := F.called_set.init.lookup; have hbi := F.called_set.init.bind (.ref s.heap.objs.size)
    (repeat (any_goals (first | assumption | wp_step)))
    refine codeAny_mono (codeAny_call_builtin (R := wants (fun r s2 => r = .none ∧ ∃ h' tk c, s2 = { s with heap := h', toks := tk } ∧ SetR w h' s.heap.objs.size (fun j => decide (j ∈ ns)) c ∧ c ≤ ns.length ∧ (∀ b o, s.heap.get? b = some o → h'.get? b = some o)) E) F.called_set.init.plain F.entry_set_init (check_set_init_1 hT ?_)) fun r2 s2 hr2 => ?_
    · obtain ⟨⟨ocls, odict, odata, oslots⟩, hol, hcl, nl, hdl⟩ := id hl
      simp only at hcl hdl; subst hcl; subst hdl
      have hol' : (s.heap.push (set0O w)).get? l = some { cls := .type "list", dict := odict, data := .seq items nl, slots := oslots } := Heap.get?_push_of_some _ hol
      have hsls := F.sub_list_set; have hslf := F.sub_list_frozenset
      have hne : (Value.type "list" == Value.type "dict") = false := by decide
      have hl1 : (s.heap.push (set0O w)).IsList l items := ⟨_, hol', rfl, nl, rfl⟩
      unfold Builtin.«set.__init__» noKeywords; unfold Builtin.Frozenset.updateFrom
      generalize hPI : pyIter = PI
      wp_walk; subst hPI
      refine wpAny_pyIter_list hl1 ?_; refine wpAny_bind (wpAny_runValue ?_)
      have hlS : l < s.heap.objs.size := Heap.lt_size hol; have hh3 : A.in1.in1.in1.handled = none := by simp [hh]
      have hz1 : (s.heap.push (set0O w)).objs.size = s.heap.objs.size + 1 := Heap.size_push ..
      have hneI : (s.heap.push (set0O w)).objs.size ≠ l := by rw [hz1]; exact Nat.ne_of_gt (Nat.lt_succ_of_lt hlS)
      have hSf : s.heap.objs.size ∉ [(s.heap.push (set0O w)).objs.size, l] := by rw [hz1]; simp only [List.mem_cons, List.not_mem_nil, or_false, not_or]; exact ⟨Nat.ne_of_lt (Nat.lt_succ_self _), Nat.ne_of_gt hlS⟩
      have hval : ∀ (i : Nat) (v : Value), items[i]? = some v → ∃ k t, ns[i]? = some k ∧ v = .int k t := fun i v hv => by
        have hi : i < ns.length := by have := (Array.getElem?_eq_some_iff.mp hv).1; omega
        obtain ⟨t, e⟩ := PyProof.Rows.IntsAre.int_at hit i v (by rw [Array.getElem?_toList]; exact hv)
        exact ⟨ns[i], t, List.getElem?_eq_getElem hi, by rw [e, List.getD_eq_getElem?_getD, List.getElem?_eq_getElem hi] <;> rfl⟩
      refine set_update_ints ((Walks.list (prog := P) (w := w) hh3 _ l hneI.symm items).toS) s.heap.objs.size hSf ns hisz hb hval (items.size - 0) 0 _ (by omega) (Nat.zero_le _) ⟨⟨_, Heap.get?_push_size _ rfl, rfl, rfl⟩, hl1.push _⟩ ⟨0, Nat.le_refl 0, setR_new_at (Heap.get?_push_of_some _ hS)⟩ ?_
      intro s' c' hm hc' hS'
      obtain ⟨h', g2, d', tk', os'⟩ := s'
      obtain rfl : g2 = s.gens := hm.gens
      obtain rfl : d' = s.drawn := hm.drawn
      obtain rfl : os' = s.os := hm.os
      show wpAny _ _ _ _ _ _; refine wpAny_pure ?_; show wpAny _ _ (ret Value.none) _ _ _
      rw [hisz] at hc'
      refine wpAny_pure ⟨rfl, h', tk', c', rfl, hS', hc', fun b o e => hm.heap b o ?_ (Heap.get?_push_of_some _ (Heap.get?_push_of_some _ e))⟩
      have hb0 : b < s.heap.objs.size := Heap.lt_size e
      rw [hz1]; simp only [List.mem_cons, List.not_mem_nil, or_false, not_or]; exact ⟨Nat.ne_of_lt hb0, Nat.ne_of_lt (Nat.lt_succ_of_lt hb0)⟩
    · match r2, hr2 with
      | .error e, hr2 => exact hr2
      | .ok .next, hr2 => exact hr2.elim
      | .ok .brk, hr2 => exact hr2.elim
      | .ok .cont, hr2 => exact hr2.elim
      | .ok (.ret r), hr2 =>
        obtain ⟨e1, h', tk, c', e2, hS', hc', hk'⟩ := hr2
        subst e1; subst e2
        (repeat (any_goals (first | assumption | wp_step)))
        exact k _ _ _ hS' hc' hk'
end
/-- set(xs) -/
def rSetL (K : PySem.W.Frag) (w : World) : List V → Hp → VK → Prop := fun vs H Q => ∃ (a : Addr) (ns : List Int), vs = [V.ref a] ∧ SqL K H a (ns.map V.int) ∧ ns.length ≤ 1000 ∧
  ∀ (p : Addr) (c : Nat), H p = none → c ≤ ns.length → Q (.ref p) (upd H p (SetO w p (fun j => decide (j ∈ ns)) c))
theorem cr_setL {X : Cx} (hc : X.calm = true) : CallR X (.type "set") (rSetL X.K X.w) := by
  intro pins s σ H vs us Q I r h
  obtain ⟨a, ns, rfl, hq, hl, q⟩ := h
  rw [Vals.ref1 r]
  obtain ⟨its, rv, pt, hz⟩ := I.list hq
  have hi : IntsAre its.toArray.toList ns := ints_of_vals rv
  refine call_set_lst ns (I.ok.hd hc) pt.isList hi (by unfold scanBound; omega) fun h' tk c R1 hcn k => ?_
  exact ⟨.ref _, upd H s.heap.objs.size (SetO X.w s.heap.objs.size (fun j => decide (j ∈ ns)) c), I.laid (t' := tk) k (Nat.le_refl _) (setO_new R1), rfl, q _ c (I.hok.fresh (Nat.le_refl _)) hcn⟩
/-- sorted(set(xs)), xs ints -/
def kSortSet (K : PySem.W.Frag) (w : World) (Q : VK) : VK := fun v H1 => ∃ (a : Addr) (ns : List Int), v = .ref a ∧ SqL K H1 a (ns.map V.int) ∧ ns.length < 64 ∧
  ∀ (ms : List Int) (p q : Addr) (o : HO), ms.Pairwise (· < ·) → (∀ k, k ∈ ms ↔ k ∈ ns) → ms.length ≤ ns.length → H1 p = none → (upd H1 p o) q = none → Q (.ref q) (upd (upd H1 p o) q (.lst (ms.map V.int)))
end SH

set_option Elab.async false
set_option linter.all false
set_option maxRecDepth 100000
set_option maxHeartbeats 4000000
/-! SHX: defs that raise, try, what is caught -/
namespace SH
open PySem PySem.Spec PyProof.Rows L2
section
variable {X : Cx} {CX : CXT} {k j : Nat} {sp : Sp} {dvs : List V} {E : L2.St → XK} {x : Str} {p pos : Pos} {e : Expr} {es : List Expr} {t : TA}
/-- a call in a try: what is raised is wished for at the slots -/
theorem pe_callX (c : Cal X.prog X.w X.K X.mg X.base CX j x dvs sp) (hr : Room k X.A) (hg : Gl X x) (hx : ∀ σ, PassesAt CX X σ (E σ)) (ha : PA X (e :: es) t) (hk : j ≤ k := by decide)
    (hdb : (x == ("__debug__" : Str)) = false := by decide) (he : starEach (e :: es) X.env = (false, eval e X.env) :: starEach es X.env := by rfl) (hpl : (backTo pos (starEach es X.env)).any (·.1) = false := by rfl) :
    PE X (.Call (.Name x p) (e :: es) [] pos) (tCallSD sp dvs E t) := by
  obtain ⟨f, fd, ps, ds, h1, h2, h3, h4, h5⟩ := c.ex
  exact pe_callSD h5 (hr.mono hk) hg h1 h2 h3 h4 hx ha hdb he hpl
theorem r_callX {σ : L2.St} {H : Hp} {Q : VK} (h : t σ H fun vs H1 => sp (vs ++ dvs) H1 Q (E σ)) : tCallSD sp dvs E t σ H Q := h
/-- isinstance of what a suite holds, an error without a dict -/
def rIsX (K : PySem.W.Frag) (cls : Value) (d : Option Addr) (a : Addr) : List V → Hp → VK → Prop := fun xs H Q => ∃ D, cls = .ref D ∧ d = none ∧ ExcC K D ∧ rIsE K D a xs H Q
theorem call_isX {a : Addr} {oe : Obj} {cls : Value} {d : Option Addr} {pn : List (Addr × Obj)} (hz : Zc cls d oe) (hf : ∃ vs, oe.data = .fields vs) : CallR (X.suite a ((a, oe) :: pn)) (.builtin "isinstance") (rIsX X.K cls d a) := by
  intro pins s σ H xs us Q I r h
  obtain ⟨D, rfl, rfl, C, h⟩ := h
  exact call_isE C hz hf pins s σ H xs us Q I r h
theorem v_isX {K : PySem.W.Frag} {D C a : Addr} {H : Hp} {Q : VK} {b : Bool} (hc : ExcC K D) (h : PySem.W.kitOne K (.ref D) (.ref C) = some b) (k : Q (.bl b) H) : rIsX K (.ref D) none a [.ref a, .ref C] H Q :=
  ⟨D, rfl, rfl, hc, .ref C, .ref C, b, rfl, fun _ r => r, h, k⟩
theorem v_isXT {K : PySem.W.Frag} {D a : Addr} {n : String} {H : Hp} {Q : VK} {b : Bool} (hc : ExcC K D) (h : PySem.W.kitOne K (.ref D) (.type n) = some b) (k : Q (.bl b) H) : rIsX K (.ref D) none a [.ref a, .ty n] H Q :=
  ⟨D, rfl, rfl, hc, .ty n, .type n, b, rfl, fun _ r => r, h, k⟩
/-- what an except clause asks: the class is caught -/
theorem r_catch {K : PySem.W.Frag} {c cls : Value} {d : Option Addr} {i : Nat} {ts : Addr → Value → Option Addr → TS} {Wo : WX} {D : Ends} {σ : L2.St} {H : Hp} (h : PySem.W.exmOne K cls c = some true)
    (k : ∀ a, H a = none → ts a cls d { nx := fun σ' H' => D.nx (σ'.set i none) H', rt := D.rt, bk := fun σ' H' => D.bk (σ'.set i none) H', ct := fun σ' H' => D.ct (σ'.set i none) H' } (σ.set i (some (.ref a))) H) : wAs K c i ts Wo D cls d σ H :=
  ⟨true, h, fun _ => k, fun z => by cases z⟩
end
end SH

set_option Elab.async false
set_option linter.all false
set_option maxRecDepth 100000
set_option maxHeartbeats 4000000
/-! SHS: texts -/
namespace SH
open PySem PySem.Spec PyProof.Rows L2
theorem v_isiSS {K : PySem.W.Frag} {H : Hp} {Q : VK} {s : Str} (k : Q (.bl true) H) : rIsi K [.str s, .ty "str"] H Q := ⟨.str s, .ty "str", .type "str", .type "str", true, rfl, .ty _, .base (.str s), by rfl, k⟩
theorem ty_str {K : PySem.W.Frag} {H : Hp} {s : Str} : tyV K "str" (.str s) H := rfl
/-! zip of two tuples -/
section
variable {K : PySem.W.Frag} {a b : Addr} {xs ys : List V}
theorem walk_zipT {n : Nat} (hn : n = min xs.length ys.length) : Walk (RZ.ItzT K a b) n (fun H => SqT K H a xs ∧ SqT K H b ys) (YPair (fun i => xs[i]?) (fun i => ys[i]?)) := by
  subst hn
  refine ⟨fun i _ hi q => ?_, fun _ q => ⟨xs, ys, q.1, q.2, by omega⟩, fun i H v H' _ q y => ?_⟩
  · have h1 : i < xs.length := by omega
    have h2 : i < ys.length := by omega
    exact ⟨xs, ys, xs[i], ys[i], q.1, q.2, by simp [h1], by simp [h2]⟩
  · obtain ⟨T, x, z, h1, h2, h3, h4, h5⟩ := y
    exact ⟨T, x, z, h1, h2, h3, h4 xs q.1, h5 ys q.2⟩
def kZipA (K : PySem.W.Frag) (R : It → Hp → Prop) : List V → Hp → Prop := fun vs H1 => ∃ a b xs ys, vs = [.ref a, .ref b] ∧ ((SqL K H1 a xs ∧ SqL K H1 b ys ∧ R (Itz K a b) H1) ∨ (SqT K H1 a xs ∧ SqT K H1 b ys ∧ R (RZ.ItzT K a b) H1))
theorem r_iZipA {as : TA} {σ : L2.St} {H : Hp} {R : It → Hp → Prop} (h : as σ H (kZipA K R)) : RZ.iZipA K as σ H R := h
theorem v_zipAT {H : Hp} {R : It → Hp → Prop} (h1 : SqT K H a xs) (h2 : SqT K H b ys) (k : R (RZ.ItzT K a b) H) : kZipA K R [.ref a, .ref b] H := ⟨a, b, xs, ys, rfl, .inr ⟨h1, h2, k⟩⟩
end
end SH

set_option Elab.async false
set_option linter.all false
set_option maxRecDepth 100000
set_option maxHeartbeats 4000000
/-! SHY: exceptions with fields: made by an own __init__, raised, caught, read; methods and makes that raise in a try -/
namespace SH
open PySem PySem.Spec PyProof.Rows L2
/-- the exception class at C, by its name x, made by an __init__ that keeps sp -/
structure CalE (P : Program) (w : World) (K : PySem.W.Frag) (mg : Str → Option Value) (base : Heap) (k : Nat) (x : Str) (C : Addr) (sp : Sp) : Prop where
  ox : OexC K C
  ex : ∃ (f : Addr) (fd : FuncData) (ps : List Str), mg x = some (.ref C) ∧ PySem.W.findIn K (.ref C) "__init__" = some (some (.ref f)) ∧ PySem.W.typeIn K (.ref f) = some (.type "function") ∧ Binds K fd ps [] ∧ FnOk P w K mg base CX0 k f fd ps sp
section
variable {X : Cx} {CX : CXT} {k j : Nat} {C : Addr} {sp : Sp} {dvs : List V} {E : L2.St → XK} {x m : Str} {p pos apos : Pos} {e o : Expr} {es : List Expr} {ta : TE} {t : TA}
theorem pmk_oexF (c : CalE X.prog X.w X.K X.mg X.base j x C sp) (hr : Room k X.A) (hg : Gl X x) (ha : PA X (e :: es) t) (hk : j + 1 ≤ k := by decide)
    (hdb : (x == ("__debug__" : Str)) = false := by decide) (he : starEach (e :: es) X.env = (false, eval e X.env) :: starEach es X.env := by rfl) (hpl : (backTo pos (starEach es X.env)).any (·.1) = false := by rfl) :
    PMk X (.Call (.Name x p) (e :: es) [] pos) (tMkO C sp [] t) := by
  obtain ⟨f, fd, ps, h1, h2, h3, h4, h5⟩ := c.ex
  exact pmk_oex c.ox h2 h3 h5 (hr.mono hk) h4 .nil pass0 hg h1 ha hdb he hpl
def tMethSD (C : Addr) (m : Str) (sp : Sp) (dvs : List V) (E : L2.St → XK) (ta : TE) (t : TA) : TE := fun σ H Q => ta σ H fun x H1 => ∃ a dx fs, x = .ref a ∧ H1 a = some (.ins C dx fs) ∧ fs.lookup m = none ∧ t σ H1 fun vs H2 => sp (x :: (vs ++ dvs)) H2 Q (E σ)
theorem pe_methX {pl : Sem Bool} (he : PE X o ta) (c : CalM X.prog X.w X.K X.mg X.base CX j C m dvs sp) (hr : Room k X.A) (hx : ∀ σ, PassesAt CX X σ (E σ)) (ha : PA X (e :: es) t) (hk : j ≤ k := by decide)
    (hst : starEach (e :: es) X.env = (false, eval e X.env) :: starEach es X.env := by rfl) (hpl : (backTo pos (starEach es X.env)).any (·.1) = false := by rfl)
    (ht : eval (.Call (.Attribute o m apos) (e :: es) [] pos) X.env = (do
      let ov ← eval o X.env; standAt apos.atName
      let (f, first) ← holding [ov] (getMethod ov m pl); callWith pos f first (backTo pos (starEach (e :: es) X.env)) (backToKw pos (keywordEach [] X.env))) := by rfl) :
    PE X (.Call (.Attribute o m apos) (e :: es) [] pos) (tMethSD C m sp dvs E ta t) := by
  obtain ⟨f, fd, ps, ds, h1, h3, h4, h5⟩ := c.ex
  refine ⟨fun pins s σ H Q I h => PySem.W.methodCall_KW (pl := pl) (thn (he.run pins s σ H _ I h) fun u s1 ⟨x, H1, I1, rx, a, dx, fs, ex, ea, l, q⟩ => ?_) ht⟩
  subst ex; obtain rfl : u = Value.ref a := rx
  refine getmeth_ok I1 ea c.cl h1 l (PySem.W.callWith_K (first := [.ref a]) (h₀ := X.base) I.ok.mod.kin h1.kp (thn (ha.run pos pins s1 σ H1 _ I1 q) fun us s2 ⟨vs, H2, I2, r, q2⟩ => ⟨I2.kIn, ?_⟩) hst hpl)
  exact run_fnSD (us := .ref a :: us) (vs := .ref a :: vs) h5 (hr.mono hk) h3 h4 (hx σ) I2 (.cons rfl r) q2
theorem pe_methX0 {pl : Sem Bool} (he : PE X o ta) (c : CalM X.prog X.w X.K X.mg X.base CX j C m dvs sp) (hr : Room k X.A) (hx : ∀ σ, PassesAt CX X σ (E σ)) (hk : j ≤ k := by decide)
    (ht : eval (.Call (.Attribute o m apos) [] [] pos) X.env = (do
      let ov ← eval o X.env; standAt apos.atName
      let (f, first) ← holding [ov] (getMethod ov m pl); callWith pos f first (backTo pos (starEach [] X.env)) (backToKw pos (keywordEach [] X.env))) := by rfl) :
    PE X (.Call (.Attribute o m apos) [] [] pos) (tMethSD C m sp dvs E ta tNil) := by
  obtain ⟨f, fd, ps, ds, h1, h3, h4, h5⟩ := c.ex
  refine ⟨fun pins s σ H Q I h => PySem.W.methodCall_KW (pl := pl) (thn (he.run pins s σ H _ I h) fun u s1 ⟨x, H1, I1, rx, a, dx, fs, ex, ea, l, q⟩ => ?_) ht⟩
  subst ex; obtain rfl : u = Value.ref a := rx
  exact getmeth_ok I1 ea c.cl h1 l (PySem.W.callWith_K0 (first := [.ref a]) I1.kIn h1.kp (run_fnSD (us := [.ref a]) (vs := [.ref a]) h5 (hr.mono hk) h3 h4 (hx σ) I1 (.cons rfl .nil) q))
def tMakeSD (C : Addr) (sp : Sp) (dvs : List V) (E : L2.St → XK) (t : TA) : TE := fun σ H Q => t σ H fun vs H1 => ∀ x dx, H1 x = none → H1 dx = none → dx ≠ x → sp (.ref x :: (vs ++ dvs)) (upd (upd H1 dx (.own x)) x (.ins C dx [])) (fun v H2 => v = .non ∧ Q (.ref x) H2) (E σ)
theorem run_makeSD {f : Addr} {fd : FuncData} {ps : List Str} {ds : List Value} {pins : List (Addr × Obj)} {σ : L2.St} {H : Hp} {s : Shared} {Q : VK} {us : List Value} {vs : List V} (M : L2.Mk X.K C f) (F : FnOk X.prog X.w X.K X.mg X.base CX k f fd ps sp) (hr : Room (k + 1) X.A) (hb : Binds X.K fd ps ds) (hd : Vals dvs ds)
    (hx : PassesAt CX X σ (E σ)) (I : Inv X pins σ H s) (r : Vals vs us) (h : ∀ x dx, H x = none → H dx = none → dx ≠ x → sp (.ref x :: (vs ++ dvs)) (upd (upd H dx (.own x)) x (.ins C dx [])) (fun v H2 => v = .non ∧ Q (.ref x) H2) (E σ)) :
    wpAny (model X.prog X.w) X.A (call (.ref C) us) (EP X pins σ Q) X.xe s := by
  have hq := h (s.heap.objs.size + 1) s.heap.objs.size (I.hok.fresh (Nat.le_succ _)) (I.hok.fresh (Nat.le_refl _)) (Nat.ne_of_lt (Nat.lt_succ_self _)); have I2 := Inv.made (C := C) I
  have r2 : Vals (V.ref (s.heap.objs.size + 1) :: (vs ++ dvs)) (Value.ref (s.heap.objs.size + 1) :: (us ++ ds)) := .cons rfl (r.append hd); have hl : (Value.ref (s.heap.objs.size + 1) :: us ++ ds).length = ps.length := by have e := r2.length; rw [F.len _ _ _ _ hq] at e; exact e.symm
  refine wpAny_call (make_map (f := f) I.kIn M.makes M.init (beq_iff_eq.mp M.fn) (codeAny_mono (F.run _ X.stack _ _ ⟨Value.ref (s.heap.objs.size + 1) :: us, []⟩ (Value.ref (s.heap.objs.size + 1) :: (us ++ ds)) _ _ (E σ) (hr.make C us []) (I2.env0.make C us []) (hb _ (Value.ref (s.heap.objs.size + 1) :: us) I2.kIn hl) r2 hq) fun r s' hq' => ?_))
  match r, hq' with
  | .error e, hq' => exact hx pins _ _ e s' I2 hq'
  | .ok (.ret u), hq' => obtain ⟨v, H', I3, rv, ev, q3⟩ := I2.after hq'; subst ev; exact ⟨rv, ⟨V.ref (s.heap.objs.size + 1), H', I3, rfl, q3⟩⟩
  | .ok .next, hq' => exact False.elim hq'
  | .ok .brk, hq' => exact False.elim hq'
  | .ok .cont, hq' => exact False.elim hq'
theorem pe_makeX (c : CalC X.prog X.w X.K X.mg X.base CX j x C dvs sp) (hr : Room k X.A) (hg : Gl X x) (hx : ∀ σ, PassesAt CX X σ (E σ)) (ha : PA X (e :: es) t) (hk : j + 1 ≤ k := by decide)
    (hdb : (x == ("__debug__" : Str)) = false := by decide) (he : starEach (e :: es) X.env = (false, eval e X.env) :: starEach es X.env := by rfl) (hpl : (backTo pos (starEach es X.env)).any (·.1) = false := by rfl) :
    PE X (.Call (.Name x p) (e :: es) [] pos) (tMakeSD C sp dvs E t) := by
  obtain ⟨f, fd, ps, ds, h1, h2, h3, h4, h5⟩ := c.ex
  refine ⟨fun pins s σ H Q I h => wpAny_Call_Name_kw (ld_glob I hg h1 (PySem.W.callWith_K (h₀ := X.base) I.ok.mod.kin h2.kp (thn (ha.run pos pins s σ H _ I h) fun us s1 ⟨vs, H1, I1, r, q⟩ => ⟨I1.kIn, ?_⟩) he hpl) hdb)⟩
  exact run_makeSD h2 h5 (hr.mono hk) h3 h4 (hx σ) I1 r q
end
section
variable {K : PySem.W.Frag} {σ : L2.St} {H : Hp} {Q : VK} {C : Addr} {f : Str} {v : V}
/-- what is asked of the own __init__ of a class with one field -/
def sp1 (f : Str) (C : Addr) : Sp := fun vs H Q _ => ∃ (a : Addr) (v : V), vs = [.ref a, v] ∧ H a = some (exo a C none) ∧ ∀ dx, H dx = none → dx ≠ a → Q .non (upd (upd H dx (exd dx [(f, v)])) a (exo a C (some dx)))
def kMkO (C : Addr) (sp : Sp) (dvs : List V) (R : XK) : List V → Hp → Prop := fun vs H1 => vs.length ≤ 1000 ∧ ∀ a, H1 a = none → sp (.ref a :: (vs ++ dvs)) (upd H1 a (exo a C none))
  (fun v H2 => v = .non ∧ ∃ (d : Addr) (fs : List (Str × V)), H2 a = some (exo a C (some d)) ∧ H2 d = some (exd d fs) ∧ H1 d = none ∧ R (.ref C) (some d) (upd (del H2 a) d (.xd fs))) (fun _ _ _ => False)
theorem r_mkO {sp : Sp} {dvs : List V} {t : TA} {R : XK} (h : t σ H (kMkO C sp dvs R)) : tMkO C sp dvs t σ H R := h
theorem v_raise1 {R : XK} (q : ∀ d, H d = none → R (.ref C) (some d) (upd H d (.xd [(f, v)]))) : kMkO C (sp1 f C) [] R [v] H := by
  refine ⟨by simp, fun a ha => ⟨a, v, rfl, upd_same, fun dx hdx hne => ⟨rfl, dx, _, upd_same, by rw [upd_ne hne]; exact upd_same, (upd_free hdx).1, ?_⟩⟩⟩
  have hd := (upd_free hdx).1
  have e : upd (del (upd (upd (upd H a (exo a C none)) dx (exd dx [(f, v)])) a (exo a C (some dx))) a) dx (.xd [(f, v)]) = upd H dx (.xd [(f, v)]) := by
    funext b
    by_cases c1 : b = dx
    · rw [c1, upd_same, upd_same]
    · rw [upd_ne c1, upd_ne c1]
      by_cases c2 : b = a
      · rw [c2, del_same, ha]
      · rw [del_ne c2, upd_ne c2, upd_ne c1, upd_ne c2]
  rw [e]
  exact q dx hd
end
section
variable {σ : L2.St} {H : Hp} {Q : VK} {C a dx : Addr} {m : Str} {sp : Sp} {dvs : List V} {ta : TE} {t : TA} {fs : List (Str × V)} {vs : List V}
def kMethX (C : Addr) (m : Str) (sp : Sp) (dvs : List V) (E : XK) (t : TA) (σ : L2.St) (Q : VK) : VK := fun x H1 => ∃ a dx fs, x = .ref a ∧ H1 a = some (.ins C dx fs) ∧ fs.lookup m = none ∧ t σ H1 fun vs H2 => sp (x :: (vs ++ dvs)) H2 Q E
theorem r_methX {E : L2.St → XK} (h : ta σ H (kMethX C m sp dvs (E σ) t σ Q)) : tMethSD C m sp dvs E ta t σ H Q := h
theorem v_methX {E : XK} (h : H a = some (.ins C dx fs)) (l : fs.lookup m = none) (k : t σ H fun vs H2 => sp (.ref a :: (vs ++ dvs)) H2 Q E) : kMethX C m sp dvs E t σ Q (.ref a) H := ⟨a, dx, fs, rfl, h, l, k⟩
def kMakeX (C : Addr) (sp : Sp) (dvs : List V) (E : XK) (Q : VK) : List V → Hp → Prop := fun vs H1 => ∀ x dx, H1 x = none → H1 dx = none → dx ≠ x → sp (.ref x :: (vs ++ dvs)) (upd (upd H1 dx (.own x)) x (.ins C dx [])) (fun v H2 => v = .non ∧ Q (.ref x) H2) E
theorem r_makeX {E : L2.St → XK} (h : t σ H (kMakeX C sp dvs (E σ) Q)) : tMakeSD C sp dvs E t σ H Q := h
theorem v_makeX {E : XK} (k : ∀ x dx, H x = none → H dx = none → dx ≠ x → sp (.ref x :: (vs ++ dvs)) (upd (upd H dx (.own x)) x (.ins C dx [])) (fun v H2 => v = .non ∧ Q (.ref x) H2) E) : kMakeX C sp dvs E Q vs H := k
end
/-! isinstance of what a suite holds -/
def rIsY (K : PySem.W.Frag) (cls : Value) (d : Option Addr) (a : Addr) : List V → Hp → VK → Prop := fun xs H Q => ∃ D, cls = .ref D ∧ (∀ dd, d = some dd → ∃ fs, H dd = some (.xd fs)) ∧ ExcC K D ∧ rIsE K D a xs H Q
theorem call_isY {X : Cx} {a : Addr} {oe : Obj} {cls : Value} {d : Option Addr} {pn : List (Addr × Obj)} (hz : Zc cls d oe) (hf : ∃ vs, oe.data = .fields vs) : CallR (X.suite a ((a, oe) :: pn)) (.builtin "isinstance") (rIsY X.K cls d a) := by
  intro pins s σ H xs us Q I r h
  obtain ⟨D, rfl, hdd, C, c, cv, b, rfl, hcv, e, q⟩ := h
  cases r with
  | cons rx rr =>
    cases rr with
    | cons rt rr =>
      cases rr; cases rx
      have ec := hcv _ rt; subst ec
      obtain ⟨hget, _⟩ := I.pin (a, oe) (List.mem_append.mpr (.inl List.mem_cons_self)); obtain ⟨vs, hv⟩ := hf
      have hcl : (PySem.W.clsIn X.K D).isSome = true := by
        obtain ⟨cd, hc, _⟩ := PySem.W.any_some C.hd
        rw [hc]; rfl
      have J : ∃ od, PySem.W.InstAt s.heap a oe D od := by
        cases d with
        | none => exact ⟨none, hget, hz.1, by unfold PySem.W.notCls; rw [hv] <;> rfl, by rw [hz.2]; trivial⟩
        | some dd =>
          obtain ⟨fs, hfs⟩ := hdd dd rfl
          obtain ⟨mA, hns, _⟩ := (show ObjOk X.prog X.w H s.heap dd (.xd fs) from I.hok dd _ hfs)
          obtain ⟨od, ho, hl⟩ := lookIn_ns hns
          exact ⟨some od, hget, hz.1, by unfold PySem.W.notCls; rw [hv] <;> rfl, by rw [hz.2]; exact ho⟩
      obtain ⟨od, J⟩ := J
      exact PySem.W.kia_one (PySem.W.kitx_exc (od := od) hcl C.hg C.hk C.hs C.ha C.hn C.ht C.hm) I.kIn J e (fun z => nomatch z) fun tk => ⟨.bl b, H, I.kept (t' := tk) fun _ _ z => z, rfl, q⟩
section
variable {K : PySem.W.Frag} {D C a : Addr} {n : String} {H : Hp} {Q : VK} {b : Bool} {σ : L2.St}
theorem v_isY {d : Option Addr} (hd : ∀ dd, d = some dd → ∃ fs, H dd = some (.xd fs)) (hc : ExcC K D) (h : PySem.W.kitOne K (.ref D) (.ref C) = some b) (k : Q (.bl b) H) : rIsY K (.ref D) d a [.ref a, .ref C] H Q := ⟨D, rfl, hd, hc, .ref C, .ref C, b, rfl, fun _ r => r, h, k⟩
theorem v_isYT {d : Option Addr} (hd : ∀ dd, d = some dd → ∃ fs, H dd = some (.xd fs)) (hc : ExcC K D) (h : PySem.W.kitOne K (.ref D) (.type n) = some b) (k : Q (.bl b) H) : rIsY K (.ref D) d a [.ref a, .ty n] H Q := ⟨D, rfl, hd, hc, .ty n, .type n, b, rfl, fun _ r => r, h, k⟩
theorem xfOf (c : ExcC K D) : XfC K D := ⟨c.hg, c.hk, c.hs, c.hd⟩
theorem nodict : ∀ dd : Addr, (none : Option Addr) = some dd → ∃ fs, H dd = some (.xd fs) := fun _ z => nomatch z
theorem adict {d : Addr} {fs : List (Str × V)} (h : H d = some (.xd fs)) : ∀ dd : Addr, some d = some dd → ∃ fs, H dd = some (.xd fs) := fun _ z => by cases z; exact ⟨fs, h⟩
/-- e.f in a suite -/
def kXf (a : Addr) (cls : Value) (d : Option Addr) (C : Addr) (f : Str) (Q : VK) : VK := fun x H1 => x = .ref a ∧ cls = .ref C ∧ ∃ (dd : Addr) (fs : List (Str × V)) (v : V), d = some dd ∧ H1 dd = some (.xd fs) ∧ fs.lookup f = some v ∧ Q v H1
theorem r_xf {cls : Value} {d : Option Addr} {f : Str} {te : TE} (h : te σ H (kXf a cls d C f Q)) : tXf a cls d C f te σ H Q := h
theorem v_xf {d : Addr} {f : Str} {fs : List (Str × V)} {v : V} (h : H d = some (.xd fs)) (l : fs.lookup f = some v) (k : Q v H) : kXf a (.ref C) (some d) C f Q (.ref a) H := ⟨rfl, rfl, d, fs, v, rfl, h, l, k⟩
/-- self.f = e in an exception's __init__ -/
def kOst (K : PySem.W.Frag) (f : Str) (y : V) (R : Hp → Prop) : VK := fun x H2 => ∃ a C : Addr, x = .ref a ∧ OexC K C ∧ PySem.W.findIn K (.ref C) f = some none ∧
  ((H2 a = some (exo a C none) ∧ ∀ dx, H2 dx = none → dx ≠ a → R (upd (upd H2 dx (exd dx [(f, y)])) a (exo a C (some dx)))) ∨ ∃ (dx : Addr) (fs : List (Str × V)), H2 a = some (exo a C (some dx)) ∧ H2 dx = some (exd dx fs) ∧ fs.length ≤ 900 ∧ R (upd H2 dx (exd dx ((f, y) :: fs))))
theorem r_ost {D : Ends} {f : Str} {to te : TE} (h : te σ H fun y H1 => to σ H1 (kOst K f y (D.nx σ))) : tOst K f to te D σ H := h
end
end SH

set_option Elab.async false
set_option linter.all false
set_option maxRecDepth 100000
set_option maxHeartbeats 4000000
/-! SHZ: the same for exceptions whose context is None (L2N), and defs called within an except suite -/
namespace SH
open PySem PySem.Spec PyProof.Rows L2
section
variable {P : Program} {w : World} {K : PySem.W.Frag} {mg : Str → Option Value} {base : Heap}
theorem okN {x qual : Str} {st : Stmt} {f : Addr} {fd : FuncData} {N ps : List Str} {k : Nat} {sp : Sp} (F : Fun K x qual st f fd) (S : FnScope N ps (defScope st)) (len : ∀ vs H Q E, sp vs H Q E → vs.length = ps.length)
    (hb : ∀ (cdv : Value) (A : Around) (outer : List Env) (s : Shared) (H : Hp) (vs : List V) (Q : VK) (E : XK), Room k (A.deeper (envOfC qual (defScope st) s.heap.objs.size f cdv)) → sp vs H Q E →
      ∃ t, PSs (cxOf (L2N.CX P w) P w K mg base N qual (defScope st) f cdv A outer s H E) (defBody st) t ∧ t { nx := fun _ H' => Q .non H', rt := Q } (start N vs) H) : FnOk P w K mg base (L2N.CX P w) (k + 1) f fd ps sp := by
  obtain ⟨oc, od, kV, doc, pm, an, cdv, ct, osl, rfl, lk, hcd⟩ := F.ex
  exact fn_of lk hcd S len fun A outer s H vs Q E hr h => hb cdv A outer s H vs Q E hr h
theorem okND {x qual : Str} {st : Stmt} {dvs : List V} {f : Addr} {fd : FuncData} {N ps : List Str} {k : Nat} {sp : Sp} (F : FunD K x qual (defArgs st) (defBody st) (defScope st) dvs [] f fd) (S : FnScope N ps (defScope st)) (len : ∀ vs H Q E, sp vs H Q E → vs.length = ps.length)
    (hb : ∀ (cdv : Value) (A : Around) (outer : List Env) (s : Shared) (H : Hp) (vs : List V) (Q : VK) (E : XK), Room k (A.deeper (envOfC qual (defScope st) s.heap.objs.size f cdv)) → sp vs H Q E →
      ∃ t, PSs (cxOf (L2N.CX P w) P w K mg base N qual (defScope st) f cdv A outer s H E) (defBody st) t ∧ t { nx := fun _ H' => Q .non H', rt := Q } (start N vs) H) : FnOk P w K mg base (L2N.CX P w) (k + 1) f fd ps sp :=
  F.ok S len hb
theorem passLN {X : Cx} : Passes (L2N.CX X.prog X.w) X E0 := fun _ _ _ _ _ _ _ h => by
  obtain ⟨_, _, _, _, _, _, _, _, _, _, _, _, z⟩ := h
  exact z.elim
theorem takes0N {X : Cx} : L2N.Takes X (fun _ _ _ _ => False) := fun _ _ x => by
  obtain ⟨_, _, _, _, _, _, _, _, _, _, _, _, _, _, _, _, z⟩ := x
  exact z.elim
/-- a def that is called while an exception is handled; it raises nothing -/
theorem okH {x qual : Str} {st : Stmt} {f : Addr} {fd : FuncData} {N ps : List Str} {k : Nat} {sp : Sp} (F : Fun K x qual st f fd) (S : FnScope N ps (defScope st)) (len : ∀ vs H Q E, sp vs H Q E → vs.length = ps.length)
    (hb : ∀ (cdv : Value) (A : Around) (outer : List Env) (s : Shared) (H : Hp) (vs : List V) (Q : VK) (E : XK) (p : Addr × Obj), L2H.Hot1 A p → L2H.RoomH k (A.deeper (envOfC qual (defScope st) s.heap.objs.size f cdv)) → sp vs H Q E →
      ∃ t, PSs (L2H.cxH CX0 P w K mg base N qual (defScope st) f cdv A outer s H E p) (defBody st) t ∧ t { nx := fun _ H' => Q .non H', rt := Q } (start N vs) H) : L2H.FnH P w K mg base CX0 (k + 1) f fd ps sp := by
  obtain ⟨oc, od, kV, doc, pm, an, cdv, ct, osl, rfl, lk, hcd⟩ := F.ex
  exact L2H.fn_ofH lk hcd S len fun A outer s H vs Q E p hot hr h => hb cdv A outer s H vs Q E p hot hr h
end
structure CalH (P : Program) (w : World) (K : PySem.W.Frag) (mg : Str → Option Value) (base : Heap) (k : Nat) (x : Str) (sp : Sp) : Prop where
  ex : ∃ (f : Addr) (fd : FuncData) (ps : List Str), mg x = some (.ref f) ∧ PySem.W.keepIn K (.ref f) = true ∧ Binds K fd ps [] ∧ L2H.FnH P w K mg base CX0 k f fd ps sp
section
variable {X : Cx} {CX : CXT} {k j : Nat} {C : Addr} {sp : Sp} {x : Str} {p pos : Pos} {e : Expr} {es : List Expr} {t : TA}
theorem hotc {a : Addr} {oe : Obj} {cls : Value} {d : Option Addr} {pn : List (Addr × Obj)} (hz : L2N.Zn cls d oe) (hf : ∃ vs, oe.data = .fields vs) : L2H.HotC (X.suite a ((a, oe) :: pn)) := by
  obtain ⟨vs, hv⟩ := hf
  exact ⟨(a, oe), ⟨rfl, vs, hv, hz.2.2 vs hv⟩, List.mem_cons_self⟩
theorem pe_callHF (c : CalH X.prog X.w X.K X.mg X.base j x sp) (hr : L2H.RoomH k X.A) (hc : L2H.HotC X) (hg : Gl X x) (ha : PA X (e :: es) t) (hk : j ≤ k := by decide)
    (hdb : (x == ("__debug__" : Str)) = false := by decide) (he : starEach (e :: es) X.env = (false, eval e X.env) :: starEach es X.env := by rfl) (hpl : (backTo pos (starEach es X.env)).any (·.1) = false := by rfl) :
    PE X (.Call (.Name x p) (e :: es) [] pos) (tCallS sp (fun _ => E0) t) := by
  obtain ⟨f, fd, ps, h1, h2, h3, h4⟩ := c.ex
  exact L2H.pe_callH h4 (hr.mono hk) hc hg h1 h2 h3 (fun σ pins H s e s' _ z => z.elim) ha hdb he hpl
theorem r_callS {σ : L2.St} {H : Hp} {Q : VK} {E : L2.St → XK} (h : t σ H fun vs H1 => sp vs H1 Q (E σ)) : tCallS sp E t σ H Q := h
set_option maxHeartbeats 8000000 in
theorem pmk_oexN (c : CalE X.prog X.w X.K X.mg X.base j x C sp) (hr : Room k X.A) (hg : Gl X x) (ha : PA X (e :: es) t) (hk : j + 1 ≤ k := by decide)
    (hdb : (x == ("__debug__" : Str)) = false := by decide) (he : starEach (e :: es) X.env = (false, eval e X.env) :: starEach es X.env := by rfl) (hpl : (backTo pos (starEach es X.env)).any (·.1) = false := by rfl) :
    L2N.PMk X (.Call (.Name x p) (e :: es) [] pos) (tMkO C sp [] t) := by
  obtain ⟨fI, fd, ps, hm, iC, tI, hb, F1⟩ := c.ex; have T := c.ox
  intro pins s σ H Q I h
  obtain ⟨nm, q, N, bs, bm, sn, sub, ab, col, dd, k0, k1, k2, k3, k5, hC, hbm⟩ := c.ox.cls
  refine wpAny_Call_Name_kw (ld_glob I hg hm (PySem.W.callWith_K (h₀ := X.base) I.ok.mod.kin T.kC (thn (ha.run pos pins s σ H _ I h) fun us s1 ⟨vs, H1, I1, r1, hz, q1⟩ => ⟨I1.kIn, ?_⟩) he hpl) hdb)
  show wpAny _ _ (call (.ref C) us) _ _ _; obtain ⟨hp, g, dr, tk, os⟩ := s1
  have hsz : hp.objs.size ≤ hp.objs.size + 1 := Nat.le_succ _; have hn : H1 (hp.objs.size + 1) = none := I1.hok.fresh hsz
  have hq := q1 (hp.objs.size + 1) hn; rw [List.append_nil] at hq
  have kk : ∀ b o, hp.get? b = some o → ((hp.push (PySem.W.kdv_tup us)).push (PySem.HandSPX.excO C hp.objs.size)).get? b = some o := fun b o e => by exact Heap.get?_push_of_some _ (Heap.get?_push_of_some _ e)
  have hget : ((hp.push (PySem.W.kdv_tup us)).push (PySem.HandSPX.excO C hp.objs.size)).get? (hp.objs.size + 1) = some (PySem.HandSPX.excO C hp.objs.size) := by (heap_get)
  have I2 : Inv X pins σ (upd H1 (hp.objs.size + 1) (exo (hp.objs.size + 1) C none)) ⟨(hp.push (PySem.W.kdv_tup us)).push (PySem.HandSPX.excO C hp.objs.size), g, dr, tk, os⟩ := by
    exact I1.laid (t' := tk) (a := hp.objs.size + 1) (o := exo (hp.objs.size + 1) C none) (h' := (hp.push (PySem.W.kdv_tup us)).push (PySem.HandSPX.excO C hp.objs.size)) kk hsz (exo_ok hget)
  have r2 : Vals (V.ref (hp.objs.size + 1) :: vs) (Value.ref (hp.objs.size + 1) :: us) := .cons rfl r1
  have hl : (Value.ref (hp.objs.size + 1) :: us ++ []).length = ps.length := by have e := r2.length; rw [F1.len _ _ _ _ hq] at e; rw [List.append_nil]; exact e.symm
  have hus : us.length ≤ sizeLine := by rw [← Paired.length r1, sizeLine_eq]; omega
  have b2 := hb _ (Value.ref (hp.objs.size + 1) :: us) I2.kIn hl; rw [List.append_nil] at b2
  refine wpAny_call (PySem.HandSPX.call_own F.excBase_ValueError (fun Y => PySem.HandSPX.refsVE_contains Y bm hbm) (I1.kIn _ _ hC) (PySem.W.looks_findIn I1.kIn iC) (fun self => PySem.W.bind_fn I1.kIn self tI) hus
    (codeAny_mono (F1.run _ X.stack _ _ ⟨Value.ref (hp.objs.size + 1) :: us, []⟩ (Value.ref (hp.objs.size + 1) :: us) _ _ (fun _ _ _ => False) ((hr.mono hk).make C us []) (I2.env0.make C us []) b2 r2 hq) fun r s' hq' => ?_))
  match r, hq' with
  | .error er, hq' => exact False.elim hq'
  | .ok .next, hq' => exact False.elim hq'
  | .ok .brk, hq' => exact False.elim hq'
  | .ok .cont, hq' => exact False.elim hq'
  | .ok (.ret u), hq' =>
    obtain ⟨v, H2, os2, bare2, un2, hok2, rv, ev, d, fs, ea, ed, hd1, q2⟩ := hq'; subst ev
    obtain ⟨h2, g2, d2, t2, os'⟩ := s'; obtain ⟨t0, G, J, kG, ge, hoe, na⟩ := mk_end0 (d2 := d2) (t2 := t2) I1 hsz kk un2 hok2 os2 bare2 ea ed hd1
    exact ⟨rv, ⟨hp.objs.size + 1, _, _, ⟨G, g2, d2, t2, os'⟩, _, .ref C, some d, rfl, J, kG, ge, hoe, ⟨rfl, rfl, fun vs hv => by cases hv; rfl⟩, rfl, rfl, na, rfl, bare2, raises_own T.exC T.tyC, q2⟩⟩
end
theorem r_catchM {K : PySem.W.Frag} {c cls : Value} {d : Option Addr} {ts : Addr → Value → Option Addr → TS} {r : List (Value × (Addr → Value → Option Addr → TS))} {Wo : WX} {D : Ends} {σ : L2.St} {H : Hp} (h : PySem.W.exmOne K cls c = some true)
    (k : ∀ a, H a = none → ts a cls d D σ H) : L2.wMany K Wo D ((c, ts) :: r) cls d σ H := ⟨true, h, fun _ => k, fun z => by cases z⟩
theorem r_catchM2 {K : PySem.W.Frag} {c cls : Value} {d : Option Addr} {ts : Addr → Value → Option Addr → TS} {r : List (Value × (Addr → Value → Option Addr → TS))} {Wo : WX} {D : Ends} {σ : L2.St} {H : Hp} (h : PySem.W.exmOne K cls c = some false)
    (k : L2.wMany K Wo D r cls d σ H) : L2.wMany K Wo D ((c, ts) :: r) cls d σ H := ⟨false, h, (fun z => by cases z), fun _ => k⟩
section
variable {X : Cx} {o e : Expr} {es : List Expr} {to : TE} {t : TA} {name : Str} {apos cpos : Pos} {T id : String} {r : V → List V → Hp → VK → Prop}
theorem pe_bmK (K : PySem.W.Frag) (pa : PlainAttrs T) (slot : Slot T name id) (hty : typeOf (.builtin id) = pure (.type "method_descriptor")) (hm : MtR X id r) (ho : PE X o to) (ha : PA X (e :: es) t) (hK : X.K = K := by rfl)
    (hbase : attributeBase o name X.env (eval o X.env) = eval o X.env := by rfl)
    (hfew : ((backTo cpos (starEach (e :: es) X.env)).all (fun x => !x.1) && (backToKw cpos (keywordEach [] X.env)).all (fun x => x.1.isSome)
      && decide ((e :: es).length + ([] : List Keyword).length + (if ([] : List Keyword).isEmpty then 0 else 1) < 30)) = true := by rfl)
    (hline : (apos.endLine == cpos.line) = true := by rfl) (hs : starEach (e :: es) X.env = (false, eval e X.env) :: starEach es X.env := by rfl) (hplain : (backTo cpos (starEach es X.env)).any (·.1) = false := by rfl) :
    PE X (.Call (.Attribute o name apos) (e :: es) [] cpos) (tBM K T r to t) := by
  subst hK
  exact pe_bm pa slot hty hm ho ha hbase hfew hline hs hplain
end
end SH

set_option Elab.async false
set_option linter.all false
set_option maxRecDepth 100000
set_option maxHeartbeats 4000000
/-! SHW: exceptions as values: kept past their suite, made without being raised, asked and read anywhere -/
namespace SH
open PySem PySem.Spec PyProof.Rows L2
/-- at a: an exception of the class cls, its dict at d -/
def exK (a : Addr) (cls : Value) (d : Option Addr) : HO := .ext fun h => ∃ (oe : Obj) (vs : Array Value), h.get? a = some oe ∧ Zc cls d oe ∧ oe.data = .fields vs
theorem exK_ok {P : Program} {w : World} {H : Hp} {h : Heap} {a : Addr} {cls : Value} {d : Option Addr} {oe : Obj} {vs : Array Value} (e : h.get? a = some oe) (z : Zc cls d oe) (q : oe.data = .fields vs) : ObjOk P w H h a (exK a cls d) :=
  ⟨⟨oe, vs, e, z, q⟩, ⟨oe, e⟩, fun _ _ ⟨o, v, p, r⟩ k => ⟨o, v, k o p, r⟩⟩
theorem exK_at {P : Program} {w : World} {H : Hp} {h : Heap} {a : Addr} {cls : Value} {d : Option Addr} (hok : HOk P w H h) (he : H a = some (exK a cls d)) : ∃ (oe : Obj) (vs : Array Value), h.get? a = some oe ∧ Zc cls d oe ∧ oe.data = .fields vs := by
  have x : ObjOk P w H h a (.ext fun h => ∃ (oe : Obj) (vs : Array Value), h.get? a = some oe ∧ Zc cls d oe ∧ oe.data = .fields vs) := hok a _ he
  exact x.1
section
variable {X : Cx} {pins : List (Addr × Obj)} {σ : L2.St} {H : Hp} {s sI : Shared}
/-- an exception that stands untracked is tracked from now on; sI: the state without it -/
theorem trackK {a : Addr} {cls : Value} {d : Option Addr} {oe : Obj} {vs : Array Value} (I : Inv X pins σ H s) (J : Inv X pins σ H sI) (hx : X.ex = []) (ng : sI.heap.get? a = none) (he : s.heap.get? a = some oe) (z : Zc cls d oe) (hd : oe.data = .fields vs) (na : H a = none) :
    Inv X pins σ (upd H a (exK a cls d)) s := by
  have gone : ∀ {b : Addr} {o : Obj}, sI.heap.get? b = some o → b ≠ a := fun {b o} e y => by rw [y, ng] at e; cases e
  have nT : ∀ {b : Addr} {u : HO}, H b = some u → b ≠ a := fun {b u} e y => by rw [y, na] at e; cases e
  have n0 : ∀ b o, X.s_0.heap.get? b = some o → b ≠ a := fun b o e => by
    obtain ⟨o', q⟩ := J.base.there b o e (by rw [hx]; exact fun y => nomatch y)
    exact gone q
  refine ⟨I.ok, I.os, I.bare, ⟨I.base.keep, I.base.slot, fun b o e n hq => ?_, I.base.there, fun b xs e => ?_, fun b o u e => ?_, fun b ps e => ?_⟩, I.loc, I.cell, ?_, fun x c e => ?_, fun p hp => ?_, fun b u e => ?_, I.len⟩
  · rw [upd_ne (n0 b o e)]; exact I.base.free b o e n hq
  · have q := I.base.tups b xs e
    rw [upd_ne (nT q)]; exact q
  · have q := I.base.frzs b o u e
    rw [upd_ne (nT q)]; exact q
  · obtain ⟨m, q⟩ := I.base.tbls b ps e
    exact ⟨m, by rw [upd_ne (nT q)]; exact q⟩
  · obtain ⟨m, ⟨o, es, ep, ho, r⟩, hl⟩ := J.loc
    rw [upd_ne (gone ho)]; exact I.free
  · obtain ⟨v, o, ho, hv⟩ := J.cell x c e
    rw [upd_ne (gone ho)]; exact I.freeC x c e
  · obtain ⟨e, n, ne, nf, dd⟩ := I.pin p hp
    obtain ⟨e', _⟩ := J.pin p hp
    exact ⟨e, by rw [upd_ne (gone e')]; exact n, ne, nf, dd⟩
  · by_cases hb : b = a
    · subst hb
      rw [upd_same] at e
      cases e
      exact exK_ok he z hd
    · rw [upd_ne hb] at e
      exact (I.hok b u e).stay (fun c v _ q => q) (fun c q => by rw [upd_ne (nT q)]; exact q) fun c xs q => by rw [upd_ne (nT q)]; exact q
theorem suiteK (I : Inv X pins σ H s) (a : Addr) : Inv (X.suite a (X.pn ++ pins)) [] σ H s :=
  ⟨I.ok.suite _ _, I.os, I.bare, I.base, I.loc, I.cell, I.free, I.freeC, fun p hp => I.pin p (by rw [List.append_nil] at hp; exact hp), I.hok, I.len⟩
theorem unsuiteK {a : Addr} {pn' : List (Addr × Obj)} (I : Inv (X.suite a (X.pn ++ pins)) pn' σ H s) (ok : X.Ok) : Inv X pins σ H s :=
  ⟨ok, I.os, I.bare, I.base, I.loc, I.cell, I.free, I.freeC, fun p hp => I.pin p (List.mem_append_left _ hp), I.hok, I.len⟩
end
/-- what the clause 'except x as n' wishes of an exception of the body: it is tracked in the suite and behind -/
def wAsK (K : PySem.W.Frag) (c : Value) (i : Nat) (ts : TS) (Wout : WX) (D : Ends) : WX := fun cls d σ H =>
  ∃ b, PySem.W.exmOne K cls c = some b ∧ (b = true → ∀ a, H a = none → ts { nx := fun σ' H' => D.nx (σ'.set i none) H', rt := D.rt, bk := fun σ' H' => D.bk (σ'.set i none) H', ct := fun σ' H' => D.ct (σ'.set i none) H' } (σ.set i (some (.ref a))) (upd H a (exK a cls d))) ∧
    (b = false → Wout cls d σ H)
theorem r_catchK {K : PySem.W.Frag} {c cls : Value} {d : Option Addr} {i : Nat} {ts : TS} {Wo : WX} {D : Ends} {σ : L2.St} {H : Hp} (h : PySem.W.exmOne K cls c = some true)
    (k : ∀ a, H a = none → ts { nx := fun σ' H' => D.nx (σ'.set i none) H', rt := D.rt, bk := fun σ' H' => D.bk (σ'.set i none) H', ct := fun σ' H' => D.ct (σ'.set i none) H' } (σ.set i (some (.ref a))) (upd H a (exK a cls d))) : wAsK K c i ts Wo D cls d σ H :=
  ⟨true, h, fun _ => k, fun z => by cases z⟩
section
variable {X : Cx} {x n : Str} {c : Value} {i : Nat} {body suite : List Stmt} {b₀ : Stmt} {np pos pos' : Pos} {tb : WX → TS} {ts : TS} {Wout : WX}
set_option maxHeartbeats 8000000 in
theorem ps_try_asK (hs : X.stack = X.env :: X.outer) (hf : X.env.frame = some X.env.locals) (hx : X.ex = []) (hN : X.N.Nodup) (hi : X.N[i]? = some n) (hln : X.env.kindOf n = some .local) (hc : Names X x c) (tk : L2N.Takes X Wout)
    (hb : ∀ (W : WX) (pn : List (Addr × Obj)) (xe : Value → Shared → Prop), L2N.Takes (X.tr pn xe) W → PassesOwn (model X.prog X.w) X.A X.env xe → PSs (X.tr pn xe) body (tb W))
    (hsu : ∀ (a : Addr) (pn : List (Addr × Obj)), PSs (X.suite a pn) (b₀ :: suite) ts) :
    PS X (.Try body [.ExceptHandler (some (.Name x np)) (some n) (b₀ :: suite) pos'] [] [] pos) (fun D σ H => tb (wAsK X.K c i ts Wout D) D σ H) := by
  refine ⟨fun pins s σ H D I h => ?_⟩
  have ok := I.ok
  have hfr : X.A.frames = some (X.env :: X.outer) := by rw [ok.frames, hs]
  have hloc : Loc X.env.scope n := .inl hln
  refine wpAny_Try_except ?_
  refine wpAny_mono ((hb (wAsK X.K c i ts Wout D) (X.pn ++ pins) (fun e s₁ => wpAny (model X.prog X.w) X.A (noteFrame e X.env) (fun _ s₂ => wpAny (model X.prog X.w) X.A (setFlight e none) (fun _ s₃ =>
    wpAny (model X.prog X.w) X.A (handleBy e X.env [.ExceptHandler (some (.Name x np)) (some n) (b₀ :: suite) pos']) (SP X pins D) X.xe s₃) X.xe s₂) X.xe s₁) (fun u s' xx => ?_) PassesOwn.looking).run [] s σ H D (I.toTry _) h) (fun f s1 hsp => ?_) (fun e s1 he => he)
  · obtain ⟨a, B, sI, pins', σ', H', cls, d, rfl, J', nb, up, sky, na, os, ag, b, hb1, hyes, hno⟩ := xx
    have J : Inv X pins σ' H' sI := J'.ofTry ok
    have sky' : Sky B (X.env :: X.outer) a (L2N.Zn cls d) X.env.locals s'.heap := by rw [← hs]; exact sky
    show wpAny (model X.prog X.w) X.A (noteFrame (.ref a) X.env) _ _ _
    refine L2N.Sky.land L2N.Zn.steady hfr hf sky' fun h3 fl3 up3 => ?_
    have J3 : Inv X pins σ' H' { s' with heap := h3 } := J.landed nb fl3.1 (up.trans up3) os ag
    obtain ⟨oe3, vs3, he3, hz3, hd3⟩ := fl3.there
    have notFr : ∀ {h : Heap} {o : Obj} {vs : Array Value}, h.FunFrames B (X.env :: X.outer) → h.get? a = some o → o.data = .fields vs → a ∉ frs (X.env :: X.outer) := fun {h o vs} ff e dd hm => by
      obtain ⟨_, o', e', hnf⟩ := ff.mem hm
      rw [e] at e'; cases e'
      exact hnf _ dd
    have nfr := notFr fl3.2.2.1 he3 hd3
    have nL : a ≠ X.env.locals := fun z => nfr (List.mem_filterMap.mpr ⟨X.env, List.mem_cons_self, by rw [hf, z]⟩)
    have nF : a ∉ X.fs := fun hm => by
      obtain ⟨e, he, q⟩ := List.mem_filterMap.mp hm
      exact nfr (List.mem_filterMap.mpr ⟨e, List.mem_cons_of_mem _ he, q⟩)
    have ng : sI.heap.get? a = none := by
      cases q : sI.heap.get? a with
      | none => rfl
      | some o =>
        have z := nb a o q (by rw [hs]; exact nfr)
        rw [fl3.2.1] at z; cases z
    have S3 := J3.suite he3 hd3 na nL nF
    refine wpAny_handleBy_cons (codeAny_handlers_test ?_) (by intro q; cases q)
    have LT : PySem.W.Looks (model X.prog X.w) h3 (typeOf (.ref a)) cls := fun A Q E s k q => wpAny_typeOf_ref (k _ _ he3) (by rw [hz3.1]; exact q)
    have LM := PySem.W.exm_one (M := model X.prog X.w) (J3.kIn) LT hb1
    have test : ∀ {Q : Value → Shared → Prop} {E : Value → Shared → Prop}, Q c { s' with heap := h3 } → wpAny (model X.prog X.w) (X.A.mark (some (.ref a))) (eval (.Name x np) X.env) Q E { s' with heap := h3 } := fun {Q E} q => by
      obtain ⟨hg, hdbg, hm | ⟨hm, hv, hnn⟩⟩ := hc
      · exact ld_glob (X := X.suite a ((a, oe3) :: (X.pn ++ pins))) S3 hg hm q hdbg
      · exact ld_blt (X := X.suite a ((a, oe3) :: (X.pn ++ pins))) S3 hg hm hv q hnn hdbg
    refine test (LM.here ?_)
    cases b with
    | true =>
      refine codeAny_handlers_suite_as ?_
      refine HandSPX.lands_againZ fl3 fun h4 fl4 up4 => ?_
      have J4 : Inv X pins σ' H' { s' with heap := h4 } := J.landed nb fl4.1 ((up.trans up3).trans up4) os ag
      obtain ⟨oe4, vs4, he4, hz4, hd4⟩ := fl4.there
      have S4 := suiteK (trackK J4 J hx ng he4 hz4.zc hd4 na) a
      refine store_ok (X := X.suite a (X.pn ++ pins)) (v := .ref a) S4 hN hi hloc rfl (fun s5 S5 => ?_) (.inr hln)
      refine wpAny_mono ((hsu a (X.pn ++ pins)).run [] s5 _ _ _ S5 (hyes rfl a na)) (fun f s6 hsp => ?_) (fun _ _ z => False.elim z)
      have end_ : ∀ {σ6 : L2.St} {H6 : Hp} {Q : Shared → Prop}, Inv (X.suite a (X.pn ++ pins)) [] σ6 H6 s6 → (∀ s7, Inv X pins (σ6.set i none) H6 s7 → Q s7) →
          wpAny (model X.prog X.w) X.A (do bindName X.env n .none; unbindBehindTheSuite X.env n pos') (fun _ s7 => Q s7) X.xe s6 := fun {σ6 H6 Q} S6 hq => gone_ok (unsuiteK S6 ok) hN hi hln hq
      cases f with
      | next =>
        obtain ⟨σ6, H6, S6, q6⟩ := hsp
        exact end_ S6 fun s7 J7 => ⟨_, _, J7, q6⟩
      | brk =>
        obtain ⟨σ6, H6, S6, q6⟩ := hsp
        exact end_ S6 fun s7 J7 => ⟨_, _, J7, q6⟩
      | cont =>
        obtain ⟨σ6, H6, S6, q6⟩ := hsp
        exact end_ S6 fun s7 J7 => ⟨_, _, J7, q6⟩
      | ret u =>
        obtain ⟨v6, σ6, H6, S6, r6, q6⟩ := hsp
        exact end_ S6 fun s7 J7 => ⟨_, _, _, J7, r6, q6⟩
    | false =>
      show wpAny _ X.A (handleBy (.ref a) X.env []) _ _ _
      refine wpAny_handleBy_nil ?_
      obtain ⟨k1, k2, k3, oe, vs, T, oT, ts', he, hz, hd, h1, hr⟩ := id fl3
      unfold PySem.passOn
      refine wpAny_bind (wpAny_field he hd h1 ?_)
      rw [if_neg (show ¬ ((Value.ref T == Value.none) = true) from by simp)]
      have fin : wpAny (model X.prog X.w) X.A (setFlight (.ref a) X.env.frame) (fun _ s4 => wpAny (model X.prog X.w) X.A (throw (.ref a) : Sem Flow) (SP X pins D) X.xe s4) X.xe { s' with heap := h3 } := by
        rw [hf]
        refine HandSPX.setFlight_upZ fl3 fun h4 hh4 up4 => wpAny_throw (tk _ _ ?_)
        exact ⟨a, B, sI, pins, σ', H', cls, d, rfl, J, nb, (up.trans up3).trans up4, .inr (.inr (by rw [hs]; exact hh4)), na, os, ag, hno rfl⟩
      first
        | exact wpAny_bind (wpAny_pure (wpAny_bind fin))
        | exact wpAny_bind fin
  · cases f with
    | next =>
      obtain ⟨σ', H', J', q⟩ := hsp
      exact wpAny_execs_nil ⟨σ', H', J'.ofTry ok, q⟩
    | brk =>
      obtain ⟨σ', H', J', q⟩ := hsp
      exact ⟨σ', H', J'.ofTry ok, q⟩
    | cont =>
      obtain ⟨σ', H', J', q⟩ := hsp
      exact ⟨σ', H', J'.ofTry ok, q⟩
    | ret u =>
      obtain ⟨v, σ', H', J', r, q⟩ := hsp
      exact ⟨v, σ', H', J'.ofTry ok, r, q⟩
end
theorem pi_listK {X : Cx} {tg l : Expr} {tl : TE} (K : PySem.W.Frag) (hl : PE X l tl) (hK : X.K = K := by rfl) : PI X tg l (iList K tl) := by subst hK; exact pi_list hl
/-! isinstance of a kept exception, its fields -/
def rIsK (K : PySem.W.Frag) : List V → Hp → VK → Prop := fun xs H Q => ∃ (a D : Addr) (d : Option Addr) (c : V) (cv : Value) (b : Bool), xs = [.ref a, c] ∧ H a = some (exK a (.ref D) d) ∧ (∀ dd, d = some dd → ∃ fs, H dd = some (.xd fs)) ∧ ExcC K D ∧ (∀ u, RelV c u → u = cv) ∧ PySem.W.kitOne K (.ref D) cv = some b ∧ Q (.bl b) H
theorem call_isK {X : Cx} : CallR X (.builtin "isinstance") (rIsK X.K) := by
  intro pins s σ H xs us Q I r h
  obtain ⟨a, D, d, c, cv, b, rfl, ha, hdd, C, hcv, e, q⟩ := h
  cases r with
  | cons rx rr =>
    cases rr with
    | cons rt rr =>
      cases rr; cases rx
      have ec := hcv _ rt; subst ec
      obtain ⟨oe, vs, hget, hz, hv⟩ := exK_at I.hok ha
      have hcl : (PySem.W.clsIn X.K D).isSome = true := by
        obtain ⟨cd, hc, _⟩ := PySem.W.any_some C.hd
        rw [hc]; rfl
      have J : ∃ od, PySem.W.InstAt s.heap a oe D od := by
        cases d with
        | none => exact ⟨none, hget, hz.1, by unfold PySem.W.notCls; rw [hv] <;> rfl, by rw [hz.2]; trivial⟩
        | some dd =>
          obtain ⟨fs, hfs⟩ := hdd dd rfl
          obtain ⟨mA, hns, _⟩ := (show ObjOk X.prog X.w H s.heap dd (.xd fs) from I.hok dd _ hfs)
          obtain ⟨od, ho, hl⟩ := lookIn_ns hns
          exact ⟨some od, hget, hz.1, by unfold PySem.W.notCls; rw [hv] <;> rfl, by rw [hz.2]; exact ho⟩
      obtain ⟨od, J⟩ := J
      exact PySem.W.kia_one (PySem.W.kitx_exc (od := od) hcl C.hg C.hk C.hs C.ha C.hn C.ht C.hm) I.kIn J e (fun z => nomatch z) fun tk => ⟨.bl b, H, I.kept (t' := tk) fun _ _ z => z, rfl, q⟩
section
variable {K : PySem.W.Frag} {D C a : Addr} {n : String} {H : Hp} {Q : VK} {b : Bool} {σ : L2.St}
theorem v_isK {d : Option Addr} (ha : H a = some (exK a (.ref D) d)) (hd : ∀ dd, d = some dd → ∃ fs, H dd = some (.xd fs)) (hc : ExcC K D) (h : PySem.W.kitOne K (.ref D) (.ref C) = some b) (k : Q (.bl b) H) : rIsK K [.ref a, .ref C] H Q := ⟨a, D, d, .ref C, .ref C, b, rfl, ha, hd, hc, fun _ r => r, h, k⟩
theorem v_isKT {d : Option Addr} (ha : H a = some (exK a (.ref D) d)) (hd : ∀ dd, d = some dd → ∃ fs, H dd = some (.xd fs)) (hc : ExcC K D) (h : PySem.W.kitOne K (.ref D) (.type n) = some b) (k : Q (.bl b) H) : rIsK K [.ref a, .ty n] H Q := ⟨a, D, d, .ty n, .type n, b, rfl, ha, hd, hc, fun _ r => r, h, k⟩
end
/-- x.f of a kept exception -/
def tXfK (C : Addr) (f : Str) (te : TE) : TE := fun σ H Q => te σ H fun x H1 => ∃ (a dd : Addr) (fs : List (Str × V)) (v : V), x = .ref a ∧ H1 a = some (exK a (.ref C) (some dd)) ∧ H1 dd = some (.xd fs) ∧ fs.lookup f = some v ∧ Q v H1
theorem pe_xfK {X : Cx} {C : Addr} {e : Expr} {te : TE} {pos : Pos} {n : Str} (T : XfC X.K C) (hno : PySem.W.findIn X.K (.ref C) n = some none)
    (he : PE X e te) (hb : attributeBase e n X.env (eval e X.env) = eval e X.env := by rfl) : PE X (.Attribute e n pos) (tXfK C n te) := by
  refine ⟨fun pins s σ H Q I h => attr_of hb (thn (he.run pins s σ H _ I h) fun u s1 hh => ?_)⟩
  obtain ⟨x, H1, I1, rx, a, dd, fs, v, ex, ea, ed, l, q⟩ := hh
  subst ex
  obtain rfl : u = Value.ref a := rx
  obtain ⟨oe, vs, ha, hz, hd⟩ := exK_at I1.hok ea
  have hx : ObjOk X.prog X.w H1 s1.heap dd (.xd fs) := I1.hok dd _ ed
  obtain ⟨mA, hns, hr⟩ := hx
  obtain ⟨od, ho, hl⟩ := lookIn_ns hns
  obtain ⟨u, hu, ru⟩ := RelO.some_of (v := v) (o := mA n) (by rw [← l]; exact hr n)
  have J : PySem.W.InstAt s1.heap a oe C (some od) := ⟨ha, hz.1, by unfold PySem.W.notCls; rw [hd] <;> rfl, by rw [hz.2]; exact ho⟩
  exact HandSPX.exc_get I1.kIn J T.ga T.gg T.exC (PySem.W.findObj_own T.hdC hno rfl (by rw [hl, hu])) (handed_of ru) ⟨v, H1, I1.tok _, ru, q⟩
def kXfK (C : Addr) (f : Str) (Q : VK) : VK := fun x H1 => ∃ (a dd : Addr) (fs : List (Str × V)) (v : V), x = .ref a ∧ H1 a = some (exK a (.ref C) (some dd)) ∧ H1 dd = some (.xd fs) ∧ fs.lookup f = some v ∧ Q v H1
section
variable {σ : L2.St} {H : Hp} {Q : VK} {C a d : Addr} {f : Str} {fs : List (Str × V)} {v : V} {te : TE}
theorem r_xfK (h : te σ H (kXfK C f Q)) : tXfK C f te σ H Q := h
theorem v_xfK (ha : H a = some (exK a (.ref C) (some d))) (h : H d = some (.xd fs)) (l : fs.lookup f = some v) (k : Q v H) : kXfK C f Q (.ref a) H := ⟨a, d, fs, v, rfl, ha, h, l, k⟩
end
/-! exceptions made, not raised -/
def tExc0 (C : Addr) : TE := fun _ H Q => ∀ a, H a = none → Q (.ref a) (upd H a (exK a (.ref C) none))
/-- C(e, ..), with an own __init__ -/
def tMkK (C : Addr) (sp : Sp) (dvs : List V) (t : TA) : TE := fun σ H Q => t σ H fun vs H1 => vs.length ≤ 1000 ∧ ∀ a, H1 a = none → sp (.ref a :: (vs ++ dvs)) (upd H1 a (exo a C none))
  (fun v H2 => v = .non ∧ ∃ (d : Addr) (fs : List (Str × V)), H2 a = some (exo a C (some d)) ∧ H2 d = some (exd d fs) ∧ H1 d = none ∧ Q (.ref a) (upd (upd (del H2 a) d (.xd fs)) a (exK a (.ref C) (some d)))) (fun _ _ _ => False)
section
variable {X : Cx} {CX : CXT} {k j : Nat} {C : Addr} {sp : Sp} {x : Str} {p pos : Pos} {e : Expr} {es : List Expr} {t : TA}
set_option maxHeartbeats 8000000 in
theorem pe_mkK (c : CalE X.prog X.w X.K X.mg X.base j x C sp) (hr : Room k X.A) (hg : Gl X x) (ha : PA X (e :: es) t) (hk : j + 1 ≤ k := by decide)
    (hdb : (x == ("__debug__" : Str)) = false := by decide) (he : starEach (e :: es) X.env = (false, eval e X.env) :: starEach es X.env := by rfl) (hpl : (backTo pos (starEach es X.env)).any (·.1) = false := by rfl) :
    PE X (.Call (.Name x p) (e :: es) [] pos) (tMkK C sp [] t) := by
  obtain ⟨fI, fd, ps, hm, iC, tI, hb, F1⟩ := c.ex; have T := c.ox
  refine ⟨fun pins s σ H Q I h => ?_⟩
  obtain ⟨nm, q, N, bs, bm, sn, sub, ab, col, dd, k0, k1, k2, k3, k5, hC, hbm⟩ := c.ox.cls
  refine wpAny_Call_Name_kw (ld_glob I hg hm (PySem.W.callWith_K (h₀ := X.base) I.ok.mod.kin T.kC (thn (ha.run pos pins s σ H _ I h) fun us s1 ⟨vs, H1, I1, r1, hz, q1⟩ => ⟨I1.kIn, ?_⟩) he hpl) hdb)
  show wpAny _ _ (call (.ref C) us) _ _ _; obtain ⟨hp, g, dr, tk, os⟩ := s1
  have hsz : hp.objs.size ≤ hp.objs.size + 1 := Nat.le_succ _; have hn : H1 (hp.objs.size + 1) = none := I1.hok.fresh hsz
  have hq := q1 (hp.objs.size + 1) hn; rw [List.append_nil] at hq
  have kk : ∀ b o, hp.get? b = some o → ((hp.push (PySem.W.kdv_tup us)).push (PySem.HandSPX.excO C hp.objs.size)).get? b = some o := fun b o e => by exact Heap.get?_push_of_some _ (Heap.get?_push_of_some _ e)
  have hget : ((hp.push (PySem.W.kdv_tup us)).push (PySem.HandSPX.excO C hp.objs.size)).get? (hp.objs.size + 1) = some (PySem.HandSPX.excO C hp.objs.size) := by (heap_get)
  have I2 : Inv X pins σ (upd H1 (hp.objs.size + 1) (exo (hp.objs.size + 1) C none)) ⟨(hp.push (PySem.W.kdv_tup us)).push (PySem.HandSPX.excO C hp.objs.size), g, dr, tk, os⟩ := by
    exact I1.laid (t' := tk) (a := hp.objs.size + 1) (o := exo (hp.objs.size + 1) C none) (h' := (hp.push (PySem.W.kdv_tup us)).push (PySem.HandSPX.excO C hp.objs.size)) kk hsz (exo_ok hget)
  have r2 : Vals (V.ref (hp.objs.size + 1) :: vs) (Value.ref (hp.objs.size + 1) :: us) := .cons rfl r1
  have hl : (Value.ref (hp.objs.size + 1) :: us ++ []).length = ps.length := by have e := r2.length; rw [F1.len _ _ _ _ hq] at e; rw [List.append_nil]; exact e.symm
  have hus : us.length ≤ sizeLine := by rw [← Paired.length r1, sizeLine_eq]; omega
  have b2 := hb _ (Value.ref (hp.objs.size + 1) :: us) I2.kIn hl; rw [List.append_nil] at b2
  refine wpAny_call (PySem.HandSPX.call_own F.excBase_ValueError (fun Y => PySem.HandSPX.refsVE_contains Y bm hbm) (I1.kIn _ _ hC) (PySem.W.looks_findIn I1.kIn iC) (fun self => PySem.W.bind_fn I1.kIn self tI) hus
    (codeAny_mono (F1.run _ X.stack _ _ ⟨Value.ref (hp.objs.size + 1) :: us, []⟩ (Value.ref (hp.objs.size + 1) :: us) _ _ (fun _ _ _ => False) ((hr.mono hk).make C us []) (I2.env0.make C us []) b2 r2 hq) fun r s' hq' => ?_))
  match r, hq' with
  | .error er, hq' => exact False.elim hq'
  | .ok .next, hq' => exact False.elim hq'
  | .ok .brk, hq' => exact False.elim hq'
  | .ok .cont, hq' => exact False.elim hq'
  | .ok (.ret u), hq' =>
    obtain ⟨v, H2, os2, bare2, un2, hok2, rv, ev, d, fs, ea, ed, hd1, q2⟩ := hq'; subst ev
    obtain ⟨h2, g2, d2, t2, os'⟩ := s'; obtain ⟨t0, G, J, kG, ge, hoe, na⟩ := mk_end0 (d2 := d2) (t2 := t2) I1 hsz kk un2 hok2 os2 bare2 ea ed hd1
    exact ⟨rv, ⟨.ref (hp.objs.size + 1), _, J.laidN (t' := t2) kG ge na (exK_ok hoe ⟨rfl, rfl⟩ rfl), rfl, q2⟩⟩
/-- C(): a class without an own __init__ -/
theorem pe_exc0K {bmB : List Value} {B newId initId : String} (F : ExcBaseFacts B newId initId bmB) (q : PySem.W.excIn X.K C bmB newId = true) (gC : X.mg x = some (.ref C)) (kC : PySem.W.keepIn X.K (.ref C) = true) (hg : Gl X x)
    (hdb : (x == ("__debug__" : Str)) = false := by decide) :
    PE X (.Call (.Name x p) [] [] pos) (tExc0 C) := by
  refine ⟨fun pins s σ H Q I h => ?_⟩
  refine wpAny_Call_Name_kw (ld_glob I hg gC ?_ hdb)
  refine PySem.W.callWith_K0 I.kIn kC ?_
  show wpAny _ _ (call (.ref C) []) _ _ _
  obtain ⟨bm, N, nm, qn, bs, hdct, sn, sub, ab, col, dd, k0, k1, k2, k3, k5, mN, hC, hN, hni, T⟩ := exc_obj I.kIn q
  refine wpAny_call_exc_subT F T hC hN hni (fun h' a hm => ?_) (by show 0 ≤ sizeLine; omega)
  have hn : H a = none := I.hok.gone hm.new
  obtain ⟨t, ht, _, _⟩ := hm.there
  exact ⟨.ref a, upd H a (exK a (.ref C) none), I.laidN hm.keeps hm.new hn (exK_ok ht ⟨rfl, rfl⟩ rfl), rfl, h a hn⟩
end
section
variable {σ : L2.St} {H : Hp} {Q : VK} {C : Addr} {sp : Sp} {dvs : List V} {t : TA} {f : Str} {v : V}
theorem r_exc0 (h : ∀ a, H a = none → Q (.ref a) (upd H a (exK a (.ref C) none))) : tExc0 C σ H Q := h
def kMkK (C : Addr) (sp : Sp) (dvs : List V) (Q : VK) : List V → Hp → Prop := fun vs H1 => vs.length ≤ 1000 ∧ ∀ a, H1 a = none → sp (.ref a :: (vs ++ dvs)) (upd H1 a (exo a C none))
  (fun v H2 => v = .non ∧ ∃ (d : Addr) (fs : List (Str × V)), H2 a = some (exo a C (some d)) ∧ H2 d = some (exd d fs) ∧ H1 d = none ∧ Q (.ref a) (upd (upd (del H2 a) d (.xd fs)) a (exK a (.ref C) (some d)))) (fun _ _ _ => False)
theorem r_mkK (h : t σ H (kMkK C sp dvs Q)) : tMkK C sp dvs t σ H Q := h
/-- a class with one field, made -/
theorem v_mk1 (q : ∀ a d, H a = none → H d = none → d ≠ a → Q (.ref a) (upd (upd H d (.xd [(f, v)])) a (exK a (.ref C) (some d)))) : kMkK C (sp1 f C) [] Q [v] H := by
  refine ⟨by simp, fun a ha => ⟨a, v, rfl, upd_same, fun dx hdx hne => ⟨rfl, dx, _, upd_same, by rw [upd_ne hne]; exact upd_same, (upd_free hdx).1, ?_⟩⟩⟩
  have hd := (upd_free hdx).1
  have e : upd (upd (del (upd (upd (upd H a (exo a C none)) dx (exd dx [(f, v)])) a (exo a C (some dx))) a) dx (.xd [(f, v)])) a (exK a (.ref C) (some dx)) = upd (upd H dx (.xd [(f, v)])) a (exK a (.ref C) (some dx)) := by
    funext b
    by_cases c2 : b = a
    · rw [c2, upd_same, upd_same]
    · rw [upd_ne c2, upd_ne c2]
      by_cases c1 : b = dx
      · rw [c1, upd_same, upd_same]
      · rw [upd_ne c1, upd_ne c1, del_ne c2, upd_ne c2, upd_ne c1, upd_ne c2]
  rw [e]
  exact q a dx ha hd hne
end
end SH

set_option Elab.async false
set_option linter.all false
set_option maxRecDepth 100000
set_option maxHeartbeats 8000000
/-! the step -/
local macro_rules | `(tactic| walk_at "slot") => `(tactic| (with_reducible first | exact SH.get_z | (apply SH.get_s; walk_at "slot")))
local macro_rules | `(tactic| walk_at "put") => `(tactic| (with_reducible first | exact SH.set_z | (apply SH.set_s; walk_at "put")))
local macro_rules | `(tactic| walk_at "wipe") => `(tactic| (with_reducible first | exact SH.wp_z | apply SH.wp_s (by walk_at "wipe") (by walk_at "put")))
local macro_rules | `(tactic| walk_at "begin") => `(tactic| ((apply SH.r_start (by (repeat (with_reducible first | exact SH.st_z | apply SH.st_c | apply SH.st_n)))); (try dsimp only [L2.Cx.nox, L2.Cx.wish, L2.cxOf])))
local macro_rules | `(tactic| walk_at "r0") => `(tactic| with_reducible first
  | ((apply SH.r_nx (by walk_at "put")))
  | refine SH.r_seq ?_ | refine SH.r_asg ?_ | (apply SH.r_gnw (by walk_at "wipe")) | (apply SH.r_gtw (by walk_at "wipe")) | ((apply SH.r_gname (by walk_at "put")))
  | ((apply SH.r_var (by walk_at "slot"))) | refine SH.r_c ?_ | refine SH.r_op ?_ | refine SH.r_cons ?_ | refine SH.r_nil ?_
  | refine SH.v_addI ?_ | refine SH.v_subI ?_ | refine SH.v_ltI ?_ | refine SH.v_leI ?_ | refine SH.v_gtI ?_ | refine SH.v_geI ?_ | refine SH.v_eqI ?_ | refine SH.v_neI ?_
  | refine SH.v_eqB ?_ | refine SH.v_neB ?_ | refine SH.w_isB ?_ | refine SH.w_notB ?_ | refine SH.v_isN ?_ | refine SH.v_notN ?_ | refine SH.v_ipA ?_ | refine SH.v_ipS ?_ | refine SH.v_and ?_
  | refine SH.r_ifS ?_ | refine SH.r_test ?_ | refine SH.r_bl ?_ | refine SH.r_B ?_ | refine SH.r_and ?_ | refine SH.r_or ?_ | refine SH.r_not ?_ | refine SH.r_andV ?_ | refine SH.r_orV ?_ | refine SH.r_notV ?_
  | refine SH.r_T ?_ | refine SH.r_F ?_ | refine SH.r_nT ?_ | refine SH.r_nF ?_
  | refine SH.r_ret ?_ | refine SH.r_retN ?_ | refine SH.r_drop ?_ | ((apply SH.r_aug (by walk_at "slot"))) | refine SH.r_next ?_ | refine SH.r_if ?_
  | refine SH.r_call ?_ | refine SH.r_cb ?_ | refine SH.r_tup ?_ | refine SH.r_lst ?_ | refine SH.r_part ?_ | refine SH.r_nopart ?_ | refine SH.r_int ?_ | refine SH.r_sl ?_ | refine SH.r_chain ?_
  | refine SH.r_bm ?_ | refine SH.r_bm0 ?_ | refine SH.r_un ?_ | refine SH.r_neg ?_ | refine SH.r_gcons ?_ | refine SH.r_gnil ?_ | refine SH.r_gsub ?_ | refine SH.r_brk ?_ | refine SH.r_cont ?_ | refine SH.r_yes ?_
  | refine SH.r_for ?_ | refine SH.r_lcX ?_ | refine SH.r_lc ?_ | refine SH.r_iList ?_ | refine SH.r_iTup ?_ | refine SH.r_iRng1 ?_ | refine SH.r_iRng2 ?_ | refine SH.r_iRng3 ?_ | refine SH.r_iEnum ?_ | refine SH.r_iZip ?_ | refine SH.r_iRev ?_
  | refine SH.r_fldF ?_ | refine SH.r_sfldF ?_ | refine SH.r_sfldAugF ?_ | refine SH.r_meth ?_ | refine SH.r_make ?_ | refine SH.r_lrg1 ?_ | refine SH.r_lrg2 ?_ | refine SH.r_bits ?_ | refine SH.v_bits ?_ | refine SH.w_max ?_ | refine SH.w_min ?_
  | refine SH.r_par ?_ | refine SH.r_par3 ?_ | (apply SH.v_par (by walk_at "put") (by walk_at "put")) | (apply SH.v_par3 (by walk_at "put") (by walk_at "put") (by walk_at "put"))
  | refine SH.r_callS ?_ | refine SH.r_mkO ?_ | refine SH.r_xf ?_ | refine SH.r_xfK ?_ | refine SH.r_mkK ?_ | refine SH.r_exc0 ?_ | refine SH.r_ost ?_ | refine SH.r_methX ?_ | refine SH.r_makeX ?_ | refine SH.r_augS ?_ | refine SH.r_dnewT ?_ | refine SH.r_dput ?_ | refine SH.r_dget1 ?_ | refine SH.r_dgetI ?_ | refine SH.r_din ?_ | refine SH.r_dnotin ?_ | refine SH.w_intI ?_ | refine SH.w_intB ?_ | ((apply SH.v_dget1 (by assumption))))
/-! heap facts -/
local macro_rules | `(tactic| walk_at "ne") => `(tactic| with_reducible first
  | assumption | (apply Ne.symm; assumption)
  | ((apply SH.ne_of_none'); (focus (assumption; done)); (focus (walk_at "lk"))) | ((apply Ne.symm); (apply SH.ne_of_none'); (focus (assumption; done)); (focus (walk_at "lk")))
  | ((apply L2.ne_of); (focus (walk_at "lk")); (focus (walk_at "lk")); (focus (intro z; cases z; done))))
local macro_rules | `(tactic| walk_at "lk") => `(tactic| (focus
  ((repeat (with_reducible first
  | assumption | exact L2.upd_same
  | (apply SH.off_old (by assumption))
  | ((apply SH.off_far); (focus (walk_at "ne")))
  | (apply SH.Stp.keep0 (by assumption))));
        done)))
local macro_rules | `(tactic| walk_at "sq") => `(tactic| (focus
  ((repeat (with_reducible first
  | assumption | exact L2.SqL.of L2.upd_same | exact L2.SqT.of L2.upd_same | exact L2.SqL.of (by assumption) | exact L2.SqT.of (by assumption)
  | (apply SH.sql_off (by assumption)) | (apply SH.sqt_off (by assumption))
  | ((apply SH.sql_offar); (focus (walk_at "ne"))) | ((apply SH.sqt_offar); (focus (walk_at "ne")))
  | (apply SH.Stp.sql0 (by assumption)) | (apply SH.Stp.sqt0 (by assumption))));
        done)))
local macro_rules | `(tactic| walk_at "st") => `(tactic| (focus
  ((repeat (with_reducible first
  | assumption | exact SH.Stp.refl _ _
  | (apply SH.st_new (by assumption)) | (apply SH.st_trans (by assumption)) | ((apply SH.st_put); (focus (walk_at "fr")))));
        done)))
local macro_rules | `(tactic| walk_at "fr") => `(tactic| with_reducible first | assumption | ((apply SH.st_fr (by assumption)); (walk_at "st")))
local macro_rules | `(tactic| walk_at "few") => `(tactic| first | exact SH.few0 | exact SH.few1 | exact SH.few2 | exact SH.few3 | exact SH.few4 | exact SH.few5 | exact SH.few6 | (simp; done))
local macro_rules | `(tactic| walk_at "pf") => `(tactic| first | exact SH.pf_nil | exact SH.pf_hit | (apply SH.pf_miss (by decide) (by walk_at "pf")))
/-! steps with a side -/
local macro_rules | `(tactic| walk_at "r2") => `(tactic| first
  | ((with_reducible refine SH.v_mulI ?_ ?_); (focus (first | exact L2.CMul.ok (.inl ⟨by omega, by omega⟩) | exact L2.CMul.ok (.inr ⟨by omega, by omega⟩) | exact SH.mul64 ⟨by omega, by omega⟩ ⟨by omega, by omega⟩)))
  | ((with_reducible refine SH.v_divS ?_ ?_ ?_); (focus omega); (focus omega))
  | ((with_reducible refine SH.v_mod ?_ ?_); (focus omega))
  | (with_reducible refine SH.v_pow60 ?_)
  | ((with_reducible apply SH.v_lenQ); (focus (walk_at "sq")); (focus (first | exact List.length_map _ | rfl))) | ((with_reducible apply SH.v_lenU); (focus (walk_at "sq")); (focus (first | exact List.length_map _ | rfl)))
  | ((with_reducible apply SH.v_slL); (focus (walk_at "sq"))) | ((with_reducible apply SH.v_iList); (focus (walk_at "sq")))
  | ((with_reducible refine SH.v_rng2 ?_ ?_); (focus (refine ⟨by omega, by omega, by omega, by omega⟩)))
  | ((with_reducible refine SH.v_rng1 ?_ ?_); (focus (refine ⟨by omega, by omega⟩)))
  | ((with_reducible apply SH.v_fld); (focus (walk_at "lk")); (focus rfl)) | ((with_reducible apply SH.v_sfld); (focus (walk_at "lk")); (focus (walk_at "few")); (focus (walk_at "pf"))) | ((with_reducible apply SH.v_aug1); (focus (walk_at "lk")); (focus rfl)) | ((with_reducible apply SH.v_aug2); (focus (walk_at "lk")); (focus (walk_at "few")); (focus (walk_at "pf")))
  | ((with_reducible apply SH.v_enum); (focus (walk_at "sq"))) | ((with_reducible apply SH.v_rev1); (focus (walk_at "sq"))) | ((with_reducible apply SH.v_zip); (focus (walk_at "sq")); (focus (walk_at "sq"))) | ((with_reducible apply SH.v_iTup); (focus (walk_at "sq")))
  | (with_reducible refine SH.v_tup1 ?_) | (with_reducible refine SH.v_tup2 ?_) | (with_reducible refine SH.v_tup3 ?_) | (with_reducible refine SH.v_lst0 ?_) | (with_reducible refine SH.v_lst1 ?_) | (with_reducible refine SH.v_lst2 ?_) | (with_reducible refine SH.v_lst3 ?_) | (with_reducible refine SH.v_lst4 ?_)
  | ((with_reducible apply SH.r_ty); (focus (walk_at "lk")))
  | ((with_reducible apply SH.w_listL); (focus (walk_at "sq"))) | ((with_reducible apply SH.w_listT); (focus (walk_at "sq"))) | ((with_reducible apply SH.w_tupL); (focus (walk_at "sq"))) | ((with_reducible apply SH.w_tupT); (focus (walk_at "sq")))
  | ((with_reducible apply SH.r_gtup); (focus (walk_at "sq")); (focus rfl))
  | ((with_reducible apply SH.r_glst); (focus (walk_at "sq")); (focus rfl))
  | (with_reducible refine SH.r_callX ?_)
  | ((with_reducible refine SH.r_wp ?_ ?_); (focus rfl))
  | ((with_reducible apply SH.v_methX); (focus (walk_at "lk")); (focus rfl)) | ((with_reducible apply SH.v_xf); (focus (walk_at "lk")); (focus rfl)) | ((with_reducible apply SH.v_xfK); (focus (walk_at "lk")); (focus (walk_at "lk")); (focus rfl)) | ((with_reducible apply SH.v_meth); (focus (walk_at "lk")); (focus rfl)) | ((with_reducible apply SH.isi_L); (focus (walk_at "lk"))) | ((with_reducible apply SH.isi_T); (focus (walk_at "lk"))) | (with_reducible refine SH.isi_bl_bool ?_) | (with_reducible refine SH.isi_bl_int ?_)
  | (with_reducible refine SH.r_ckw ?_) | (with_reducible refine SH.r_ckw2 ?_) | (with_reducible refine SH.r_lrev ?_) | ((with_reducible apply SH.v_lrev); (focus (walk_at "sq")))
  | ((with_reducible refine SH.v_isiIT ?_)) | ((with_reducible refine SH.v_isiIB ?_)) )
local macro_rules | `(tactic| walk_at "r1") => `(tactic| first | walk_at "r0" | walk_at "r2")
local macro_rules | `(tactic| walk_at "rd") => `(tactic| repeat walk_at "r1")
/-! the same, up to the making of an instance, or a call -/
local macro_rules | `(tactic| walk_at "rq") => `(tactic| repeat ((fail_if_success (with_reducible refine SH.r_make ?_)); walk_at "r1"))
local macro_rules | `(tactic| walk_at "rc") => `(tactic| repeat ((fail_if_success (with_reducible refine SH.r_call ?_)); walk_at "r1"))
/-! the same, up to an if -/
local macro_rules | `(tactic| walk_at "ri") => `(tactic| repeat ((fail_if_success (with_reducible refine SH.r_ifS ?_)); walk_at "r1"))

namespace Law
open PySem PySem.Spec PyProof.Rows L2 SH NdefX LamX
def top (i : Nat) : Stmt := PySem.Challenge.pw_sorthall_k67_whole_stopped.main.body.getD i (.Pass ⟨0, 0, 0, 0⟩)
abbrev s_cut_between : Stmt := top 2
theorem sc_cut_between : FnScope ["low", "high"] ["low", "high"] (defScope s_cut_between) := ⟨rfl, rfl, rfl, by decide +kernel, rfl, by decide +kernel, by decide +kernel⟩
abbrev s_Pour___init__ : Stmt := inClass (top 3) 0
theorem sc_Pour___init__ : FnScope ["self", "asker", "pieces", "piece"] ["self", "asker", "pieces"] (defScope s_Pour___init__) := ⟨rfl, rfl, rfl, by decide +kernel, rfl, by decide +kernel, by decide +kernel⟩
abbrev s_Pour_front : Stmt := inClass (top 3) 1
theorem sc_Pour_front : FnScope ["self", "number", "gone", "piece"] ["self", "number", "gone"] (defScope s_Pour_front) := ⟨rfl, rfl, rfl, by decide +kernel, rfl, by decide +kernel, by decide +kernel⟩
abbrev s_Pour_goes_on : Stmt := inClass (top 3) 2
theorem sc_Pour_goes_on : FnScope ["self", "one", "other"] ["self", "one", "other"] (defScope s_Pour_goes_on) := ⟨rfl, rfl, rfl, by decide +kernel, rfl, by decide +kernel, by decide +kernel⟩
abbrev s_Pour_meeting : Stmt := inClass (top 3) 3
theorem sc_Pour_meeting : FnScope ["self", "one", "other"] ["self", "one", "other"] (defScope s_Pour_meeting) := ⟨rfl, rfl, rfl, by decide +kernel, rfl, by decide +kernel, by decide +kernel⟩
abbrev s_Pour_hold_all : Stmt := inClass (top 3) 4
theorem sc_Pour_hold_all : FnScope ["self", "low", "high", "here", "middle", "one"] ["self", "low", "high"] (defScope s_Pour_hold_all) := ⟨rfl, rfl, rfl, by decide +kernel, rfl, by decide +kernel, by decide +kernel⟩
abbrev s_Pour_way_down : Stmt := inClass (top 3) 5
theorem sc_Pour_way_down : FnScope ["self", "number", "spans", "low", "high", "middle"] ["self", "number"] (defScope s_Pour_way_down) := ⟨rfl, rfl, rfl, by decide +kernel, rfl, by decide +kernel, by decide +kernel⟩
abbrev s_Pour_first : Stmt := inClass (top 3) 6
theorem sc_Pour_first : FnScope ["self", "top"] ["self"] (defScope s_Pour_first) := ⟨rfl, rfl, rfl, by decide +kernel, rfl, by decide +kernel, by decide +kernel⟩
abbrev s_Pour_left : Stmt := inClass (top 3) 7
theorem sc_Pour_left : FnScope ["self", "piece"] ["self"] (defScope s_Pour_left) := ⟨rfl, rfl, rfl, by decide +kernel, rfl, by decide +kernel, by decide +kernel⟩
abbrev s_Pour_take : Stmt := inClass (top 3) 8
theorem sc_Pour_take : FnScope ["self", "top", "number", "here", "anew", "low", "high", "middle"] ["self"] (defScope s_Pour_take) := ⟨rfl, rfl, rfl, by decide +kernel, rfl, by decide +kernel, by decide +kernel⟩
abbrev s_LastPour_front : Stmt := inClass (top 4) 0
theorem sc_LastPour_front : FnScope ["self", "number", "gone", "piece"] ["self", "number", "gone"] (defScope s_LastPour_front) := ⟨rfl, rfl, rfl, by decide +kernel, rfl, by decide +kernel, by decide +kernel⟩
abbrev s_LastPour_goes_on : Stmt := inClass (top 4) 1
theorem sc_LastPour_goes_on : FnScope ["self", "one", "other"] ["self", "one", "other"] (defScope s_LastPour_goes_on) := ⟨rfl, rfl, rfl, by decide +kernel, rfl, by decide +kernel, by decide +kernel⟩
abbrev s_TooFar___init__ : Stmt := inClass (top 8) 0
theorem sc_TooFar___init__ : FnScope ["self", "place", "others"] ["self", "place", "others"] (defScope s_TooFar___init__) := ⟨rfl, rfl, rfl, by decide +kernel, rfl, by decide +kernel, by decide +kernel⟩
abbrev s_Spent___init__ : Stmt := inClass (top 9) 0
theorem sc_Spent___init__ : FnScope ["self", "asked"] ["self", "asked"] (defScope s_Spent___init__) := ⟨rfl, rfl, rfl, by decide +kernel, rfl, by decide +kernel, by decide +kernel⟩
abbrev s_Asker___init__ : Stmt := inClass (top 11) 0
theorem sc_Asker___init__ : FnScope ["self", "row", "rule", "most"] ["self", "row", "rule", "most"] (defScope s_Asker___init__) := ⟨rfl, rfl, rfl, by decide +kernel, rfl, by decide +kernel, by decide +kernel⟩
abbrev s_Asker_many : Stmt := inClass (top 11) 1
theorem sc_Asker_many : FnScope ["self"] ["self"] (defScope s_Asker_many) := ⟨rfl, rfl, rfl, by decide +kernel, rfl, by decide +kernel, by decide +kernel⟩
abbrev s_Asker_ahead : Stmt := inClass (top 11) 2
theorem sc_Asker_ahead : FnScope ["self", "p", "q", "later", "earlier", "said"] ["self", "p", "q"] (defScope s_Asker_ahead) := ⟨rfl, rfl, rfl, by decide +kernel, rfl, by decide +kernel, by decide +kernel⟩
abbrev s_Asker_widen : Stmt := inClass (top 11) 4
theorem sc_Asker_widen : FnScope ["self", "more"] ["self", "more"] (defScope s_Asker_widen) := ⟨rfl, rfl, rfl, by decide +kernel, rfl, by decide +kernel, by decide +kernel⟩
abbrev s_Rule_before : Stmt := inClass (top 13) 0
theorem sc_Rule_before : FnScope ["self", "x", "y"] ["self", "x", "y"] (defScope s_Rule_before) := ⟨rfl, rfl, rfl, by decide +kernel, rfl, by decide +kernel, by decide +kernel⟩
abbrev s_AskedRule___init__ : Stmt := inClass (top 14) 0
theorem sc_AskedRule___init__ : FnScope ["self", "teller"] ["self", "teller"] (defScope s_AskedRule___init__) := ⟨rfl, rfl, rfl, by decide +kernel, rfl, by decide +kernel, by decide +kernel⟩
abbrev s_AskedRule_before : Stmt := inClass (top 14) 1
theorem sc_AskedRule_before : FnScope ["self", "x", "y", "ask"] ["self", "x", "y"] (defScope s_AskedRule_before) := ⟨rfl, rfl, rfl, by decide +kernel, rfl, by decide +kernel, by decide +kernel⟩
abbrev s__law_cell_at : Stmt := top 16
theorem sc__law_cell_at : FnScope ["_law_script", "_law_k"] ["_law_script", "_law_k"] (defScope s__law_cell_at) := ⟨rfl, rfl, rfl, by decide +kernel, rfl, by decide +kernel, by decide +kernel⟩
abbrev s__law_digits : Stmt := top 17
theorem sc__law_digits : FnScope ["_law_script", "_law_k", "_law_base", "_law_spare_ones", "_law_found", "_law_cell", "_law_turn"] ["_law_script", "_law_k", "_law_base"] (defScope s__law_digits) := ⟨rfl, rfl, rfl, by decide +kernel, rfl, by decide +kernel, by decide +kernel⟩
abbrev s__law_stream : Stmt := top 18
theorem sc__law_stream : FnScope ["_law_cell", "_law_many", "_law_found", "_law_number", "_law_k"] ["_law_cell", "_law_many"] (defScope s__law_stream) := ⟨rfl, rfl, rfl, by decide +kernel, rfl, by decide +kernel, by decide +kernel⟩
abbrev s__law_blocks : Stmt := top 19
theorem sc__law_blocks : FnScope ["_law_keys_here", "_law_cell", "_law_row", "_law_number", "_law_part"] ["_law_keys_here", "_law_cell"] (defScope s__law_blocks) := ⟨rfl, rfl, rfl, by decide +kernel, rfl, by decide +kernel, by decide +kernel⟩
abbrev s__law_nearly : Stmt := top 20
theorem sc__law_nearly : FnScope ["_law_keys_here", "_law_cell", "_law_row", "_law_number", "_law_at", "_law_key"] ["_law_keys_here", "_law_cell"] (defScope s__law_nearly) := ⟨rfl, rfl, rfl, by decide +kernel, rfl, by decide +kernel, by decide +kernel⟩
abbrev s__law_keys : Stmt := top 21
theorem sc__law_keys : FnScope ["_law_script", "_law_most", "_law_mode", "_law_mix", "_law_width", "_law_keys_here", "_law_way", "_law_cell", "_law_number"] ["_law_script", "_law_most"] (defScope s__law_keys) := ⟨rfl, rfl, rfl, by decide +kernel, rfl, by decide +kernel, by decide +kernel⟩
abbrev s__law_teller : Stmt := top 22
theorem sc__law_teller : FnScope ["_law_log", "_law_teller_here"] ["_law_log"] (defScope s__law_teller) := ⟨rfl, rfl, rfl, by decide +kernel, rfl, by decide +kernel, by decide +kernel⟩
abbrev s__law_whole : Stmt := top 23
theorem sc__law_whole : FnScope ["_law_found"] ["_law_found"] (defScope s__law_whole) := ⟨rfl, rfl, rfl, by decide +kernel, rfl, by decide +kernel, by decide +kernel⟩
abbrev s__law_dealt : Stmt := top 24
theorem sc__law_dealt : FnScope ["_law_keys_here", "_law_script", "_law_cell", "_law_mix", "_law_digits_here", "_law_many", "_law_number", "_law_pieces", "_law_some", "_law_place", "_law_pair", "_law_p"] ["_law_keys_here", "_law_script"] (defScope s__law_dealt) := ⟨rfl, rfl, rfl, by decide +kernel, rfl, by decide +kernel, by decide +kernel⟩
abbrev s__law_made : Stmt := top 25
theorem sc__law_made : FnScope ["_law_asker", "_law_pieces", "_law_last", "_law_told", "_law_piece"] ["_law_asker", "_law_pieces", "_law_last"] (defScope s__law_made) := ⟨rfl, rfl, rfl, by decide +kernel, rfl, by decide +kernel, by decide +kernel⟩
abbrev s__law_taken : Stmt := top 26
theorem sc__law_taken : FnScope ["_law_pour", "_law_told", "_law_e"] ["_law_pour"] (defScope s__law_taken) := ⟨rfl, rfl, rfl, by decide +kernel, rfl, by decide +kernel, by decide +kernel⟩
abbrev s__law_refused : Stmt := top 27
theorem sc__law_refused : FnScope ["_law_e", "_law_asker"] ["_law_e", "_law_asker"] (defScope s__law_refused) := ⟨rfl, rfl, rfl, by decide +kernel, rfl, by decide +kernel, by decide +kernel⟩
abbrev s__law_step : Stmt := top 28
theorem sc__law_step : FnScope ["_law_pour", "_law_asker", "_law_log", "_law_due", "_law_asks", "_law_more", "_law_left", "_law_first", "_law_made_here", "_law_word", "_law_told"] ["_law_pour", "_law_asker", "_law_log", "_law_due", "_law_asks", "_law_more"] (defScope s__law_step) := ⟨rfl, rfl, rfl, by decide +kernel, rfl, by decide +kernel, by decide +kernel⟩
abbrev s_law : Stmt := top 29
theorem sc_law : FnScope ["_law_script", "_law_keys_here", "_law_pieces", "_law_row", "_law_most", "_law_last", "_law_free", "_law_twin", "_law_log", "_law_asker", "_law_pour", "_law_more", "_law_places", "_law_piece", "_law_pair", "_law_made_here", "_law_k", "_law_key", "_law_place"] ["_law_script"] (defScope s_law) := ⟨rfl, rfl, rfl, by decide +kernel, rfl, by decide +kernel, by decide +kernel⟩
abbrev s__law_teller___law_teller_here : Stmt := inDef (top 22) 0
theorem sc__law_teller___law_teller_here : NScope ["_law_x", "_law_y", "_law_log", "_law_said"] ["_law_x", "_law_y"] ["_law_log"] (C8.fnScope s__law_teller___law_teller_here) := nscope_by (by decide +kernel)
abbrev s_LastPour___init__ : Stmt := inClass (top 3) 0
theorem sc_LastPour___init__ : FnScope ["self", "asker", "pieces", "piece"] ["self", "asker", "pieces"] (defScope s_LastPour___init__) := ⟨rfl, rfl, rfl, by decide +kernel, rfl, by decide +kernel, by decide +kernel⟩
abbrev s_LastPour_meeting : Stmt := inClass (top 3) 3
theorem sc_LastPour_meeting : FnScope ["self", "one", "other"] ["self", "one", "other"] (defScope s_LastPour_meeting) := ⟨rfl, rfl, rfl, by decide +kernel, rfl, by decide +kernel, by decide +kernel⟩
abbrev s_LastPour_hold_all : Stmt := inClass (top 3) 4
theorem sc_LastPour_hold_all : FnScope ["self", "low", "high", "here", "middle", "one"] ["self", "low", "high"] (defScope s_LastPour_hold_all) := ⟨rfl, rfl, rfl, by decide +kernel, rfl, by decide +kernel, by decide +kernel⟩
abbrev s_LastPour_way_down : Stmt := inClass (top 3) 5
theorem sc_LastPour_way_down : FnScope ["self", "number", "spans", "low", "high", "middle"] ["self", "number"] (defScope s_LastPour_way_down) := ⟨rfl, rfl, rfl, by decide +kernel, rfl, by decide +kernel, by decide +kernel⟩
abbrev s_LastPour_first : Stmt := inClass (top 3) 6
theorem sc_LastPour_first : FnScope ["self", "top"] ["self"] (defScope s_LastPour_first) := ⟨rfl, rfl, rfl, by decide +kernel, rfl, by decide +kernel, by decide +kernel⟩
abbrev s_LastPour_left : Stmt := inClass (top 3) 7
theorem sc_LastPour_left : FnScope ["self", "piece"] ["self"] (defScope s_LastPour_left) := ⟨rfl, rfl, rfl, by decide +kernel, rfl, by decide +kernel, by decide +kernel⟩
abbrev s_LastPour_take : Stmt := inClass (top 3) 8
theorem sc_LastPour_take : FnScope ["self", "top", "number", "here", "anew", "low", "high", "middle"] ["self"] (defScope s_LastPour_take) := ⟨rfl, rfl, rfl, by decide +kernel, rfl, by decide +kernel, by decide +kernel⟩
structure Ad where
  Pour : Addr
  LastPour : Addr
  HallError : Addr
  NoPlace : Addr
  TooFar : Addr
  Spent : Addr
  Asker : Addr
  Rule : Addr
  AskedRule : Addr
  P : Addr
structure Txt (K : PySem.W.Frag) (mg : Str → Option Value) (A : Ad) : Prop where
  z_ValueError : mg "ValueError" = Option.none
  z_range : mg "range" = Option.none
  z_sorted : mg "sorted" = Option.none
  z_len : mg "len" = Option.none
  z_reversed : mg "reversed" = Option.none
  z_list : mg "list" = Option.none
  z_max : mg "max" = Option.none
  z_min : mg "min" = Option.none
  z_isinstance : mg "isinstance" = Option.none
  z_int : mg "int" = Option.none
  z_sum : mg "sum" = Option.none
  z_bool : mg "bool" = Option.none
  z_enumerate : mg "enumerate" = Option.none
  g_Pour : mg "Pour" = some (.ref A.Pour)
  cl_Pour : Cls K A.Pour
  na_Pour_asker : NoAttr K A.Pour "asker"
  na_Pour_pieces : NoAttr K A.Pour "pieces"
  na_Pour_gone : NoAttr K A.Pour "gone"
  na_Pour_went_on : NoAttr K A.Pour "went_on"
  g_LastPour : mg "LastPour" = some (.ref A.LastPour)
  cl_LastPour : Cls K A.LastPour
  na_LastPour_pieces : NoAttr K A.LastPour "pieces"
  na_LastPour_asker : NoAttr K A.LastPour "asker"
  na_LastPour_gone : NoAttr K A.LastPour "gone"
  na_LastPour_went_on : NoAttr K A.LastPour "went_on"
  g_HallError : mg "HallError" = some (.ref A.HallError)
  xn_HallError : PySem.W.excIn K A.HallError [.type "ValueError", .type "Exception", .type "BaseException", .type "object"] "ValueError.__new__" = true
  kp_HallError : PySem.W.keepIn K (.ref A.HallError) = true
  sb_HallError : PySem.W.subIn K (.ref A.HallError) (.type "BaseException") = some true
  ty_HallError : PySem.W.typeIn K (.ref A.HallError) = some (.type "type")
  ec_HallError : L2.ExcC K A.HallError
  g_NoPlace : mg "NoPlace" = some (.ref A.NoPlace)
  g_TooFar : mg "TooFar" = some (.ref A.TooFar)
  g_Spent : mg "Spent" = some (.ref A.Spent)
  ox_Spent : L2.OexC K A.Spent
  na_Spent_asked : PySem.W.findIn K (.ref A.Spent) "asked" = some none
  kp_Spent : PySem.W.keepIn K (.ref A.Spent) = true
  sb_Spent : PySem.W.subIn K (.ref A.Spent) (.type "BaseException") = some true
  ty_Spent : PySem.W.typeIn K (.ref A.Spent) = some (.type "type")
  ec_Spent : L2.ExcC K A.Spent
  g_Asker : mg "Asker" = some (.ref A.Asker)
  cl_Asker : Cls K A.Asker
  na_Asker_row : NoAttr K A.Asker "row"
  na_Asker_rule : NoAttr K A.Asker "rule"
  na_Asker_most : NoAttr K A.Asker "most"
  na_Asker_asked : NoAttr K A.Asker "asked"
  na_Asker_log : NoAttr K A.Asker "log"
  g_Rule : mg "Rule" = some (.ref A.Rule)
  cl_Rule : Cls K A.Rule
  g_AskedRule : mg "AskedRule" = some (.ref A.AskedRule)
  cl_AskedRule : Cls K A.AskedRule
  na_AskedRule_teller : NoAttr K A.AskedRule "teller"
  exm_Spent_HallError : PySem.W.exmOne K (.ref A.Spent) (.ref A.HallError) = some true
  exm_Spent_Spent : PySem.W.exmOne K (.ref A.Spent) (.ref A.Spent) = some true
  kits_Spent_Spent : PySem.W.kitOne K (.ref A.Spent) (.ref A.Spent) = some true
  kits_Spent_NoPlace : PySem.W.kitOne K (.ref A.Spent) (.ref A.NoPlace) = some false
  kits_Spent_TooFar : PySem.W.kitOne K (.ref A.Spent) (.ref A.TooFar) = some false
/-! ### papers -/
/-- nats in a list of the heap -/
abbrev nv (ps : List Nat) : List V := ps.map fun n : Nat => V.int n
def Pap (ps : List Nat) : Prop := ps.Perm (List.range ps.length)
theorem Pap.lt {ps : List Nat} (h : Pap ps) {p : Nat} (hp : p ∈ ps) : p < ps.length := List.mem_range.mp (h.mem_iff.mp hp)
theorem Pap.mem {ps : List Nat} (h : Pap ps) {p : Nat} (hp : p < ps.length) : p ∈ ps := h.mem_iff.mpr (List.mem_range.mpr hp)
theorem Pap.nodup {ps : List Nat} (h : Pap ps) : ps.Nodup := h.nodup_iff.mpr List.nodup_range
theorem pap_range (n : Nat) : Pap (List.range n) := by unfold Pap; rw [List.length_range]
/-- the paper back -/
def inv (ps : List Nat) : List Nat := (List.range ps.length).map fun i => ps.idxOf i
theorem inv_len (ps : List Nat) : (inv ps).length = ps.length := by simp [inv]
theorem inv_at {ps : List Nat} {i : Nat} (h : i < ps.length) : (inv ps)[i]? = some (ps.idxOf i) := by simp [inv, h]
theorem Pap.idx {ps : List Nat} (h : Pap ps) {i : Nat} (hi : i < ps.length) : ps.idxOf i < ps.length ∧ ps[ps.idxOf i]? = some i := by
  have hm := h.mem hi
  have hl := List.idxOf_lt_length_of_mem hm
  exact ⟨hl, by rw [List.getElem?_eq_getElem hl]; simp⟩
theorem Pap.idx_at {ps : List Nat} (h : Pap ps) {a p : Nat} (e : ps[a]? = some p) : ps.idxOf p = a := by
  obtain ⟨ha, e⟩ := List.getElem?_eq_some_iff.mp e
  rw [← e]
  exact List.Nodup.idxOf_getElem h.nodup a ha
/-- told[ps[a]] = a all through -/
theorem Pap.inv_of {ps told : List Nat} (h : Pap ps) (hl : told.length = ps.length) (ht : ∀ (a p : Nat), ps[a]? = some p → told[p]? = some a) : told = inv ps := by
  refine List.ext_getElem? fun i => ?_
  by_cases hi : i < ps.length
  · rw [inv_at hi]
    exact ht _ _ (h.idx hi).2
  · rw [List.getElem?_eq_none (by omega), List.getElem?_eq_none (by rw [inv_len]; omega)]
theorem Pap.inv {ps : List Nat} (h : Pap ps) : Pap (inv ps) := by
  unfold Pap
  rw [inv_len]
  refine (List.perm_ext_iff_of_nodup ?_ List.nodup_range).mpr fun a => ?_
  · unfold Law.inv
    refine List.pairwise_map.mpr (List.Pairwise.imp_of_mem ?_ List.nodup_range)
    intro x y hx hy hne e
    have ex := (h.idx (List.mem_range.mp hx)).2
    have ey := (h.idx (List.mem_range.mp hy)).2
    rw [e] at ex
    exact hne (Option.some.inj (ex.symm.trans ey))
  · unfold Law.inv
    rw [List.mem_map, List.mem_range]
    constructor
    · rintro ⟨i, hi, rfl⟩; exact (h.idx (List.mem_range.mp hi)).1
    · intro ha
      refine ⟨ps[a], List.mem_range.mpr (h.lt (List.getElem_mem ha)), h.idx_at (by simp [ha])⟩
/-- what is laid -/
def lay {α : Type} (d : α) (row : List α) (ps : List Nat) : List α := ps.map fun p => row.getD p d
theorem lay_len {α : Type} {d : α} {row : List α} {ps : List Nat} : (lay d row ps).length = ps.length := by simp [lay]
theorem lay_map {α β : Type} (f : α → β) (d : α) (row : List α) (ps : List Nat) : lay (f d) (row.map f) ps = (lay d row ps).map f := by
  unfold lay
  rw [List.map_map]
  refine List.map_congr_left fun p _ => ?_
  simp [List.getD_eq_getElem?_getD, Option.getD_map]
/-- laid by a paper and then by another one -/
theorem lay_lay {α : Type} {d : α} {row : List α} {ps qs : List Nat} (h : ∀ q ∈ qs, q < ps.length) : lay d (lay d row ps) qs = lay d row (lay 0 ps qs) := by
  unfold lay
  rw [List.map_map]
  refine List.map_congr_left fun q hq => ?_
  have := h q hq
  simp [this]
theorem lay_stay {α : Type} {d : α} {row : List α} : lay d row (List.range row.length) = row := by
  refine List.ext_getElem? fun i => ?_
  by_cases hi : i < row.length
  · simp [lay, hi]
  · rw [List.getElem?_eq_none (by rw [lay_len, List.length_range]; omega), List.getElem?_eq_none (by omega)]
theorem Pap.lay_inv {ps : List Nat} (h : Pap ps) : lay 0 ps (Law.inv ps) = List.range ps.length := by
  unfold lay Law.inv
  rw [List.map_map]
  refine (List.map_congr_left (g := id) fun i hi => ?_).trans (List.map_id _)
  have := (h.idx (List.mem_range.mp hi)).2
  simp [List.getD_eq_getElem?_getD, this]
theorem Pap.inv_lay {ps : List Nat} (h : Pap ps) : lay 0 (Law.inv ps) ps = List.range ps.length := by
  refine List.ext_getElem? fun i => ?_
  by_cases hi : i < ps.length
  · have e : ps[i]? = some ps[i] := List.getElem?_eq_getElem hi
    have e2 := inv_at (h.lt (List.getElem_mem hi))
    rw [h.idx_at e] at e2
    simp [lay, hi, List.getD_eq_getElem?_getD, e2]
  · rw [List.getElem?_eq_none (by rw [lay_len]; omega), List.getElem?_eq_none (by rw [List.length_range]; omega)]
theorem Pap.lay {ps qs : List Nat} (h : Pap ps) (k : Pap qs) (e : ps.length = qs.length) : Pap (lay 0 ps qs) := by
  unfold Pap
  rw [lay_len]
  have h1 : (Law.lay 0 ps qs).Perm (Law.lay 0 ps (List.range qs.length)) := List.Perm.map _ k
  rw [← e, lay_stay] at h1
  rw [← e]
  exact h1.trans h
/-- the back of two behind one another -/
theorem Pap.inv_two {ps qs : List Nat} (h : Pap ps) (k : Pap qs) (e : ps.length = qs.length) : Law.inv (Law.lay 0 ps qs) = Law.lay 0 (Law.inv qs) (Law.inv ps) := by
  have hb := h.lay k e
  refine (hb.inv_of (by rw [lay_len, inv_len, lay_len]; exact e) fun a p hp => ?_).symm
  have ha : a < qs.length := by
    have := (List.getElem?_eq_some_iff.mp hp).1
    rwa [lay_len] at this
  have hq : qs[a]? = some qs[a] := List.getElem?_eq_getElem ha
  have hlt := k.lt (List.getElem_mem ha)
  have hp2 : ps[qs[a]]? = some p := by
    simp only [Law.lay, List.getElem?_map, hq, Option.map_some, List.getD_eq_getElem?_getD] at hp
    rw [List.getElem?_eq_getElem (by omega)] at hp ⊢
    exact hp
  have hpl : p < ps.length := h.lt (List.mem_of_getElem? hp2)
  simp only [Law.lay, List.getElem?_map, inv_at hpl, Option.map_some, h.idx_at hp2, List.getD_eq_getElem?_getD, inv_at hlt, k.idx_at hq, Option.getD_some]
/-- put in anywhere -/
theorem Pap.insert {ps : List Nat} (h : Pap ps) (i : Nat) : Pap (ps.take i ++ [ps.length] ++ ps.drop i) := by
  unfold Pap
  have hl : (ps.take i ++ [ps.length] ++ ps.drop i).length = ps.length + 1 := by
    simp only [List.length_append, List.length_take, List.length_drop, List.length_singleton]; omega
  rw [hl, List.range_succ]
  have : (ps.take i ++ [ps.length] ++ ps.drop i).Perm (ps ++ [ps.length]) := by
    have h1 : (ps.take i ++ [ps.length] ++ ps.drop i).Perm (ps.take i ++ (ps.drop i ++ [ps.length])) := by
      rw [List.append_assoc]
      exact List.Perm.append_left _ List.perm_append_comm
    rw [← List.append_assoc, List.take_append_drop] at h1
    exact h1
  exact this.trans (List.Perm.append_right _ h)
theorem lay_succ {α : Type} {d : α} {row : List α} {qs : List Nat} {j q : Nat} (h : qs[j]? = some q) : lay d row (qs.take (j + 1)) = lay d row (qs.take j) ++ [row.getD q d] := by
  unfold lay
  rw [List.take_succ, h]
  simp
theorem nv_at {ps : List Nat} {q : Nat} (h : q < ps.length) : (nv ps)[q]? = some (.int (ps.getD q 0)) := by simp [nv, h]
theorem nv_app {ps : List Nat} {q : Nat} : nv (ps ++ [q]) = nv ps ++ [.int q] := by simp [nv]
/-! ### the function that the rule asks: it goes by the first numbers and writes down -/
def sp__law_teller___law_teller_here (K : PySem.W.Frag) (A : Ad) : List V → Sp := fun ws vs H Q _ => ∃ (l x y : Addr) (evs : List V) (kx ky : Int) (px py : Nat), vs = [.ref x, .ref y] ∧ (ws = [.ref l] ∧ H l = some (.lst evs) ∧ evs.length ≤ 100000 ∧ H x = some (.tup [.int kx, .int px]) ∧ H y = some (.tup [.int ky, .int py])) ∧
  ∀ t H', Stp [l] H H' → H' l = some (.lst (evs ++ [.ref t])) → H' t = some (.tup [.int px, .int py, .bl (decide (kx < ky))]) → Q (.bl (decide (kx < ky))) H'
abbrev Clo1 (H : Hp) (f : Addr) (ws : List V) (cl : List (Str × Addr)) (c' : Addr) : Prop := SH.Clo H f s__law_teller___law_teller_here "_law_teller_here" "_law_teller.<locals>._law_teller_here" ["_law_log"] ws cl c'
abbrev telAt : Addr → Hp → Prop := fun f H => ∃ ws cl c', SH.Clo H f s__law_teller___law_teller_here "_law_teller_here" "_law_teller.<locals>._law_teller_here" ["_law_log"] ws cl c'
abbrev telSp (K : PySem.W.Frag) (A : Ad) : Addr → Sp := fun f vs H Q E => ∃ ws cl c', SH.Clo H f s__law_teller___law_teller_here "_law_teller_here" "_law_teller.<locals>._law_teller_here" ["_law_log"] ws cl c' ∧ sp__law_teller___law_teller_here K A ws vs H Q E
theorem cok__law_teller___law_teller_here {P : Program} {w : World} {K : PySem.W.Frag} {mg : Str → Option Value} {base : Heap} {A : Ad} (T : Txt K mg A) : SH.COk P w K mg base CX0 1 s__law_teller___law_teller_here "_law_teller_here" "_law_teller.<locals>._law_teller_here" ["_law_x", "_law_y"] ["_law_log"] (sp__law_teller___law_teller_here K A) := by
  refine SH.cok_of sc__law_teller___law_teller_here (fun _ _ _ _ _ us hl => match us, hl with | [_, _], _ => rfl) (fun ws vs H Q E h => by obtain ⟨_, _, _, _, _, _, _, _, rfl, _⟩ := h; rfl) (fun A' outer s f cl c' H H0 vs ws Q Q0 E hr h hw lo fin => ?_)
  obtain ⟨l, x, y, evs, kx, ky, px, py, rfl, ⟨rfl, hl, hle, hx, hy⟩, k⟩ := h
  refine ⟨_, (pss_cons (ps_set (i := 3) sc__law_teller___law_teller_here.nd rfl (Or.inl rfl) (pe_cmpR (SH.oLt hr.units0) (pe_ix SH.ixA (pv 0) pe_int (fun _ _ => rfl)) (pe_ix SH.ixA (pv 1) pe_int (fun _ _ => rfl)) (nomark _)))
        (pss_cons (ps_expr (pe_bm PySem.F.plainAttrs_list PySem.F.slot_list_append PySem.F.type_list_append mt_append (pv 2) (pa_cons (pe_tup (pa_cons (pe_ix SH.ixA (pv 0) pe_int (fun _ _ => rfl)) (pa_cons (pe_ix SH.ixA (pv 1) pe_int (fun _ _ => rfl)) (pa_cons (pv 3) pa_nil)))) pa_nil)))
        (pss_one (ps_ret (pv 3))))), ?_⟩
  show (_ : TS) _ [some (.ref x), some (.ref y), some (.ref l), none] H0
  dsimp only [NdefX.ncx]
  have hl0 := lo _ _ hl True.intro
  have hx0 := lo _ _ hx True.intro
  have hy0 := lo _ _ hy True.intro
  walk_at "rd"
  refine v_ixTn (n := 0) (SqT.of hx0) rfl rfl ?_
  walk_at "rd"
  refine v_ixTn (n := 0) (SqT.of hy0) rfl rfl ?_
  walk_at "rd"
  refine v_ixTn (n := 1) (SqT.of hx0) rfl rfl ?_
  walk_at "rd"
  refine v_ixTn (n := 1) (SqT.of hy0) rfl rfl ?_
  walk_at "rd"
  intro t ht
  walk_at "rd"
  have ntl : t ≠ l := (ne_of_none hl0 ht).symm
  refine v_app (upd_old hl0 ht) (by omega) ?_
  walk_at "rd"
  refine fin _ [l] _ (((Stp.refl [l] H0).new ht).putL (by simp) (upd_old hl0 ht)) fun H' S hsub => ?_
  exact k t H' S (hsub l _ upd_same) (hsub t _ (upd_far ntl upd_same))
abbrev Tb (A : Ad) : List NTab := [(A.P, fun _ _ => "_law_teller.<locals>._law_teller_here")]
def sp__law_teller (K : PySem.W.Frag) (A : Ad) : Sp := fun vs H Q _ => ∃ (p0 : V), vs = [p0] ∧ TabsN (Tb A) H ∧ ∀ (f' : Addr) (H' : Hp) (cl : List (Str × Addr)) (c' : Addr), ExtN H H' → (∀ b, H' b = none → H b = none) → TabsN (Tb A) H' → H f' = none → SH.Clo H' f' s__law_teller___law_teller_here "_law_teller_here" "_law_teller.<locals>._law_teller_here" ["_law_log"] [p0] cl c' → Q (.ref f') H'
theorem ok__law_teller {P : Program} {w : World} {K : PySem.W.Frag} {mg : Str → Option Value} {base : Heap} {A : Ad} {f c : Addr} {dV kV doc pm ct oc : Value} {an od : Option Addr} {osl : Array (Option Value)} (lk : K.lookup f = some ⟨oc, od, .func (PySem.W.fnOf "_law_teller" "_law_teller" (defArgs s__law_teller) (defBody s__law_teller) (defScope s__law_teller) dV kV doc pm an (.ref c) ct), osl⟩) (hcd : PySem.W.codeIn K (.ref c) "_law_teller" = true) (TB : LamX.TabB base mg c A.P) :
    FnOk P w K mg base CX0 1 f (PySem.W.fnOf "_law_teller" "_law_teller" (defArgs s__law_teller) (defBody s__law_teller) (defScope s__law_teller) dV kV doc pm an (.ref c) ct) ["_law_log"] (sp__law_teller K A) := by
  refine SH.maker (T := Tb A) (fr := ["_law_log"]) (ps := ["_law_log"]) (i := 1) (st := s__law_teller___law_teller_here) (ix := [0]) lk hcd sc__law_teller rfl rfl TB (List.mem_singleton.mpr rfl) rfl (fun p hp _ => by rw [List.mem_singleton] at hp; rw [hp]) (fun _ _ => rfl) (by decide +kernel) (by decide +kernel) (by decide +kernel) rfl rfl (fun _ => rfl) rfl rfl (by decide) (by decide) (by decide) rfl (fun vs H Q E h => by obtain ⟨_, rfl, _⟩ := h; rfl) (fun vs H Q E h => ?_)
  obtain ⟨p0, rfl, h1, h2⟩ := h
  exact ⟨h1, h2⟩
/-! ### asks: the later place, the earlier one, what was told -/
abbrev Ent := T3 Nat Nat Bool
/-- all entries are what the oracle tells -/
def Told (or : List Ent → Nat → Nat → Bool) : List Ent → List Ent → Prop
  | _, [] => True
  | log, e :: es => e.c = or log e.a e.b ∧ Told or (log ++ [e]) es
theorem Told.app {or : List Ent → Nat → Nat → Bool} : ∀ {log es fs : List Ent}, Told or log es → Told or (log ++ es) fs → Told or log (es ++ fs)
  | log, [], fs, _, h => by simpa using h
  | log, e :: es, fs, h, k => ⟨h.1, Told.app h.2 (by simpa using k)⟩
theorem Told.one {or : List Ent → Nat → Nat → Bool} {log : List Ent} {e : Ent} (h : e.c = or log e.a e.b) : Told or log [e] := ⟨h, True.intro⟩
/-- an oracle that doesn't look at the log -/
theorem Told.all {lt : Nat → Nat → Bool} : ∀ {log es : List Ent}, Told (fun _ => lt) log es → ∀ e ∈ es, e.c = lt e.a e.b
  | log, [], _, e, h => by cases h
  | log, e' :: es, h, e, he => by
    rcases List.mem_cons.mp he with z | he
    · rw [z]; exact h.1
    · exact Told.all h.2 e he
theorem max_v (p q : Nat) : (if (q : Int) > (p : Int) then (q : Int) else (p : Int)) = ((max p q : Nat) : Int) := by split <;> omega
theorem min_v (p q : Nat) : (if (q : Int) < (p : Int) then (q : Int) else (p : Int)) = ((min p q : Nat) : Int) := by split <;> omega
def AskF (r : Addr) (u : V) (n : Nat) (l : Addr) : List (Str × V) := [("row", .ref r), ("rule", u), ("most", .non), ("asked", .int n), ("log", .ref l)]
def sp_Spent___init__ (K : PySem.W.Frag) (A : Ad) : Sp := sp1 "asked" A.Spent
theorem ok_Spent___init__ {P : Program} {w : World} {K : PySem.W.Frag} {mg : Str → Option Value} {base : Heap} {A : Ad} {f : Addr} {fd : FuncData} (F : Fun K "__init__" "Spent.__init__" s_Spent___init__ f fd) (T : Txt K mg A)  : FnOk P w K mg base CX0 1 f fd ["self", "asked"] (sp_Spent___init__ K A) := by
  refine F.ok sc_Spent___init__ (fun vs H Q E h => by obtain ⟨_, _, rfl, _⟩ := h; rfl) (fun cdv A' outer s H vs Q E hr h => ?_)
  obtain ⟨a, v, rfl, ha, k⟩ := h
  refine ⟨_, (pss_one (L2.ps_ost (pv 0) (pv 1))), ?_⟩
  walk_at "begin"
  walk_at "rd"
  refine ⟨a, A.Spent, rfl, T.ox_Spent, T.na_Spent_asked, .inl ⟨ha, fun dx h1 h2 => ?_⟩⟩
  exact k dx h1 h2
theorem r_J {t : TS} {D : Ends} {σ : L2.St} {H : Hp} (P : L2.St → Hp → Prop) (hk : ∀ σ' H', P σ' H' → D.nx σ' H') (h : ∀ N : L2.St → Hp → Prop, (∀ σ' H', P σ' H' → N σ' H') → t { D with nx := N } σ H) : t D σ H := h D.nx hk
def mV : Option Nat → V
  | none => .non
  | some n => .int (n : Nat)
def AskM (r : Addr) (u : V) (m : Option Nat) (n : Nat) (l : Addr) : List (Str × V) := [("row", .ref r), ("rule", u), ("most", mV m), ("asked", .int n), ("log", .ref l)]
def sp_AskedRule___init__ (K : PySem.W.Frag) (A : Ad) : Sp := fun vs H Q _ => ∃ (s : Addr) (f : V), vs = [.ref s, f] ∧ (∃ dx, H s = some (.ins A.AskedRule dx [])) ∧ ∀ dx, Q .non (upd H s (.ins A.AskedRule dx [("teller", f)]))
theorem ok_AskedRule___init__ {P : Program} {w : World} {K : PySem.W.Frag} {mg : Str → Option Value} {base : Heap} {A : Ad} {f : Addr} {fd : FuncData} (F : Fun K "__init__" "AskedRule.__init__" s_AskedRule___init__ f fd) (T : Txt K mg A)  : FnOk P w K mg base CX0 1 f fd ["self", "teller"] (sp_AskedRule___init__ K A) := by
  refine F.ok sc_AskedRule___init__ (fun vs H Q E h => by obtain ⟨_, _, rfl, _⟩ := h; rfl) (fun cdv A' outer s H vs Q E hr h => ?_)
  obtain ⟨s', f', rfl, ⟨dx, hs⟩, k⟩ := h
  refine ⟨_, (pss_one (SH.ps_fldF T.cl_AskedRule T.na_AskedRule_teller (pv 0) (pv 1) rfl)), ?_⟩
  walk_at "begin"
  walk_at "rd"
  exact k dx

def sp_AskedRule_before (K : PySem.W.Frag) (A : Ad) : Sp := fun vs H Q E => ∃ (u f x y d : Addr), vs = [.ref u, .ref x, .ref y] ∧ H u = some (.ins A.AskedRule d [("teller", .ref f)]) ∧ telAt f H ∧ telSp K A f [.ref x, .ref y] H Q (fun _ _ _ => False)
theorem ok_AskedRule_before {P : Program} {w : World} {K : PySem.W.Frag} {mg : Str → Option Value} {base : Heap} {A : Ad} {f : Addr} {fd : FuncData} (F : Fun K "before" "AskedRule.before" s_AskedRule_before f fd) (T : Txt K mg A) (TEL : SH.TelOk P w K mg base 1 telAt (telSp K A)) : FnOk P w K mg base CX0 2 f fd ["self", "x", "y"] (sp_AskedRule_before K A) := by
  refine F.ok sc_AskedRule_before (fun vs H Q E h => by obtain ⟨_, _, _, _, _, rfl, _⟩ := h; rfl) (fun cdv A' outer s H vs Q E hr h => ?_)
  obtain ⟨u, f', x, y, d, rfl, hu, hat, k⟩ := h
  refine ⟨_, (pss_cons (ps_set (i := 3) sc_AskedRule_before.nd rfl (Or.inl rfl) (SH.pe_fldF T.cl_AskedRule T.na_AskedRule_teller (pv 0)))
        (pss_one (ps_ret (SH.pe_callTel (i := 3) TEL hr rfl (Or.inl rfl) (pa_cons (pv 1) (pa_cons (pv 2) pa_nil)))))), ?_⟩
  walk_at "begin"
  walk_at "rd"
  refine SH.r_tel rfl hat ?_
  walk_at "rd"
  exact k

/-! ### the asker of a function that goes by keys and writes down -/
/-- a row of pairs (key, place) -/
def RowP (H : Hp) (row : List V) (ks : List Int) : Prop := row.length = ks.length ∧ ∀ (i : Nat) (v : V), row[i]? = some v → ∃ (t : Addr), v = .ref t ∧ H t = some (.tup [.int (getE ks i), .int (i : Nat)])
theorem RowP.stp {M : List Addr} {H H' : Hp} {row : List V} {ks : List Int} (h : RowP H row ks) (S : Stp M H H') : RowP H' row ks :=
  ⟨h.1, fun i v e => by obtain ⟨t, h1, h2⟩ := h.2 i v e; exact ⟨t, h1, S.tup h2⟩⟩
theorem RowP.app {H : Hp} {row : List V} {ks : List Int} {t : Addr} {k : Int} (h : RowP H row ks) (ht : H t = some (.tup [.int k, .int (row.length : Nat)])) : RowP H (row ++ [.ref t]) (ks ++ [k]) := by
  refine ⟨by simp [h.1], fun i v e => ?_⟩
  by_cases hi : i < row.length
  · rw [List.getElem?_append_left hi] at e
    obtain ⟨t', a, b⟩ := h.2 i v e
    exact ⟨t', a, by rw [getE_app (by rw [← h.1]; exact hi)]; exact b⟩
  · rw [List.getElem?_append_right (by omega)] at e
    have hz : i = row.length := by
      have := (List.getElem?_eq_some_iff.mp e).1
      simp at this; omega
    subst hz
    simp at e
    exact ⟨t, e.symm, by rw [getE_last h.1.symm]; exact ht⟩
structure Ask where
  s : Addr
  r : Addr
  l : Addr
  dx : Addr
  u : Addr
  du : Addr
  f : Addr
  tl : Addr
  cl : List (Str × Addr)
  cc : Addr
  ks : List Int
  row : List V
  pre : List Ent
  m : Option Nat
def Ask.n (I : Ask) : Nat := I.ks.length
def Ask.M (I : Ask) : List Addr := [I.s, I.l, I.tl]
def Ask.own (I : Ask) : List Addr := [I.s, I.l, I.tl, I.r, I.u]
def Ask.lt (I : Ask) (p q : Nat) : Bool := decide (getE I.ks p < getE I.ks q)
def Ask.or (I : Ask) : List Ent → Nat → Nat → Bool := fun _ => I.lt
structure Ask.At (I : Ask) (K : PySem.W.Frag) (A : Ad) (H : Hp) (log : List Ent) : Prop where
  hs : H I.s = some (.ins A.Asker I.dx (AskM I.r (.ref I.u) I.m log.length I.l))
  hr : H I.r = some (.lst I.row)
  hl : ∃ evs, H I.l = some (.lst evs) ∧ IsL K H evs log
  hu : H I.u = some (.ins A.AskedRule I.du [("teller", .ref I.f)])
  ht : ∃ evs, H I.tl = some (.lst evs) ∧ IsL K H evs (I.pre ++ log)
  hf : Clo1 H I.f [.ref I.tl] I.cl I.cc
  rk : RowP H I.row I.ks
  d1 : I.s ≠ I.u
  d2 : I.l ≠ I.r
  d3 : I.tl ≠ I.r
  d4 : I.l ≠ I.tl
  few : log.length + I.pre.length ≤ 100000
  rows : I.row.length ≤ 100000
  bd : ∀ m, I.m = some m → log.length ≤ m
theorem Ask.At.stp {I : Ask} {K : PySem.W.Frag} {A : Ad} {M : List Addr} {H H' : Hp} {log : List Ent} (h : I.At K A H log) (S : Stp M H H') (hM : ∀ m ∈ M, m ∉ I.own) : I.At K A H' log := by
  have k : ∀ b o, b ∈ I.own → H b = some o → H' b = some o := fun b o hb e => S.keep e fun z => hM b z hb
  obtain ⟨evs, h1, h2⟩ := h.hl
  obtain ⟨tvs, h3, h4⟩ := h.ht
  exact ⟨k _ _ (by simp [Ask.own]) h.hs, k _ _ (by simp [Ask.own]) h.hr, ⟨evs, k _ _ (by simp [Ask.own]) h1, isl_stpM S h2⟩, k _ _ (by simp [Ask.own]) h.hu, ⟨tvs, k _ _ (by simp [Ask.own]) h3, isl_stpM S h4⟩, h.hf.step S, h.rk.stp S, h.d1, h.d2, h.d3, h.d4, h.few, h.rows, h.bd⟩
theorem Ask.At.n_row {I : Ask} {K : PySem.W.Frag} {A : Ad} {H : Hp} {log : List Ent} (h : I.At K A H log) : I.row.length = I.n := h.rk.1

/-- a way is stopped: the asks so far, es, are the first of those that it would have made, es ++ es' -/
def Stop (I : Ask) (K : PySem.W.Frag) (A : Ad) (H : Hp) (log : List Ent) (R : List Ent → Prop) (E : XK) : Prop := ∀ (H' : Hp) (d : Addr) (es es' : List Ent), R (es ++ es') → es' ≠ [] → Told I.or log (es ++ es') → I.m = some (log.length + es.length) → Stp I.M H H' → I.At K A H' (log ++ es) → H d = none → H' d = some (.xd [("asked", .int ((log.length + es.length : Nat) : Int))]) → E (.ref A.Spent) (some d) H'
theorem Stop.free {I : Ask} {K : PySem.W.Frag} {A : Ad} {H : Hp} {log : List Ent} {R : List Ent → Prop} {E : XK} (h : I.m = none) : Stop I K A H log R E := fun _ _ _ _ _ _ _ hm => by rw [h] at hm; cases hm
theorem Stop.sub {I : Ask} {K : PySem.W.Frag} {A : Ad} {H H1 : Hp} {log es1 : List Ent} {R R1 : List Ent → Prop} {E : XK} (h : Stop I K A H log R E) (S : Stp I.M H H1) (hT : Told I.or log es1) (hR : ∀ es2, R1 es2 → Told I.or (log ++ es1) es2 → ∃ es3, Told I.or (log ++ es1 ++ es2) es3 ∧ R (es1 ++ es2 ++ es3)) : Stop I K A H1 (log ++ es1) R1 E := fun H' d es es' h1 hne hT1 hm S' hA hd hx => by
  obtain ⟨es3, hT3, hR3⟩ := hR _ h1 hT1
  have e : es1 ++ (es ++ es') ++ es3 = es1 ++ es ++ (es' ++ es3) := by simp
  have el : (log ++ es1).length + es.length = log.length + (es1 ++ es).length := by simp; omega
  rw [e] at hR3
  rw [el] at hm hx
  refine h H' d (es1 ++ es) (es' ++ es3) hR3 (by simp [hne]) ?_ hm (S.trans S') (by rw [← List.append_assoc]; exact hA) (S.dom _ hd) hx
  rw [← e]
  exact Told.app (Told.app hT hT1) (by rw [← List.append_assoc]; exact hT3)
theorem Stop.ask {I : Ask} {K : PySem.W.Frag} {A : Ad} {H H1 : Hp} {log es : List Ent} {R : List Ent → Prop} {E : XK} {x y : Nat} (h : Stop I K A H log R E) (S : Stp I.M H H1) (hT : Told I.or log es) (hr : ∃ c es3, Told I.or (log ++ es) ((⟨x, y, c⟩ : Ent) :: es3) ∧ R (es ++ (⟨x, y, c⟩ : Ent) :: es3)) : Stop I K A H1 (log ++ es) (fun es2 => ∃ said, es2 = [(⟨x, y, said⟩ : Ent)]) E := by
  refine h.sub S hT fun es2 ⟨said, e⟩ hT2 => ?_
  subst e
  obtain ⟨c, es3, hT3, hR⟩ := hr
  obtain rfl : said = c := hT2.1.trans hT3.1.symm
  exact ⟨es3, hT3.2, by rw [List.append_assoc]; exact hR⟩
def sp_Asker_ahead (K : PySem.W.Frag) (A : Ad) : Sp := fun vs H Q E => ∃ (I : Ask) (log : List Ent) (p q : Nat), vs = [.ref I.s, .int p, .int q] ∧ (I.At K A H log ∧ p < I.n ∧ q < I.n ∧ p ≠ q ∧ log.length + I.pre.length < 100000) ∧
  Stop I K A H log (fun es => ∃ said, es = [⟨max p q, min p q, said⟩]) E ∧
  ∀ H' said, said = I.or log (max p q) (min p q) → Stp I.M H H' → I.At K A H' (log ++ [⟨max p q, min p q, said⟩]) → Q (.bl (decide (said = decide (q < p)))) H'
theorem ok_Asker_ahead {P : Program} {w : World} {K : PySem.W.Frag} {mg : Str → Option Value} {base : Heap} {A : Ad} {f : Addr} {fd : FuncData} (F : Fun K "ahead" "Asker.ahead" s_Asker_ahead f fd) (T : Txt K mg A) (M_AskedRule_before : SH.CalM P w K mg base CX0 2 A.AskedRule "before" [] (sp_AskedRule_before K A)) (X_Spent : SH.CalE P w K mg base 1 "Spent" A.Spent (sp_Spent___init__ K A)) : FnOk P w K mg base (L2N.CX P w) 3 f fd ["self", "p", "q"] (sp_Asker_ahead K A) := by
  refine SH.okN F sc_Asker_ahead (fun vs H Q E h => by obtain ⟨_, _, _, _, rfl, _⟩ := h; rfl) (fun cdv A' outer s H vs Q E hr h => ?_)
  obtain ⟨I, log, p, q, rfl, ⟨hA, hp, hq, hne, hlog⟩, kx, k⟩ := h
  refine ⟨_, (pss_cons (ps_if (PW.pt (pw_and (pt_cmpR SH.oNotN (SH.pe_fldF T.cl_Asker T.na_Asker_most (pv 0)) pe_non (nomark _)) (pw_and1 (pt_cmpR SH.oGe (SH.pe_fldF T.cl_Asker T.na_Asker_asked (pv 0)) (SH.pe_fldF T.cl_Asker T.na_Asker_most (pv 0)) (nomark _))))) (pss_one (L2N.ps_raise rfl (L2N.takes_of rfl rfl rfl rfl) (SH.pmk_oexN X_Spent hr (by rfl) (pa_cons (SH.pe_fldF T.cl_Asker T.na_Asker_asked (pv 0)) pa_nil)))) pss_nil)
        (pss_cons (ps_set (i := 3) sc_Asker_ahead.nd rfl (Or.inl rfl) (pe_callB (SH.cMax2 rfl) (by rfl) T.z_max (by decide +kernel) (pa_cons (pv 1) (pa_cons (pv 2) pa_nil))))
        (pss_cons (ps_set (i := 4) sc_Asker_ahead.nd rfl (Or.inl rfl) (pe_callB (SH.cMin2 rfl) (by rfl) T.z_min (by decide +kernel) (pa_cons (pv 1) (pa_cons (pv 2) pa_nil))))
        (pss_cons (ps_set (i := 5) sc_Asker_ahead.nd rfl (Or.inl rfl) (SH.pe_methF (SH.pe_fldF T.cl_Asker T.na_Asker_rule (pv 0)) M_AskedRule_before hr pass0 (pa_cons (pe_ix SH.ixA (SH.pe_fldF T.cl_Asker T.na_Asker_row (pv 0)) (pv 3) (fun _ _ => rfl)) (pa_cons (pe_ix SH.ixA (SH.pe_fldF T.cl_Asker T.na_Asker_row (pv 0)) (pv 4) (fun _ _ => rfl)) pa_nil))))
        (pss_cons (SH.ps_fldaugF T.cl_Asker T.na_Asker_asked (pv 0) pe_int SH.in_add')
        (pss_cons (ps_expr (pe_bm PySem.F.plainAttrs_list PySem.F.slot_list_append PySem.F.type_list_append mt_append (SH.pe_fldF T.cl_Asker T.na_Asker_log (pv 0)) (pa_cons (pe_tup (pa_cons (pv 3) (pa_cons (pv 4) (pa_cons (pv 5) pa_nil)))) pa_nil)))
        (pss_one (ps_ret (pe_cmpR (SH.oEq hr.units) (pv 5) (pe_cmpR (SH.oEq hr.units) (pv 1) (pv 3) (nomark _)) (nomark _)))))))))), ?_⟩
  walk_at "begin"
  have hA0 := hA
  have hn := hA.n_row
  obtain ⟨hs, hr, ⟨evs, hl, hev⟩, hu, ⟨tvs, ht, htv⟩, hf, rk, d1, d2, d3, d4, few, rows, bd⟩ := hA
  have nsl : I.s ≠ I.l := ne_of hs hl (by intro z; cases z)
  have nst : I.s ≠ I.tl := ne_of hs ht (by intro z; cases z)
  have nsr : I.s ≠ I.r := ne_of hs hr (by intro z; cases z)
  have nlu : I.l ≠ I.u := ne_of hl hu (by intro z; cases z)
  have ntu : I.tl ≠ I.u := ne_of ht hu (by intro z; cases z)
  unfold AskM at hs
  walk_at "ri"
  refine r_J (fun σ' H' => (I.m ≠ some log.length ∧ H' = H) ∧ σ' = [some (.ref I.s), some (.int p), some (.int q), none, none, none]) ?_ fun N hN => ?_
  rotate_left
  · walk_at "rd"
    cases hm : I.m with
    | none =>
      rw [hm] at hs
      rw [show (!decide (mV none = V.non)) = false by simp [mV], if_neg (by simp)]
      walk_at "rd"
      exact hN _ _ ⟨⟨by rw [hm]; simp, rfl⟩, rfl⟩
    | some m =>
      have hbm := bd m hm
      rw [hm] at hs
      rw [show (!decide (mV (some m) = V.non)) = true by simp [mV], if_pos rfl]
      unfold mV at hs
      walk_at "rd"
      refine r_w (fun hc => ?_) fun hc => ?_
      · obtain rfl : m = log.length := by omega
        walk_at "rd"
        refine v_raise1 fun d hd => ?_
        have S := (Stp.refl [] H).new (o := .xd [("asked", .int (log.length : Nat))]) hd
        exact kx _ d [] [⟨max p q, min p q, I.or log (max p q) (min p q)⟩] ⟨_, rfl⟩ (by simp) ⟨rfl, True.intro⟩ hm (S.mono (by simp)) (by rw [List.append_nil]; exact hA0.stp S (by simp)) hd upd_same
      · walk_at "rd"
        exact hN _ _ ⟨⟨by rw [hm]; simp; omega, rfl⟩, rfl⟩
  rintro σ' H0 ⟨⟨hm, rfl⟩, rfl⟩
  dsimp only
  walk_at "rd"
  rw [max_v, min_v]
  have hmx : max p q < I.row.length := by omega
  have hmn : min p q < I.row.length := by omega
  obtain ⟨t1, e1, ht1⟩ := rk.2 (max p q) _ (List.getElem?_eq_getElem hmx)
  obtain ⟨t2, e2, ht2⟩ := rk.2 (min p q) _ (List.getElem?_eq_getElem hmn)
  walk_at "rd"
  refine v_ixLn (n := max p q) (SqL.of hr) rfl ((List.getElem?_eq_getElem hmx).trans (congrArg some e1)) ?_
  walk_at "rd"
  refine v_ixLn (n := min p q) (SqL.of hr) rfl ((List.getElem?_eq_getElem hmn).trans (congrArg some e2)) ?_
  walk_at "rd"
  have htl := isl_len htv
  rw [List.length_append] at htl
  refine ⟨I.u, I.f, t1, t2, I.du, rfl, hu, ⟨_, _, _, hf⟩, _, _, _, hf, I.tl, t1, t2, tvs, _, _, _, _, rfl, ⟨rfl, ht, by omega, ht1, ht2⟩, fun t3 H1 S1 hT1 ht3 => ?_⟩
  have ek : decide (getE I.ks (max p q) < getE I.ks (min p q)) = I.or log (max p q) (min p q) := rfl
  rw [ek] at ht3 ⊢
  generalize hsaid : I.or log (max p q) (min p q) = said at ht3 ⊢
  have hs1 := S1.keep1 hs nst
  have hr1 := S1.keep1 hr d3.symm
  have hl1 := S1.keep1 hl d4
  have hu1 := S1.keep1 hu ntu.symm
  walk_at "rd"
  intro tp htp
  have htp0 : H1 tp = none := (upd_free htp).1
  walk_at "rd"
  have hl2 : upd (upd H1 I.s (.ins A.Asker I.dx [("row", .ref I.r), ("rule", .ref I.u), ("most", mV I.m), ("asked", .int (log.length + 1)), ("log", .ref I.l)])) tp (.tup [.int (max p q : Nat), .int (min p q : Nat), .bl said]) I.l = some (.lst evs) := by
    rw [upd_ne (ne_of_none hl1 htp0), upd_ne nsl.symm]; exact hl1
  have hel := isl_len hev
  refine v_app hl2 (by omega) ?_
  walk_at "rd"
  have epl : decide ((p : Int) = ((max p q : Nat) : Int)) = decide (q < p) := by
    apply decide_eq_decide.mpr; omega
  rw [epl]
  have S2 : Stp I.M H1 (upd (upd (upd H1 I.s (.ins A.Asker I.dx [("row", .ref I.r), ("rule", .ref I.u), ("most", mV I.m), ("asked", .int (log.length + 1)), ("log", .ref I.l)])) tp (.tup [.int (max p q : Nat), .int (min p q : Nat), .bl said])) I.l (.lst (evs ++ [.ref tp]))) :=
    (((Stp.refl I.M H1).putM (by simp [Ask.M]) hs1 (fun z => z)).new htp).putM (by simp [Ask.M]) hl2 (fun z => z)
  have S : Stp I.M H0 _ := (S1.mono (M' := I.M) (by simp [Ask.M])).trans S2
  refine k _ said hsaid.symm S ?_
  have ntl : tp ≠ I.l := (ne_of_none hl1 htp0).symm
  have nts : tp ≠ I.s := (ne_of_none hs1 htp0).symm
  have keep : ∀ {b o}, b ≠ I.l → b ≠ I.s → H1 b = some o → upd (upd (upd H1 I.s (.ins A.Asker I.dx [("row", .ref I.r), ("rule", .ref I.u), ("most", mV I.m), ("asked", .int (log.length + 1)), ("log", .ref I.l)])) tp (.tup [.int (max p q : Nat), .int (min p q : Nat), .bl said])) I.l (.lst (evs ++ [.ref tp])) b = some o := fun {b o} h1 h2 h3 => by
    rw [upd_ne h1, upd_ne (ne_of_none h3 htp0), upd_ne h2]; exact h3
  refine ⟨?_, keep d2.symm nsr.symm hr1, ⟨evs ++ [.ref tp], upd_same, isl_app (isl_stpM S hev) (isl_cons (is_t3 (SqT.of (by rw [upd_ne ntl]; exact upd_same)) is_nat is_nat is_bl) isl_nil)⟩, keep nlu.symm d1.symm hu1,
    ⟨tvs ++ [.ref t3], keep d4.symm nst.symm hT1, ?_⟩, hf.step S, rk.stp S, d1, d2, d3, d4, by simp; omega, rows, fun m e => by
      have := bd m e
      have : m ≠ log.length := fun z => hm (by rw [e, z])
      simp; omega⟩
  · rw [upd_ne nsl, upd_ne nts.symm, upd_same]
    simp [AskM]
  · rw [← List.append_assoc]
    exact isl_app (isl_stpM S htv) (isl_cons (is_t3 (SqT.of (S2.tup ht3)) is_nat is_nat is_bl) isl_nil)

def Ask.wide (I : Ask) (n : Nat) : Ask := { I with m := I.m.map (· + n) }
theorem wide_some {I : Ask} {n m : Nat} (h : I.m = some m) : (I.wide n).m = some (m + n) := by unfold Ask.wide; rw [h]; rfl
theorem wide_none {I : Ask} {n : Nat} (h : I.m = none) : I.wide n = I := by unfold Ask.wide; rw [h]; cases I; dsimp only at h; subst h; rfl
def sp_Asker_widen (K : PySem.W.Frag) (A : Ad) : Sp := fun vs H Q _ => ∃ (I : Ask) (log : List Ent) (n : Nat), vs = [.ref I.s, .int n] ∧ I.At K A H log ∧ ∀ H', Stp [I.s] H H' → (I.wide n).At K A H' log → Q .non H'
theorem ok_Asker_widen {P : Program} {w : World} {K : PySem.W.Frag} {mg : Str → Option Value} {base : Heap} {A : Ad} {f : Addr} {fd : FuncData} (F : Fun K "widen" "Asker.widen" s_Asker_widen f fd) (T : Txt K mg A)  : FnOk P w K mg base CX0 1 f fd ["self", "more"] (sp_Asker_widen K A) := by
  refine F.ok sc_Asker_widen (fun vs H Q E h => by obtain ⟨_, _, _, rfl, _⟩ := h; rfl) (fun cdv A' outer s H vs Q E hr h => ?_)
  obtain ⟨I, log, n, rfl, hA, k⟩ := h
  refine ⟨_, (pss_one (ps_if (pt_cmpR SH.oNotN (SH.pe_fldF T.cl_Asker T.na_Asker_most (pv 0)) pe_non (nomark _)) (pss_one (SH.ps_fldaugF T.cl_Asker T.na_Asker_most (pv 0) (pv 1) SH.in_add')) pss_nil)), ?_⟩
  walk_at "begin"
  have hA0 := hA
  obtain ⟨hs, hr, ⟨evs, hl, hev⟩, hu, ⟨tvs, ht, htv⟩, hf, rk, d1, d2, d3, d4, few, rows, bd⟩ := hA
  unfold AskM at hs
  walk_at "rd"
  cases hm : I.m with
  | none =>
    rw [hm] at hs
    rw [show (!decide (mV none = V.non)) = false by simp [mV], if_neg (by simp)]
    walk_at "rd"
    refine k H (.refl _ _) ?_
    rw [wide_none hm]
    exact hA0
  | some m =>
    rw [hm] at hs
    rw [show (!decide (mV (some m) = V.non)) = true by simp [mV], if_pos rfl]
    unfold mV at hs
    walk_at "rd"
    have S : Stp [I.s] H (upd H I.s (.ins A.Asker I.dx [("row", .ref I.r), ("rule", .ref I.u), ("most", .int ((m : Int) + (n : Int))), ("asked", .int log.length), ("log", .ref I.l)])) := (Stp.refl _ _).putI (by simp) hs
    have nsl : I.s ≠ I.l := ne_of hs hl (by intro z; cases z)
    have nsr : I.s ≠ I.r := ne_of hs hr (by intro z; cases z)
    have nst : I.s ≠ I.tl := ne_of hs ht (by intro z; cases z)
    refine k _ S ⟨?_, S.keep1 hr nsr.symm, ⟨evs, S.keep1 hl nsl.symm, isl_stpM S hev⟩, S.keep1 hu d1.symm, ⟨tvs, S.keep1 ht nst.symm, isl_stpM S htv⟩, hf.step S, rk.stp S, d1, d2, d3, d4, few, rows, fun m' e => ?_⟩
    · show upd H I.s _ I.s = some (.ins A.Asker I.dx (AskM I.r (.ref I.u) (I.wide n).m log.length I.l))
      rw [upd_same, wide_some hm]
      have e : mV (some (m + n)) = .int ((m : Int) + (n : Int)) := by unfold mV; congr 1
      unfold AskM
      rw [e]
    · rw [wide_some hm] at e
      cases e
      have := bd m hm
      omega
def sp_Asker_many (K : PySem.W.Frag) (A : Ad) : Sp := fun vs H Q _ => ∃ (I : Ask) (log : List Ent), vs = [.ref I.s] ∧ I.At K A H log ∧ Q (.int I.n) H
theorem ok_Asker_many {P : Program} {w : World} {K : PySem.W.Frag} {mg : Str → Option Value} {base : Heap} {A : Ad} {f : Addr} {fd : FuncData} (F : Fun K "many" "Asker.many" s_Asker_many f fd) (T : Txt K mg A)  : FnOk P w K mg base CX0 1 f fd ["self"] (sp_Asker_many K A) := by
  refine F.ok sc_Asker_many (fun vs H Q E h => by obtain ⟨_, _, rfl, _⟩ := h; rfl) (fun cdv A' outer s H vs Q E hr h => ?_)
  obtain ⟨I, log, rfl, hA, k⟩ := h
  refine ⟨_, (pss_one (ps_ret (pe_callB SH.cLen (by rfl) T.z_len (by decide +kernel) (pa_cons (SH.pe_fldF T.cl_Asker T.na_Asker_row (pv 0)) pa_nil)))), ?_⟩
  walk_at "begin"
  have hn := hA.n_row
  obtain ⟨hs, hr, _⟩ := hA
  unfold AskM at hs
  walk_at "rd"
  rw [hn]
  exact k

def sp_Asker___init__ (K : PySem.W.Frag) (A : Ad) : Sp := fun vs H Q _ => ∃ (s b : Addr) (u : V) (row : List V) (m : Option Nat), vs = [.ref s, .ref b, u, mV m] ∧ (∃ dx, H s = some (.ins A.Asker dx [])) ∧ (SqL K H b row ∧ row.length ≤ 100000) ∧
  ∀ dx r l H', H r = none → H l = none → l ≠ r → s ≠ r → s ≠ l → Stp [s] H H' → H' s = some (.ins A.Asker dx (AskM r u m 0 l)) → H' r = some (.lst row) → H' l = some (.lst []) → Q .non H'
theorem ok_Asker___init__ {P : Program} {w : World} {K : PySem.W.Frag} {mg : Str → Option Value} {base : Heap} {A : Ad} {f : Addr} {fd : FuncData} (F : FunD K "__init__" "Asker.__init__" (defArgs s_Asker___init__) (defBody s_Asker___init__) (defScope s_Asker___init__) [.non] [] f fd) (T : Txt K mg A)  : FnOk P w K mg base CX0 1 f fd ["self", "row", "rule", "most"] (sp_Asker___init__ K A) := by
  refine SH.funD_ok F sc_Asker___init__ (fun vs H Q E h => by obtain ⟨_, _, _, _, _, rfl, _⟩ := h; rfl) (fun cdv A' outer s H vs Q E hr h => ?_)
  obtain ⟨s', b, u, row, m, rfl, ⟨dx, hs⟩, ⟨hb, hl⟩, k⟩ := h
  refine ⟨_, (pss_cons (SH.ps_fldF T.cl_Asker T.na_Asker_row (pv 0) (pe_callTy SH.cListOf (by rfl) T.z_list (by decide +kernel) (pa_cons (pv 1) pa_nil)) rfl)
        (pss_cons (SH.ps_fldF T.cl_Asker T.na_Asker_rule (pv 0) (pv 2) rfl)
        (pss_cons (SH.ps_fldF T.cl_Asker T.na_Asker_most (pv 0) (pv 3) rfl)
        (pss_cons (SH.ps_fldF T.cl_Asker T.na_Asker_asked (pv 0) pe_int rfl)
        (pss_one (SH.ps_fldF T.cl_Asker T.na_Asker_log (pv 0) (pe_lst pa_nil) rfl)))))), ?_⟩
  walk_at "begin"
  walk_at "rd"
  intro r hr
  have nsr : s' ≠ r := ne_of_none hs hr
  walk_at "rd"
  intro l hl2
  have hl0 : H l = none := (upd_free (upd_free (upd_free (upd_free (upd_free hl2).1).1).1).1).1
  have nsl : s' ≠ l := ne_of_none hs hl0
  have nlr : l ≠ r := fun e => by subst e; simp [upd_ne nsr.symm, upd_same] at hl2
  walk_at "rd"
  refine k dx r l _ hr hl0 nlr nsr nsl ?_ upd_same ?_ ?_
  · exact ((((((Stp.refl [s'] H).new hr).putI (by simp) (upd_old hs hr)).putI (by simp) upd_same).putI (by simp) upd_same).putI (by simp) upd_same).new hl2 |>.putI (by simp) (upd_old upd_same hl2)
  · rw [upd_ne nsr.symm, upd_ne nlr.symm, upd_ne nsr.symm, upd_ne nsr.symm, upd_ne nsr.symm, upd_ne nsr.symm]; exact upd_same
  · rw [upd_ne nsl.symm]; exact upd_same
theorem Ask.At.fresh {I : Ask} {K : PySem.W.Frag} {A : Ad} {H : Hp} {log : List Ent} (h : I.At K A H log) {b : Addr} (hb : H b = none) : b ∉ I.M := by
  obtain ⟨evs, h2, _⟩ := h.hl
  obtain ⟨tvs, h3, _⟩ := h.ht
  simp only [Ask.M, List.mem_cons, List.not_mem_nil, or_false, not_or]
  exact ⟨(ne_of_none h.hs hb).symm, (ne_of_none h2 hb).symm, (ne_of_none h3 hb).symm⟩
theorem Ask.At.freshO {I : Ask} {K : PySem.W.Frag} {A : Ad} {H : Hp} {log : List Ent} (h : I.At K A H log) {b : Addr} (hb : H b = none) : b ∉ I.own := by
  obtain ⟨evs, h2, _⟩ := h.hl
  obtain ⟨tvs, h3, _⟩ := h.ht
  simp only [Ask.own, List.mem_cons, List.not_mem_nil, or_false, not_or]
  exact ⟨(ne_of_none h.hs hb).symm, (ne_of_none h2 hb).symm, (ne_of_none h3 hb).symm, (ne_of_none h.hr hb).symm, (ne_of_none h.hu hb).symm⟩
/-! ### meetings in a tree of pieces -/
abbrev Fr := Option (Nat × Nat)
def frI (z : Fr) : V := match z with | none => .non | some x => .int (x.1 : Nat)
/-- v is what came: None, or a pair (place, number of its piece) -/
def frV (H : Hp) (v : V) (x : Fr) : Prop := match x with
  | none => v = .non
  | some (p, i) => ∃ t : Addr, v = .ref t ∧ H t = some (.tup [.int (p : Nat), .int (i : Nat)])
theorem frV.stp {M : List Addr} {H H' : Hp} {v : V} {x : Fr} (h : frV H v x) (S : Stp M H H') : frV H' v x := by
  cases x with
  | none => exact h
  | some x => obtain ⟨t, h1, h2⟩ := h; exact ⟨t, h1, S.tup h2⟩
/-- whether the one goes on, b: from behind -/
def goes (b said : Bool) (p q : Nat) : Bool := match b with
  | false => decide (said = decide (q < p))
  | true => !decide (said = decide (q < p))
inductive Meet (b : Bool) : Fr → Fr → List Ent → Fr → Prop
  | l {y : Fr} : Meet b none y [] y
  | r {x : Nat × Nat} : Meet b (some x) none [] (some x)
  | m {x y : Nat × Nat} (said : Bool) : Meet b (some x) (some y) [⟨max x.1 y.1, min x.1 y.1, said⟩] (if goes b said x.1 y.1 = true then some x else some y)
theorem Meet.or {b : Bool} {x y z : Fr} {es : List Ent} (h : Meet b x y es z) : z = x ∨ z = y := by
  cases h with
  | l => exact .inr rfl
  | r => exact .inl rfl
  | m said => split <;> simp
theorem Meet.none {b : Bool} {x y z : Fr} {es : List Ent} (h : Meet b x y es z) : z = none ↔ (x = none ∧ y = none) := by
  cases h with
  | l => simp
  | r => simp
  | m said => split <;> simp
theorem Meet.few {b : Bool} {x y z : Fr} {es : List Ent} (h : Meet b x y es z) : es.length ≤ 1 ∧ es.length + (if z = Option.none then 0 else 1) = (if x = Option.none then 0 else 1) + (if y = Option.none then 0 else 1) := by
  cases h with
  | l => simp
  | r => simp
  | m said => split <;> simp
/-- where a span is cut -/
def cutB (lo hi : Nat) : Nat := (lo + hi + 1) / 2
theorem cutB_lt {lo hi : Nat} (h : lo + 1 < hi) : lo < cutB lo hi ∧ cutB lo hi < hi := by unfold cutB; omega
abbrev Wt := Nat → Nat → Option Fr
def putW (W : Wt) (a c : Nat) (x : Fr) : Wt := fun a' c' => if a' = a ∧ c' = c then some x else W a' c'
theorem putW_same {W : Wt} {a c : Nat} {x : Fr} : putW W a c x a c = some x := by unfold putW; rw [if_pos ⟨rfl, rfl⟩]
theorem putW_ne {W : Wt} {a c a' c' : Nat} {x : Fr} (h : ¬ (a' = a ∧ c' = c)) : putW W a c x a' c' = W a' c' := by unfold putW; rw [if_neg h]
/-- all meetings of a span held anew -/
inductive Hold (b : Bool) (F : Nat → Fr) : Nat → Nat → Wt → List Ent → Wt → Fr → Prop
  | nil {lo : Nat} {W : Wt} : Hold b F lo lo W [] (putW W lo lo none) none
  | one {lo : Nat} {W : Wt} : Hold b F lo (lo + 1) W [] (putW W lo (lo + 1) (F lo)) (F lo)
  | node {lo hi : Nat} {W W1 W2 : Wt} {e1 e2 e3 : List Ent} {x y z : Fr} (h : lo + 1 < hi) (h1 : Hold b F lo (cutB lo hi) W e1 W1 x) (h2 : Hold b F (cutB lo hi) hi W1 e2 W2 y) (h3 : Meet b x y e3 z) : Hold b F lo hi W (e1 ++ (e2 ++ e3)) (putW W2 lo hi z) z
/-- what is held over a span, by answers of a log -/
inductive Tre (b : Bool) (F : Nat → Fr) (W : Wt) (log : List Ent) : Nat → Nat → Fr → Prop
  | nil {lo : Nat} (h : W lo lo = some none) : Tre b F W log lo lo none
  | one {lo : Nat} (h : W lo (lo + 1) = some (F lo)) : Tre b F W log lo (lo + 1) (F lo)
  | node {lo hi : Nat} {es : List Ent} {x y z : Fr} (h : lo + 1 < hi) (hw : W lo hi = some z) (h1 : Tre b F W log lo (cutB lo hi) x) (h2 : Tre b F W log (cutB lo hi) hi y) (h3 : Meet b x y es z) (he : ∀ e ∈ es, e ∈ log) : Tre b F W log lo hi z
theorem Tre.at {b : Bool} {F : Nat → Fr} {W : Wt} {log : List Ent} {lo hi : Nat} {z : Fr} (h : Tre b F W log lo hi z) : W lo hi = some z := by
  cases h with
  | nil h => exact h
  | one h => exact h
  | node _ hw => exact hw
theorem Tre.le {b : Bool} {F : Nat → Fr} {W : Wt} {log : List Ent} {lo hi : Nat} {z : Fr} (h : Tre b F W log lo hi z) : lo ≤ hi := by
  cases h with
  | nil h => exact Nat.le_refl _
  | one h => omega
  | node h => omega
/-- what comes is a front of the span -/
theorem Tre.from {b : Bool} {F : Nat → Fr} {W : Wt} {log : List Ent} {lo hi : Nat} {z : Fr} (h : Tre b F W log lo hi z) : z = none ∨ ∃ i, lo ≤ i ∧ i < hi ∧ z = F i := by
  induction h with
  | nil h => exact .inl rfl
  | @one lo h => exact .inr ⟨lo, Nat.le_refl _, by omega, rfl⟩
  | @node lo hi es x y z h hw h1 h2 h3 he i1 i2 =>
    have hc := cutB_lt h
    rcases h3.or with e | e
    · subst e
      exact i1.imp id fun ⟨i, a, b, c⟩ => ⟨i, a, by omega, c⟩
    · subst e
      exact i2.imp id fun ⟨i, a, b, c⟩ => ⟨i, by omega, b, c⟩
theorem Tre.none {b : Bool} {F : Nat → Fr} {W : Wt} {log : List Ent} {lo hi : Nat} {z : Fr} (h : Tre b F W log lo hi z) : z = none ↔ ∀ i, lo ≤ i → i < hi → F i = none := by
  induction h with
  | nil h => exact ⟨fun _ i h1 h2 => by omega, fun _ => rfl⟩
  | @one lo h => exact ⟨fun e i h1 h2 => by rw [show i = lo by omega]; exact e, fun e => e lo (Nat.le_refl _) (by omega)⟩
  | @node lo hi es x y z h hw h1 h2 h3 he i1 i2 =>
    have hc := cutB_lt h
    rw [h3.none, i1, i2]
    exact ⟨fun ⟨a, c⟩ i p q => by
      by_cases hi : i < cutB lo hi
      · exact a i p hi
      · exact c i (by omega) q, fun a => ⟨fun i p q => a i p (by omega), fun i p q => a i (by omega) q⟩⟩
theorem Tre.mono {b : Bool} {F F' : Nat → Fr} {W W' : Wt} {log log' : List Ent} {lo hi : Nat} {z : Fr} (h : Tre b F W log lo hi z) (hF : ∀ i, lo ≤ i → i < hi → F' i = F i) (hW : ∀ a c, lo ≤ a → c ≤ hi → (a < c ∨ (lo = hi ∧ a = c)) → W' a c = W a c) (hl : ∀ e ∈ log, e ∈ log') : Tre b F' W' log' lo hi z := by
  induction h with
  | @nil lo h => exact .nil (by rw [hW lo lo (Nat.le_refl _) (Nat.le_refl _) (.inr ⟨rfl, rfl⟩)]; exact h)
  | @one lo h =>
    have := hF lo (Nat.le_refl _) (by omega)
    rw [← this]
    exact .one (by rw [hW lo (lo + 1) (Nat.le_refl _) (Nat.le_refl _) (.inl (by omega)), this]; exact h)
  | @node lo hi es x y z h hw h1 h2 h3 he i1 i2 =>
    have hc := cutB_lt h
    exact .node h (by rw [hW lo hi (Nat.le_refl _) (Nat.le_refl _) (.inl (by omega))]; exact hw) (i1 (fun i p q => hF i p (by omega)) (fun a c p q r => hW a c p (by omega) (.inl (by omega)))) (i2 (fun i p q => hF i (by omega) q) fun a c p q r => hW a c (by omega) q (.inl (by omega))) h3 fun e h => hl e (he e h)
theorem Hold.le {b : Bool} {F : Nat → Fr} {lo hi : Nat} {W W' : Wt} {es : List Ent} {z : Fr} (h : Hold b F lo hi W es W' z) : lo ≤ hi := by
  cases h with
  | nil => exact Nat.le_refl _
  | one => omega
  | node h => omega
theorem Hold.far {b : Bool} {F : Nat → Fr} {lo hi : Nat} {W W' : Wt} {es : List Ent} {z : Fr} (h : Hold b F lo hi W es W' z) : ∀ a c, ¬ (lo ≤ a ∧ c ≤ hi ∧ a ≤ c) → W' a c = W a c := by
  induction h with
  | @nil lo W => intro a c n; exact putW_ne fun z => n (by omega)
  | @one lo W => intro a c n; exact putW_ne fun z => n (by omega)
  | @node lo hi W W1 W2 e1 e2 e3 x y z h h1 h2 h3 i1 i2 =>
    intro a c n
    have hc := cutB_lt h
    rw [putW_ne fun z => n (by omega), i2 a c (fun z => n (by omega)), i1 a c fun z => n (by omega)]
theorem Hold.tre {b : Bool} {F : Nat → Fr} {lo hi : Nat} {W W' : Wt} {es : List Ent} {z : Fr} (h : Hold b F lo hi W es W' z) {log : List Ent} (hl : ∀ e ∈ es, e ∈ log) : Tre b F W' log lo hi z := by
  induction h with
  | @nil lo W => exact .nil putW_same
  | @one lo W => exact .one putW_same
  | @node lo hi W W1 W2 e1 e2 e3 x y z h h1 h2 h3 i1 i2 =>
    have hc := cutB_lt h
    have t1 := i1 fun e he => hl e (by simp [he])
    have t2 := i2 fun e he => hl e (by simp [he])
    refine .node h putW_same (t1.mono (fun _ _ _ => rfl) (fun a c p q r => ?_) fun _ h => h) (t2.mono (fun _ _ _ => rfl) (fun a c p q r => ?_) fun _ h => h) h3 fun e he => hl e (by simp [he])
    · rw [putW_ne (by omega), h2.far a c (by omega)]
    · exact putW_ne (by omega)
theorem Hold.few {b : Bool} {F : Nat → Fr} {lo hi : Nat} {W W' : Wt} {es : List Ent} {z : Fr} (h : Hold b F lo hi W es W' z) : es.length ≤ hi - lo := by
  have key : es.length + (if z = none then 0 else 1) ≤ hi - lo := by
    induction h with
    | nil => simp
    | one => simp only [List.length_nil]; split <;> omega
    | @node lo hi W W1 W2 e1 e2 e3 x y z h h1 h2 h3 i1 i2 =>
      have hc := cutB_lt h
      have := h3.few
      simp only [List.length_append]
      omega
  omega
/-! the way of a piece, from the topmost span down -/
inductive Way (n lo hi : Nat) : List (Nat × Nat) → Nat → Nat → Prop
  | nil : Way n lo hi [] lo hi
  | left {l : List (Nat × Nat)} {a c : Nat} (k : Way n lo hi l a c) (h : a + 1 < c) (hn : n < cutB a c) : Way n lo hi (l ++ [(a, c)]) a (cutB a c)
  | right {l : List (Nat × Nat)} {a c : Nat} (k : Way n lo hi l a c) (h : a + 1 < c) (hn : ¬ n < cutB a c) : Way n lo hi (l ++ [(a, c)]) (cutB a c) c
theorem Way.in {n lo hi : Nat} {l : List (Nat × Nat)} {a c : Nat} (h : Way n lo hi l a c) (h1 : lo ≤ n) (h2 : n < hi) : lo ≤ a ∧ a ≤ n ∧ n < c ∧ c ≤ hi ∧ l.length + (c - a) ≤ hi - lo := by
  induction h with
  | nil => simp; omega
  | @left l a c k h hn ih => have := cutB_lt h; rw [List.length_append, List.length_singleton]; omega
  | @right l a c k h hn ih => have := cutB_lt h; rw [List.length_append, List.length_singleton]; omega
/-- the meetings on the way of a piece held anew, x its new front -/
inductive TakeR (b : Bool) (W : Wt) (n : Nat) (x : Fr) : Nat → Nat → List Ent → Wt → Fr → Prop
  | one : TakeR b W n x n (n + 1) [] (putW W n (n + 1) x) x
  | left {lo hi : Nat} {e1 e2 : List Ent} {W1 : Wt} {h y z : Fr} (hl : lo + 1 < hi) (hn : n < cutB lo hi) (k : TakeR b W n x lo (cutB lo hi) e1 W1 h) (hy : W (cutB lo hi) hi = some y) (hm : Meet b h y e2 z) : TakeR b W n x lo hi (e1 ++ e2) (putW W1 lo hi z) z
  | right {lo hi : Nat} {e1 e2 : List Ent} {W1 : Wt} {h y z : Fr} (hl : lo + 1 < hi) (hn : ¬ n < cutB lo hi) (k : TakeR b W n x (cutB lo hi) hi e1 W1 h) (hy : W lo (cutB lo hi) = some y) (hm : Meet b y h e2 z) : TakeR b W n x lo hi (e1 ++ e2) (putW W1 lo hi z) z
theorem TakeR.in {b : Bool} {W W' : Wt} {n : Nat} {x z : Fr} {lo hi : Nat} {es : List Ent} (h : TakeR b W n x lo hi es W' z) : lo ≤ n ∧ n < hi := by
  induction h with
  | one => omega
  | left hl hn k hy hm ih => have := cutB_lt hl; omega
  | right hl hn k hy hm ih => have := cutB_lt hl; omega
theorem TakeR.few {b : Bool} {W W' : Wt} {n : Nat} {x z : Fr} {lo hi : Nat} {es : List Ent} (h : TakeR b W n x lo hi es W' z) : es.length + 1 ≤ hi - lo := by
  induction h with
  | one => simp
  | left hl hn k hy hm ih => have := cutB_lt hl; have := hm.few; rw [List.length_append]; omega
  | right hl hn k hy hm ih => have := cutB_lt hl; have := hm.few; rw [List.length_append]; omega
theorem TakeR.far {b : Bool} {W W' : Wt} {n : Nat} {x z : Fr} {lo hi : Nat} {es : List Ent} (h : TakeR b W n x lo hi es W' z) : ∀ a c, ¬ (lo ≤ a ∧ c ≤ hi ∧ a ≤ n ∧ n < c) → W' a c = W a c := by
  induction h with
  | one => intro a c q; exact putW_ne fun z => q (by omega)
  | left hl hn k hy hm ih =>
    intro a c q
    have := cutB_lt hl
    have := k.in
    rw [putW_ne fun z => q (by omega), ih a c fun z => q (by omega)]
  | right hl hn k hy hm ih =>
    intro a c q
    have := cutB_lt hl
    have := k.in
    rw [putW_ne fun z => q (by omega), ih a c fun z => q (by omega)]
theorem TakeR.tre {b : Bool} {F F' : Nat → Fr} {W W' : Wt} {n : Nat} {x z w : Fr} {lo hi : Nat} {es log log' : List Ent} (h : TakeR b W n x lo hi es W' z) (t : Tre b F W log lo hi w) (hF : ∀ i, i ≠ n → F' i = F i) (hx : F' n = x) (hl : ∀ e ∈ log, e ∈ log') (he : ∀ e ∈ es, e ∈ log') : Tre b F' W' log' lo hi z := by
  induction h generalizing w with
  | one => rw [← hx]; exact .one putW_same
  | @left lo hi e1 e2 W1 h y z hl' hn k hy hm ih =>
    have hc := cutB_lt hl'
    have hk := k.in
    cases t with
    | nil => omega
    | one => omega
    | @node _ _ es' x' y' z' _ hw h1 h2 h3 he' =>
      have ey : y' = y := by have := h2.at; rw [hy] at this; exact (Option.some.inj this).symm
      subst ey
      refine .node hl' putW_same ((ih h1 fun e h => he e (by simp [h])).mono (fun _ _ _ => rfl) (fun a c p q r => putW_ne (by omega)) fun _ h => h) (h2.mono (fun i p q => hF i (by omega)) (fun a c p q r => ?_) hl) hm fun e h => he e (by simp [h])
      rw [putW_ne (by omega), k.far a c (by omega)]
  | @right lo hi e1 e2 W1 h y z hl' hn k hy hm ih =>
    have hc := cutB_lt hl'
    have hk := k.in
    cases t with
    | nil => omega
    | one => omega
    | @node _ _ es' x' y' z' _ hw h1 h2 h3 he' =>
      have ey : x' = y := by have := h1.at; rw [hy] at this; exact (Option.some.inj this).symm
      subst ey
      refine .node hl' putW_same (h1.mono (fun i p q => hF i (by omega)) (fun a c p q r => ?_) hl) ((ih h2 fun e h => he e (by simp [h])).mono (fun _ _ _ => rfl) (fun a c p q r => putW_ne (by omega)) fun _ h => h) hm fun e h => he e (by simp [h])
      rw [putW_ne (by omega), k.far a c (by omega)]
/-! what stands in the dict -/
def DW (H : Hp) (kvs : List (List Key × V)) (W : Wt) : Prop := ∀ a c x, W a c = some x → ∃ v, valV kvs (pk a c) = some v ∧ frV H v x
theorem DW.stp {M : List Addr} {H H' : Hp} {kvs : List (List Key × V)} {W : Wt} (h : DW H kvs W) (S : Stp M H H') : DW H' kvs W := fun a c x e => by
  obtain ⟨v, h1, h2⟩ := h a c x e
  exact ⟨v, h1, h2.stp S⟩
theorem DW.put {H : Hp} {kvs : List (List Key × V)} {W : Wt} {a c : Nat} {v : V} {x : Fr} (h : DW H kvs W) (hv : frV H v x) : DW H (putK kvs (pk a c) v) (putW W a c x) := fun a' c' x' e => by
  rw [valV_put]
  unfold putW at e
  by_cases z : a' = a ∧ c' = c
  · rw [if_pos z] at e
    cases e
    exact ⟨v, by rw [if_pos (pk_inj.mpr z)], hv⟩
  · rw [if_neg z] at e
    rw [if_neg fun q => z (pk_inj.mp q)]
    exact h a' c' x' e
/-- what is to be put into it -/
structure Anew (H : Hp) (W W' : Wt) (kvs : List (List Key × V)) : Prop where
  all : ∀ p ∈ kvs, ∃ a c x, p.1 = pk a c ∧ W' a c = some x ∧ frV H p.2 x
  has : ∀ a c, W' a c = W a c ∨ ∃ p ∈ kvs, p.1 = pk a c
theorem Anew.stp {M : List Addr} {H H' : Hp} {kvs : List (List Key × V)} {W W' : Wt} (h : Anew H W W' kvs) (S : Stp M H H') : Anew H' W W' kvs := ⟨fun p hp => by
  obtain ⟨a, c, x, h1, h2, h3⟩ := h.all p hp
  exact ⟨a, c, x, h1, h2, h3.stp S⟩, h.has⟩
theorem Anew.nil {H : Hp} {W : Wt} : Anew H W W [] := ⟨by simp, fun _ _ => .inl rfl⟩
theorem Anew.put {H : Hp} {W W' : Wt} {kvs : List (List Key × V)} {a c : Nat} {v : V} {x : Fr} (h : Anew H W W' kvs) (hv : frV H v x) (hn : W' a c = W a c ∨ True) (hk : ∀ p ∈ kvs, p.1 ≠ pk a c) : Anew H W (putW W' a c x) (putK kvs (pk a c) v) := by
  refine ⟨fun p hp => ?_, fun a' c' => ?_⟩
  · rcases mem_putK hp with rfl | hp'
    · exact ⟨a, c, x, rfl, putW_same, hv⟩
    · obtain ⟨a', c', x', h1, h2, h3⟩ := h.all p hp'
      have hne := hk p hp'
      exact ⟨a', c', x', h1, by rw [putW_ne fun z => hne (by rw [h1, z.1, z.2])]; exact h2, h3⟩
  · by_cases z : a' = a ∧ c' = c
    · obtain ⟨rfl, rfl⟩ := z
      exact .inr ⟨_, putK_same, rfl⟩
    · rw [putW_ne z]
      refine (h.has a' c').imp id fun ⟨p, hp, e⟩ => ⟨p, putK_other hp (hk p hp), e⟩
theorem DW.merge {H : Hp} {kvs more : List (List Key × V)} {W W' : Wt} (h : DW H kvs W) (k : Anew H W W' more) : DW H (mergK kvs more) W' := fun a c x e => by
  rcases mergK_val more kvs (pk a c) with ⟨p, hp, e1, e2⟩ | ⟨h1, h2⟩
  · obtain ⟨a', c', x', q1, q2, q3⟩ := k.all p hp
    rw [e1] at q1
    obtain ⟨rfl, rfl⟩ := pk_inj.mp q1
    rw [e] at q2
    cases q2
    exact ⟨p.2, e2, q3⟩
  · rcases k.has a c with q | ⟨p, hp, q⟩
    · rw [q] at e
      obtain ⟨v, h3, h4⟩ := h a c x e
      exact ⟨v, by rw [h2]; exact h3, h4⟩
    · exact (h1 p hp q).elim
/-! a pour -/
/-- the front of a piece behind so many that are gone -/
def frt (b : Bool) (ps : List Nat) (k i : Nat) : Fr := ((if b = true then ps.reverse else ps)[k]?).map fun p => (p, i)
def frts (b : Bool) (P : List (List Nat)) (g : List Nat) (i : Nat) : Fr := frt b (P.getD i []) (g.getD i 0) i
structure PR where
  o : Addr
  dx : Addr
  pp : Addr
  gg : Addr
  dd : Addr
  pa : List Addr
  P : List (List Nat)
def PF (s pp gg dd : Addr) : List (Str × V) := [("asker", .ref s), ("pieces", .ref pp), ("gone", .ref gg), ("went_on", .ref dd)]
/-- the pieces are of an asker's row, no place twice -/
structure Pcs (I : Ask) (P : List (List Nat)) : Prop where
  lt : ∀ ps ∈ P, ∀ p ∈ ps, p < I.n
  nd : P.flatten.Nodup
  few : P.length ≤ 300
theorem flat_uniq {P : List (List Nat)} (h : P.flatten.Nodup) {i j p : Nat} {a c : List Nat} (ha : P[i]? = some a) (hc : P[j]? = some c) (hp : p ∈ a) (hq : p ∈ c) : i = j := by
  induction P generalizing i j with
  | nil => cases ha
  | cons x P ih =>
    rw [List.flatten_cons, List.nodup_append] at h
    obtain ⟨h1, h2, h3⟩ := h
    cases i with
    | zero =>
      cases j with
      | zero => rfl
      | succ j =>
        cases ha
        rw [List.getElem?_cons_succ] at hc
        exact (h3 p hp p (List.mem_flatten.mpr ⟨c, List.mem_of_getElem? hc, hq⟩) rfl).elim
    | succ i =>
      rw [List.getElem?_cons_succ] at ha
      cases j with
      | zero =>
        cases hc
        exact (h3 p hq p (List.mem_flatten.mpr ⟨a, List.mem_of_getElem? ha, hp⟩) rfl).elim
      | succ j =>
        rw [List.getElem?_cons_succ] at hc
        rw [ih h2 ha hc]
theorem frt_mem {b : Bool} {ps : List Nat} {k i p j : Nat} (h : frt b ps k i = some (p, j)) : p ∈ ps ∧ j = i ∧ k < ps.length := by
  unfold frt at h
  obtain ⟨q, hq, e⟩ := Option.map_eq_some_iff.mp h
  cases e
  have hm := List.mem_of_getElem? hq
  have hl := (List.getElem?_eq_some_iff.mp hq).1
  cases b
  · exact ⟨hm, rfl, hl⟩
  · exact ⟨List.mem_reverse.mp hm, rfl, by simpa using hl⟩
theorem frts_mem {b : Bool} {P : List (List Nat)} {g : List Nat} {i p j : Nat} (h : frts b P g i = some (p, j)) : j = i ∧ ∃ ps, P[i]? = some ps ∧ p ∈ ps ∧ g.getD i 0 < ps.length := by
  obtain ⟨h1, h2, h3⟩ := frt_mem h
  refine ⟨h2, P.getD i [], ?_, h1, h3⟩
  rw [List.getD_eq_getElem?_getD] at h1 ⊢
  cases e : P[i]? with
  | none => rw [e] at h1; cases h1
  | some ps => rfl
/-- what comes from unlike spans is unlike -/
theorem Tre.two {I : Ask} {b : Bool} {P : List (List Nat)} {g g' : List Nat} {W W' : Wt} {log log' : List Ent} {lo c c' hi : Nat} {x y : Nat × Nat} (hP : Pcs I P) (h1 : Tre b (frts b P g) W log lo c (some x)) (h2 : Tre b (frts b P g') W' log' c' hi (some y)) (hc : c ≤ c') : x.1 < I.n ∧ y.1 < I.n ∧ x.1 ≠ y.1 := by
  obtain ⟨i, a1, a2, a3⟩ := h1.from.resolve_left (by simp)
  obtain ⟨j, b1, b2, b3⟩ := h2.from.resolve_left (by simp)
  obtain ⟨x1, x2⟩ := x
  obtain ⟨y1, y2⟩ := y
  obtain ⟨e1, ps, hps, hp, _⟩ := frts_mem a3.symm
  obtain ⟨e2, qs, hqs, hq, _⟩ := frts_mem b3.symm
  refine ⟨hP.lt _ (List.mem_of_getElem? hps) _ hp, hP.lt _ (List.mem_of_getElem? hqs) _ hq, fun z => ?_⟩
  dsimp only at z
  subst z
  have := flat_uniq hP.nd hps hqs hp hq
  omega
/-- what of a pour stands in the heap -/
structure PR.St (R : PR) (C : Addr) (I : Ask) (H : Hp) (g : List Nat) : Prop where
  ho : H R.o = some (.ins C R.dx (PF I.s R.pp R.gg R.dd))
  hp : H R.pp = some (.lst (R.pa.map V.ref))
  ha : ∀ (i : Nat) (a : Addr), R.pa[i]? = some a → ∃ ps, R.P[i]? = some ps ∧ H a = some (.lst (nv ps))
  hl : R.pa.length = R.P.length
  hg : H R.gg = some (.lst (nv g))
  gl : g.length = R.P.length
  own : ∀ a ∈ R.o :: R.pp :: R.gg :: R.dd :: R.pa, a ∉ I.own
  n1 : R.gg ≠ R.pp
  n2 : ∀ a ∈ R.pa, a ≠ R.gg
theorem Ask.Mown {I : Ask} {m : Addr} (h : m ∈ I.M) : m ∈ I.own := by
  simp only [Ask.M, Ask.own, List.mem_cons, List.not_mem_nil, or_false] at h ⊢
  rcases h with h | h | h <;> simp [h]
theorem PR.St.stp {R : PR} {C : Addr} {I : Ask} {M : List Addr} {H H' : Hp} {g : List Nat} (h : R.St C I H g) (S : Stp M H H') (hM : ∀ m ∈ M, m ∉ R.o :: R.pp :: R.gg :: R.pa) : R.St C I H' g := by
  have k : ∀ b o, b ∈ R.o :: R.pp :: R.gg :: R.pa → H b = some o → H' b = some o := fun b o hb e => S.keep e fun z => hM b z hb
  refine ⟨k _ _ (by simp) h.ho, k _ _ (by simp) h.hp, fun i a e => ?_, h.hl, k _ _ (by simp) h.hg, h.gl, h.own, h.n1, h.n2⟩
  obtain ⟨ps, h1, h2⟩ := h.ha i a e
  exact ⟨ps, h1, k _ _ (by simp [List.mem_of_getElem? e]) h2⟩
theorem PR.St.dd_ne {R : PR} {C : Addr} {I : Ask} {H : Hp} {g : List Nat} {kvs : List (List Key × V)} (h : R.St C I H g) (hd : H R.dd = some (.dT kvs)) : R.dd ∉ R.o :: R.pp :: R.gg :: R.pa := by
  simp only [List.mem_cons, not_or]
  refine ⟨ne_of hd h.ho (by intro z; cases z), ne_of hd h.hp (by intro z; cases z), ne_of hd h.hg (by intro z; cases z), fun z => ?_⟩
  obtain ⟨i, hi⟩ := List.mem_iff_getElem?.mp z
  obtain ⟨ps, _, h2⟩ := h.ha i _ hi
  rw [hd] at h2
  cases h2
theorem PR.St.ask {R : PR} {C : Addr} {I : Ask} {H H' : Hp} {g : List Nat} (h : R.St C I H g) (S : Stp I.M H H') : R.St C I H' g :=
  h.stp S fun m hm z => h.own m (by simp only [List.mem_cons] at z ⊢; rcases z with z | z | z | z <;> simp [z]) (Ask.Mown hm)
theorem PR.St.askd {R : PR} {C : Addr} {I : Ask} {H H' : Hp} {g : List Nat} {kvs : List (List Key × V)} (h : R.St C I H g) (hd : H R.dd = some (.dT kvs)) (S : Stp (R.dd :: I.M) H H') : R.St C I H' g :=
  h.stp S fun m hm z => by
    rcases List.mem_cons.mp hm with rfl | hm
    · exact h.dd_ne hd z
    · exact h.own m (by simp only [List.mem_cons] at z ⊢; rcases z with z | z | z | z <;> simp [z]) (Ask.Mown hm)
theorem PR.St.dM {R : PR} {C : Addr} {I : Ask} {H : Hp} {g : List Nat} (h : R.St C I H g) : R.dd ∉ I.M := fun z => h.own R.dd (by simp) (Ask.Mown z)
theorem PR.St.pc {R : PR} {C : Addr} {I : Ask} {H : Hp} {g : List Nat} (h : R.St C I H g) {n : Nat} (hn : n < R.P.length) : ∃ a, (R.pa.map V.ref)[n]? = some (.ref a) ∧ H a = some (.lst (nv (R.P.getD n []))) := by
  have hn' : n < R.pa.length := by rw [h.hl]; exact hn
  obtain ⟨ps, h1, h2⟩ := h.ha n _ (List.getElem?_eq_getElem hn')
  exact ⟨R.pa[n], by rw [List.getElem?_map, List.getElem?_eq_getElem hn']; rfl, by rw [List.getD_eq_getElem?_getD, h1]; exact h2⟩
def PR.left (R : PR) (g : List Nat) : Nat := (R.P.map List.length).sum - g.sum
/-- a pour as it stands behind the asks of a log -/
structure PR.At (R : PR) (b : Bool) (K : PySem.W.Frag) (A : Ad) (C : Addr) (I : Ask) (H : Hp) (log : List Ent) (g : List Nat) (W : Wt) : Prop where
  st : R.St C I H g
  ask : I.At K A H log
  pcs : Pcs I R.P
  gle : ∀ i, g.getD i 0 ≤ (R.P.getD i []).length
  dw : ∃ kvs, H R.dd = some (.dT kvs) ∧ DW H kvs W ∧ kvs ≠ [] ∧ kvs.length + 400 * R.left g ≤ 900000
  tre : ∃ z, Tre b (frts b R.P g) W log 0 R.P.length z
def PR.base (R : PR) : List Addr := R.o :: R.pp :: R.gg :: R.dd :: R.pa
theorem PR.At.stp {R : PR} {b : Bool} {K : PySem.W.Frag} {A : Ad} {C : Addr} {I : Ask} {M : List Addr} {H H' : Hp} {log : List Ent} {g : List Nat} {W : Wt} (h : R.At b K A C I H log g W) (S : Stp M H H') (hM : ∀ m ∈ M, m ∉ R.base ∧ m ∉ I.own) : R.At b K A C I H' log g W := by
  obtain ⟨kvs, h1, h2, h3, h4⟩ := h.dw
  refine ⟨h.st.stp S fun m hm z => (hM m hm).1 (by unfold PR.base; simp only [List.mem_cons] at z ⊢; rcases z with z | z | z | z <;> simp [z]), h.ask.stp S fun m hm => (hM m hm).2, h.pcs, h.gle, ⟨kvs, S.keep h1 fun z => (hM _ z).1 (by simp [PR.base]), h2.stp S, h3, h4⟩, h.tre⟩
/-- what a take changes -/
def PR.M (R : PR) (I : Ask) : List Addr := R.gg :: R.dd :: I.M
theorem sum_set {g : List Nat} {n : Nat} (h : n < g.length) : (g.set n (g.getD n 0 + 1)).sum = g.sum + 1 := by
  induction g generalizing n with
  | nil => simp at h
  | cons x g ih =>
    cases n with
    | zero => simp; omega
    | succ n =>
      have := ih (n := n) (by simpa using h)
      simp only [List.set_cons_succ, List.sum_cons, List.getD_cons_succ]
      omega
theorem sum_le {P : List (List Nat)} {g : List Nat} (hl : g.length = P.length) (h : ∀ i, g.getD i 0 ≤ (P.getD i []).length) : g.sum ≤ (P.map List.length).sum := by
  induction P generalizing g with
  | nil => cases g with
    | nil => simp
    | cons x g => simp at hl
  | cons ps P ih =>
    cases g with
    | nil => simp
    | cons x g =>
      have h0 := h 0
      have := ih (g := g) (by simpa using hl) fun i => by have := h (i + 1); simpa using this
      simp only [List.sum_cons, List.map_cons, List.getD_cons_zero] at h0 ⊢
      omega
theorem getD_set {g : List Nat} {n i x : Nat} (h : n < g.length) : (g.set n x).getD i 0 = if i = n then x else g.getD i 0 := by
  rw [List.getD_eq_getElem?_getD, List.getD_eq_getElem?_getD]
  by_cases e : i = n
  · subst e; rw [if_pos rfl, List.getElem?_set_self h]; rfl
  · rw [if_neg e, List.getElem?_set_ne (fun z => e z.symm)]
/-- a list of pairs -/
def Prs (H : Hp) (ts : List V) (l : List (Nat × Nat)) : Prop := ts.length = l.length ∧ ∀ (i : Nat) (x : Nat × Nat), l[i]? = some x → ∃ t : Addr, ts[i]? = some (.ref t) ∧ H t = some (.tup [.int (x.1 : Nat), .int (x.2 : Nat)])
theorem Prs.stp {M : List Addr} {H H' : Hp} {ts : List V} {l : List (Nat × Nat)} (h : Prs H ts l) (S : Stp M H H') : Prs H' ts l := ⟨h.1, fun i x e => by obtain ⟨t, h1, h2⟩ := h.2 i x e; exact ⟨t, h1, S.tup h2⟩⟩
theorem Prs.app {H : Hp} {ts : List V} {l : List (Nat × Nat)} {t : Addr} {x : Nat × Nat} (h : Prs H ts l) (ht : H t = some (.tup [.int (x.1 : Nat), .int (x.2 : Nat)])) : Prs H (ts ++ [.ref t]) (l ++ [x]) := by
  refine ⟨by simp [h.1], fun i y e => ?_⟩
  by_cases hi : i < l.length
  · rw [List.getElem?_append_left hi] at e
    obtain ⟨t', a, b⟩ := h.2 i y e
    exact ⟨t', by rw [List.getElem?_append_left (by rw [h.1]; exact hi)]; exact a, b⟩
  · rw [List.getElem?_append_right (by omega)] at e
    have hz : i = l.length := by
      have := (List.getElem?_eq_some_iff.mp e).1
      simp at this; omega
    subst hz
    simp at e
    subst e
    exact ⟨t, by rw [List.getElem?_append_right (by rw [h.1]; exact Nat.le_refl _), h.1]; simp, ht⟩
def sp_cut_between (K : PySem.W.Frag) (A : Ad) : Sp := fun vs H Q _ => ∃ (lo hi : Nat), vs = [.int lo, .int hi] ∧ Q (.int (cutB lo hi : Nat)) H
theorem ok_cut_between {P : Program} {w : World} {K : PySem.W.Frag} {mg : Str → Option Value} {base : Heap} {A : Ad} {f : Addr} {fd : FuncData} (F : Fun K "cut_between" "cut_between" s_cut_between f fd) (T : Txt K mg A)  : FnOk P w K mg base CX0 1 f fd ["low", "high"] (sp_cut_between K A) := by
  refine F.ok sc_cut_between (fun vs H Q E h => by obtain ⟨_, _, rfl, _⟩ := h; rfl) (fun cdv A' outer s H vs Q E hr h => ?_)
  obtain ⟨lo, hi, rfl, k⟩ := h
  refine ⟨_, (pss_one (ps_ret (pe_op SH.oDiv (pe_op SH.oAdd (pe_op SH.oAdd (pv 0) (pv 1)) pe_int) pe_int))), ?_⟩
  walk_at "begin"
  walk_at "rd"
  have e : ((lo : Int) + (hi : Nat) + 1) / 2 = ((cutB lo hi : Nat) : Int) := by unfold cutB; omega
  rw [e]
  exact k
/-- lists of places, one by one -/
def Pls (H : Hp) (pa : List Addr) (P : List (List Nat)) : Prop := pa.length = P.length ∧ ∀ (i : Nat) (a : Addr), pa[i]? = some a → ∃ ps, P[i]? = some ps ∧ H a = some (.lst (nv ps))
theorem Pls.stp {M : List Addr} {H H' : Hp} {pa : List Addr} {P : List (List Nat)} (h : Pls H pa P) (S : Stp M H H') (hM : ∀ m ∈ M, m ∉ pa) : Pls H' pa P := ⟨h.1, fun i a e => by
  obtain ⟨ps, h1, h2⟩ := h.2 i a e
  exact ⟨ps, h1, S.keep h2 fun z => hM a z (List.mem_of_getElem? e)⟩⟩
theorem Pls.there {H : Hp} {pa : List Addr} {P : List (List Nat)} (h : Pls H pa P) {a : Addr} (ha : a ∈ pa) : H a ≠ none := fun z => by
  obtain ⟨i, hi⟩ := List.mem_iff_getElem?.mp ha
  obtain ⟨ps, _, h2⟩ := h.2 i a hi
  rw [z] at h2; cases h2
theorem rep_zero (n : Nat) : (List.replicate n [V.int 0]).flatten = nv (List.replicate n 0) := by
  induction n with
  | zero => rfl
  | succ n ih => rw [List.replicate_succ, List.flatten_cons, ih, List.replicate_succ]; rfl
theorem rep_get (n i : Nat) : (List.replicate n 0).getD i 0 = 0 := by
  rw [List.getD_eq_getElem?_getD, List.getElem?_replicate]; split <;> rfl
theorem rep_sum (n : Nat) : (List.replicate n 0).sum = 0 := by induction n with | zero => rfl | succ n ih => simp [List.replicate_succ, ih]
theorem PR.At.dT {R : PR} {b : Bool} {K : PySem.W.Frag} {A : Ad} {C : Addr} {I : Ask} {H : Hp} {log : List Ent} {g : List Nat} {W : Wt} (h : R.At b K A C I H log g W) {H' : Hp} (S : Stp [] H H') : R.At b K A C I H' log g W := h.stp S (by simp)
theorem sum_int : ∀ g : List Nat, (g.map fun n : Nat => (n : Int)).sum = ((g.sum : Nat) : Int)
  | [] => rfl
  | n :: g => by simp only [List.map_cons, List.sum_cons, sum_int g]; omega
theorem PR.At.more {R : PR} {b : Bool} {K : PySem.W.Frag} {A : Ad} {C : Addr} {I : Ask} {H H' : Hp} {log log' : List Ent} {g : List Nat} {W : Wt} (h : R.At b K A C I H log g W) (S : Stp I.M H H') (hA : I.At K A H' log') (hl : ∀ e ∈ log, e ∈ log') : R.At b K A C I H' log' g W := by
  obtain ⟨kvs, h1, h2, h3, h4⟩ := h.dw
  obtain ⟨z, hz⟩ := h.tre
  exact ⟨h.st.ask S, hA, h.pcs, h.gle, ⟨kvs, S.keep h1 h.st.dM, h2.stp S, h3, h4⟩, ⟨z, hz.mono (fun _ _ _ => rfl) (fun _ _ _ _ _ => rfl) hl⟩⟩
theorem Pls.ext {H H' : Hp} {pa : List Addr} {P : List (List Nat)} (h : Pls H pa P) (e : ExtN H H') : Pls H' pa P := ⟨h.1, fun i a z => by
  obtain ⟨ps, h1, h2⟩ := h.2 i a z
  exact ⟨ps, h1, e _ _ h2 (by intro ps z; cases z)⟩⟩
theorem wipe_set {σ : L2.St} {j : Nat} {v : Option V} : wipe ((wipe σ [j]).set j v) [j] = wipe σ [j] := by
  show ((σ.set j none).set j v).set j none = σ.set j none
  rw [List.set_set, List.set_set]
/-- [list(piece) for piece in pieces] -/
theorem lc_copy {K : PySem.W.Frag} {σ : L2.St} {j : Nat} {H1 : Hp} {D pq : Addr} {pa : List Addr} {P : List (List Nat)} {Qd : Hp → Prop} (hj : j < σ.length) (hD : H1 D = none) (hpq : H1 pq = some (.lst (pa.map V.ref))) (hpl : Pls H1 pa P) (hP : P.length ≤ 1000)
    (k : ∀ H' pb, Stp [] H1 H' → H' D = some (.lst (pb.map V.ref)) → Pls H' pb P → (∀ a ∈ pb, H1 a = none ∧ a ≠ D) → pb.Nodup → Qd H') :
    ∃ W : Nat → Nat → Hp → Prop, (∃ m, W 0 m (upd H1 D (.lst []))) ∧ ∀ i m H, W i m H →
      ((Itl K pq).stop i H ∧ Qd H) ∨ ((Itl K pq).go i H ∧ ∃ Nx : Hp → Prop, (∀ H', Nx H' → ∃ m', m' < m ∧ W (i + 1) m' H') ∧ ∀ x H', (Itl K pq).yld i H x H' → gName j x (wipe σ [j]) H' fun σ2 H2 => wipe σ2 [j] = wipe σ [j] ∧ tYes σ2 H2 fun b H3 =>
        if b = true then tCB (rListOf K) (tCons (tVar j) tNil) σ2 H3 fun y H4 => ∃ acc, H4 D = some (.lst acc) ∧ acc.length < sizeLine ∧ Nx (upd H4 D (.lst (acc ++ [y]))) else Nx H3) := by
  refine lc_it (walk_list (xs := pa.map V.ref)) (fun j H' => Stp [] H1 H' ∧ ∃ pb : List Addr, pb.length = j ∧ pb.Nodup ∧ (∀ (i : Nat) (a : Addr), pb[i]? = some a → H1 a = none ∧ a ≠ D ∧ ∃ ps, P[i]? = some ps ∧ H' a = some (.lst (nv ps))) ∧ H' D = some (.lst (pb.map V.ref))) ⟨(Stp.refl _ _).new hD, [], rfl, .nil, (by intro i a e; simp at e), upd_same⟩ (fun j H' _ z => z.1.sql0 (SqL.of hpq)) ?_ ?_
  · rintro i x H3 H4 hi ⟨S, pb, hpbl, hpn, hpb, hL⟩ ⟨rfl, hx⟩
    obtain ⟨a, ha1, rfl⟩ := map_at hx
    obtain ⟨ps, h1, h2⟩ := hpl.2 i a ha1
    have h3 := S.keep0 h2
    have hpll := hpl.1
    rw [List.length_map] at hi
    refine ⟨wipe_set, ?_⟩
    refine SH.r_yes (SH.r_T ?_)
    refine SH.r_cb (SH.r_cons (SH.r_var (List.getElem?_set_self (by rw [wipe_length]; exact hj)) (SH.r_nil ?_)))
    refine w_listL (SqL.of h3) fun l hl => ?_
    have hlD : l ≠ D := (ne_of_none hL hl).symm
    refine ⟨_, upd_old hL hl, Nat.lt_of_le_of_lt (m := 1000) (by rw [List.length_map]; omega) (by decide), (S.new hl).putN hD, pb ++ [l], by simp [hpbl], ?_, fun i b e => ?_, by rw [upd_same, List.map_append]; rfl⟩
    · refine List.nodup_append.mpr ⟨hpn, by simp, fun a ha b hb z => ?_⟩
      rw [List.mem_singleton] at hb
      subst z
      subst hb
      obtain ⟨i, hi⟩ := List.mem_iff_getElem?.mp ha
      obtain ⟨_, _, _, _, q⟩ := hpb i _ hi
      rw [q] at hl
      cases hl
    by_cases hi2 : i < pb.length
    · rw [List.getElem?_append_left hi2] at e
      obtain ⟨q1, q2, ps', q3, q4⟩ := hpb i b e
      exact ⟨q1, q2, ps', q3, upd_far q2 (upd_old q4 hl)⟩
    · rw [List.getElem?_append_right (by omega)] at e
      have hz : i = pb.length := by
        have := (List.getElem?_eq_some_iff.mp e).1
        simp at this; omega
      subst hz
      simp at e
      subst e
      exact ⟨S.dom _ hl, hlD, ps, by rw [hpbl]; exact h1, upd_far hlD upd_same⟩
  · rintro H2 ⟨S2, pb, hpbl, hpn, hpb, hD2⟩
    rw [List.length_map] at hpbl
    refine k H2 pb S2 hD2 ⟨by rw [hpbl]; exact hpl.1, fun i a e => (hpb i a e).2.2⟩ (fun a ha => ?_) hpn
    obtain ⟨i, hi⟩ := List.mem_iff_getElem?.mp ha
    exact ⟨(hpb i a hi).1, (hpb i a hi).2.1⟩
/-- == tells of lists of lists -/
theorem Pls.isl {K : PySem.W.Frag} {H : Hp} {pa : List Addr} {P : List (List Nat)} (h : Pls H pa P) : IsL K H (pa.map V.ref) P := by
  obtain ⟨hl, h⟩ := h
  induction pa generalizing P with
  | nil => cases P with
    | nil => exact isl_nil
    | cons => simp at hl
  | cons a pa ih => cases P with
    | nil => simp at hl
    | cons ps P =>
      obtain ⟨qs, h1, h2⟩ := h 0 a rfl
      cases h1
      exact isl_cons (is_lst (SqL.of h2) isl_nats) (ih (by simpa using hl) fun i a e => h (i + 1) a e)
/-- [len(piece) for piece in pieces] -/
theorem lc_lens {K : PySem.W.Frag} {σ : L2.St} {j : Nat} {H1 : Hp} {D pq : Addr} {pa : List Addr} {P : List (List Nat)} {Qd : Hp → Prop} (hj : j < σ.length) (hD : H1 D = none) (hpq : H1 pq = some (.lst (pa.map V.ref))) (hpl : Pls H1 pa P) (hP : P.length ≤ 1000)
    (k : ∀ H' (ms : List Int), Stp [] H1 H' → H' D = some (.lst (ms.map V.int)) → ms.sum = (((P.map List.length).sum : Nat) : Int) → Qd H') :
    ∃ W : Nat → Nat → Hp → Prop, (∃ m, W 0 m (upd H1 D (.lst []))) ∧ ∀ i m H, W i m H →
      ((Itl K pq).stop i H ∧ Qd H) ∨ ((Itl K pq).go i H ∧ ∃ Nx : Hp → Prop, (∀ H', Nx H' → ∃ m', m' < m ∧ W (i + 1) m' H') ∧ ∀ x H', (Itl K pq).yld i H x H' → gName j x (wipe σ [j]) H' fun σ2 H2 => wipe σ2 [j] = wipe σ [j] ∧ tYes σ2 H2 fun b H3 =>
        if b = true then tCB (aLen K) (tCons (tVar j) tNil) σ2 H3 fun y H4 => ∃ acc, H4 D = some (.lst acc) ∧ acc.length < sizeLine ∧ Nx (upd H4 D (.lst (acc ++ [y]))) else Nx H3) := by
  refine lc_it (walk_list (xs := pa.map V.ref)) (fun j H' => Stp [] H1 H' ∧ ∃ ms : List Int, ms = (P.take j).map (fun ps => ((ps.length : Nat) : Int)) ∧ H' D = some (.lst (ms.map V.int))) ⟨(Stp.refl _ _).new hD, [], rfl, upd_same⟩ (fun j H' _ z => z.1.sql0 (SqL.of hpq)) ?_ ?_
  · rintro i x H3 H4 hi ⟨S, ms, hms, hL⟩ ⟨rfl, hx⟩
    obtain ⟨a, ha1, rfl⟩ := map_at hx
    obtain ⟨ps, h1, h2⟩ := hpl.2 i a ha1
    have h3 := S.keep0 h2
    have hpll := hpl.1
    rw [List.length_map] at hi
    refine ⟨wipe_set, ?_⟩
    refine SH.r_yes (SH.r_T ?_)
    refine SH.r_cb (SH.r_cons (SH.r_var (List.getElem?_set_self (by rw [wipe_length]; exact hj)) (SH.r_nil ?_)))
    refine v_lenLm (SqL.of h3) ?_
    refine ⟨_, hL, Nat.lt_of_le_of_lt (m := 1000) (by rw [List.length_map, hms, List.length_map, List.length_take]; omega) (by decide), S.putN hD, ms ++ [((ps.length : Nat) : Int)], ?_, by rw [upd_same, List.map_append]; rfl⟩
    rw [List.take_succ, h1, hms]
    simp
  · rintro H2 ⟨S2, ms, hms, hD2⟩
    rw [List.length_map, hpl.1, List.take_length] at hms
    refine k H2 ms S2 hD2 ?_
    rw [hms]
    clear hms hD2 S2 k hpl hpq hP
    induction P with
    | nil => rfl
    | cons ps P ih => simp only [List.map_cons, List.sum_cons, ih]; omega
theorem PR.At.base {R : PR} {b : Bool} {K : PySem.W.Frag} {A : Ad} {C : Addr} {I : Ask} {H : Hp} {log : List Ent} {g : List Nat} {W : Wt} (h : R.At b K A C I H log g W) {x : Addr} (hx : x ∈ R.base) : H x ≠ none := by
  have h1 := h.st
  obtain ⟨kvs, hd, _⟩ := h.dw
  simp only [PR.base, List.mem_cons] at hx
  rcases hx with rfl | rfl | rfl | rfl | hx
  · rw [h1.ho]; simp
  · rw [h1.hp]; simp
  · rw [h1.hg]; simp
  · rw [hd]; simp
  · obtain ⟨i, hi⟩ := List.mem_iff_getElem?.mp hx
    obtain ⟨ps, _, h2⟩ := h1.ha i _ hi
    rw [h2]; simp
theorem putK_ne {kvs : List (List Key × V)} {k : List Key} {v : V} : putK kvs k v ≠ [] := fun e => by
  have := putK_same (kvs := kvs) (k := k) (v := v)
  rw [e] at this
  cases this
theorem Way.last {n lo hi a c : Nat} {l : List (Nat × Nat)} {x : Nat × Nat} (h : Way n lo hi (l ++ [x]) a c) : Way n lo hi l x.1 x.2 ∧ x.1 + 1 < x.2 ∧ ((n < cutB x.1 x.2 ∧ a = x.1 ∧ c = cutB x.1 x.2) ∨ (¬ n < cutB x.1 x.2 ∧ a = cutB x.1 x.2 ∧ c = x.2)) := by
  generalize hz : l ++ [x] = m at h
  cases h with
  | nil => simp at hz
  | left k h hn =>
    obtain ⟨rfl, e⟩ := List.append_inj' hz rfl
    cases e
    exact ⟨k, h, .inl ⟨hn, rfl, rfl⟩⟩
  | right k h hn =>
    obtain ⟨rfl, e⟩ := List.append_inj' hz rfl
    cases e
    exact ⟨k, h, .inr ⟨hn, rfl, rfl⟩⟩
theorem Tre.sub {b : Bool} {F : Nat → Fr} {W : Wt} {log : List Ent} {n lo hi a c : Nat} {l : List (Nat × Nat)} {z : Fr} (h : Tre b F W log lo hi z) (w : Way n lo hi l a c) : ∃ z', Tre b F W log a c z' := by
  induction w with
  | nil => exact ⟨z, h⟩
  | @left l a c k hlt hn ih =>
    obtain ⟨z', t⟩ := ih
    cases t with
    | nil => omega
    | one => omega
    | node _ _ h1 _ _ _ => exact ⟨_, h1⟩
  | @right l a c k hlt hn ih =>
    obtain ⟨z', t⟩ := ih
    cases t with
    | nil => omega
    | one => omega
    | node _ _ _ h2 _ _ => exact ⟨_, h2⟩
theorem Tre.kids {b : Bool} {F : Nat → Fr} {W : Wt} {log : List Ent} {lo hi : Nat} {z : Fr} (h : Tre b F W log lo hi z) (hl : lo + 1 < hi) : ∃ x y, Tre b F W log lo (cutB lo hi) x ∧ Tre b F W log (cutB lo hi) hi y := by
  cases h with
  | nil => omega
  | one => omega
  | node _ _ h1 h2 _ _ => exact ⟨_, _, h1, h2⟩
/-- what comes when a place of the piece is taken: the fronts then -/
theorem TakeR.tre0 {b : Bool} {F : Nat → Fr} {W W' : Wt} {n : Nat} {x z w : Fr} {lo hi : Nat} {es log : List Ent} (h : TakeR b W n x lo hi es W' z) (t : Tre b F W log lo hi w) : Tre b (fun i => if i = n then x else F i) W' (log ++ es) lo hi z :=
  h.tre t (fun i hi => if_neg hi) (if_pos rfl) (fun e he => List.mem_append_left _ he) fun e he => List.mem_append_right _ he
theorem frts_set {b : Bool} {P : List (List Nat)} {g : List Nat} {n : Nat} (hn : n < g.length) : frts b P (g.set n (g.getD n 0 + 1)) = fun i => if i = n then frt b (P.getD n []) (g.getD n 0 + 1) n else frts b P g i := by
  funext i
  unfold frts
  rw [getD_set hn]
  by_cases e : i = n
  · subst e; rw [if_pos rfl, if_pos rfl]
  · rw [if_neg e, if_neg e]
/-! ### stopped, where more may have been changed -/
def StopM (M : List Addr) (I : Ask) (K : PySem.W.Frag) (A : Ad) (H : Hp) (log : List Ent) (R : List Ent → Prop) (E : XK) : Prop := ∀ (H' : Hp) (d : Addr) (es es' : List Ent), R (es ++ es') → es' ≠ [] → Told I.or log (es ++ es') → I.m = some (log.length + es.length) → Stp M H H' → I.At K A H' (log ++ es) → H d = none → H' d = some (.xd [("asked", .int ((log.length + es.length : Nat) : Int))]) → E (.ref A.Spent) (some d) H'
theorem Stop.toM {I : Ask} {K : PySem.W.Frag} {A : Ad} {H : Hp} {log : List Ent} {R : List Ent → Prop} {E : XK} (h : Stop I K A H log R E) : StopM I.M I K A H log R E := h
theorem StopM.toS {I : Ask} {K : PySem.W.Frag} {A : Ad} {H : Hp} {log : List Ent} {R : List Ent → Prop} {E : XK} (h : StopM I.M I K A H log R E) : Stop I K A H log R E := h
theorem StopM.free {M : List Addr} {I : Ask} {K : PySem.W.Frag} {A : Ad} {H : Hp} {log : List Ent} {R : List Ent → Prop} {E : XK} (h : I.m = none) : StopM M I K A H log R E := fun _ _ _ _ _ _ _ hm => by rw [h] at hm; cases hm
theorem StopM.sub {M M1 : List Addr} {I : Ask} {K : PySem.W.Frag} {A : Ad} {H H1 : Hp} {log es1 : List Ent} {R R1 : List Ent → Prop} {E : XK} (h : StopM M I K A H log R E) (S : Stp M H H1) (hM : ∀ m ∈ M1, m ∈ M ∨ H m = none) (hT : Told I.or log es1)
    (hR : ∀ es2, R1 es2 → Told I.or (log ++ es1) es2 → ∃ es3, Told I.or (log ++ es1 ++ es2) es3 ∧ R (es1 ++ es2 ++ es3)) : StopM M1 I K A H1 (log ++ es1) R1 E := fun H' d es es' h1 hne hT1 hm S' hA hd hx => by
  obtain ⟨es3, hT3, hR3⟩ := hR _ h1 hT1
  have e : es1 ++ (es ++ es') ++ es3 = es1 ++ es ++ (es' ++ es3) := by simp
  have el : (log ++ es1).length + es.length = log.length + (es1 ++ es).length := by simp; omega
  rw [e] at hR3
  rw [el] at hm hx
  refine h H' d (es1 ++ es) (es' ++ es3) hR3 (by simp [hne]) ?_ hm (S.then S' hM) (by rw [← List.append_assoc]; exact hA) (S.dom _ hd) hx
  rw [← e]
  exact Told.app (Told.app hT hT1) (by rw [← List.append_assoc]; exact hT3)
theorem StopM.sub0 {M M1 : List Addr} {I : Ask} {K : PySem.W.Frag} {A : Ad} {H H1 : Hp} {log : List Ent} {R R1 : List Ent → Prop} {E : XK} (h : StopM M I K A H log R E) (S : Stp M H H1) (hM : ∀ m ∈ M1, m ∈ M ∨ H m = none)
    (hR : ∀ es2, R1 es2 → Told I.or log es2 → ∃ es3, Told I.or (log ++ es2) es3 ∧ R (es2 ++ es3)) : StopM M1 I K A H1 log R1 E := by
  have := h.sub (es1 := []) (R1 := R1) (M1 := M1) S hM True.intro (fun es2 h1 h2 => by
    rw [List.append_nil] at h2 ⊢
    rw [List.nil_append]
    exact hR es2 h1 h2)
  rw [List.append_nil] at this
  exact this
theorem StopM.imp {M M1 : List Addr} {I : Ask} {K : PySem.W.Frag} {A : Ad} {H H1 : Hp} {log : List Ent} {R R1 : List Ent → Prop} {E : XK} (h : StopM M I K A H log R E) (S : Stp M H H1) (hM : ∀ m ∈ M1, m ∈ M ∨ H m = none) (hR : ∀ es, R1 es → R es) : StopM M1 I K A H1 log R1 E :=
  h.sub0 S hM fun es2 h1 _ => ⟨[], True.intro, by rw [List.append_nil]; exact hR es2 h1⟩
/-! ### every meeting comes to an end, whatever is told -/
theorem Meet.total (or : List Ent → Nat → Nat → Bool) (b : Bool) (x y : Fr) (log : List Ent) : ∃ es z, Meet b x y es z ∧ Told or log es := by
  cases x with
  | none => exact ⟨[], y, .l, True.intro⟩
  | some x => cases y with
    | none => exact ⟨[], some x, .r, True.intro⟩
    | some y => exact ⟨_, _, .m (or log (max x.1 y.1) (min x.1 y.1)), rfl, True.intro⟩
theorem Hold.total (or : List Ent → Nat → Nat → Bool) (b : Bool) (F : Nat → Fr) : ∀ (m lo hi : Nat) (W : Wt) (log : List Ent), hi - lo = m → lo ≤ hi → ∃ es W' z, Hold b F lo hi W es W' z ∧ Told or log es := by
  intro m
  induction m using Nat.strongRecOn with
  | ind m ih =>
    intro lo hi W log hm hle
    by_cases h : lo + 1 < hi
    · have hc := cutB_lt h
      obtain ⟨e1, W1, x, k1, t1⟩ := ih (cutB lo hi - lo) (by omega) lo (cutB lo hi) W log rfl (by omega)
      obtain ⟨e2, W2, y, k2, t2⟩ := ih (hi - cutB lo hi) (by omega) (cutB lo hi) hi W1 (log ++ e1) rfl (by omega)
      obtain ⟨e3, z, k3, t3⟩ := Meet.total or b x y (log ++ e1 ++ e2)
      exact ⟨_, _, _, .node h k1 k2 k3, Told.app t1 (Told.app t2 t3)⟩
    · by_cases h1 : lo = hi
      · subst h1
        exact ⟨[], _, _, .nil, True.intro⟩
      · obtain rfl : hi = lo + 1 := by omega
        exact ⟨[], _, _, .one, True.intro⟩
theorem TakeR.up (or : List Ent → Nat → Nat → Bool) {b : Bool} {F : Nat → Fr} {W : Wt} {log0 : List Ent} {n N a c : Nat} {x zz : Fr} {l : List (Nat × Nat)} (T : Tre b F W log0 0 N zz) (hW : Way n 0 N l a c) : ∀ {es lg : List Ent} {Wz : Wt} {z : Fr}, TakeR b W n x a c es Wz z → ∃ es' W' z', TakeR b W n x 0 N (es ++ es') W' z' ∧ Told or lg es' := by
  induction hW with
  | nil => intro es lg Wz z hk; exact ⟨[], _, _, by rw [List.append_nil]; exact hk, True.intro⟩
  | @left l a c k h hn ih =>
    intro es lg Wz z hk
    obtain ⟨zz2, t2⟩ := T.sub k
    obtain ⟨x', y', t3, t4⟩ := t2.kids h
    obtain ⟨e2, z2, hm, hT⟩ := Meet.total or b z y' lg
    obtain ⟨es', W', z', hk', hT'⟩ := ih (lg := lg ++ e2) (.left h hn hk t4.at hm)
    exact ⟨e2 ++ es', W', z', by rw [← List.append_assoc]; exact hk', Told.app hT hT'⟩
  | @right l a c k h hn ih =>
    intro es lg Wz z hk
    obtain ⟨zz2, t2⟩ := T.sub k
    obtain ⟨x', y', t3, t4⟩ := t2.kids h
    obtain ⟨e2, z2, hm, hT⟩ := Meet.total or b x' z lg
    obtain ⟨es', W', z', hk', hT'⟩ := ih (lg := lg ++ e2) (.right h hn hk t3.at hm)
    exact ⟨e2 ++ es', W', z', by rw [← List.append_assoc]; exact hk', Told.app hT hT'⟩
def sp_Pour_front (K : PySem.W.Frag) (A : Ad) : Sp := fun vs H Q _ => ∃ (R : PR) (I : Ask) (g : List Nat) (n i : Nat), vs = [.ref R.o, .int n, .int i] ∧ (R.St A.Pour I H g ∧ n < R.P.length) ∧ ∀ v H', Stp [] H H' → frV H' v (frt false (R.P.getD n []) i n) → Q v H'
theorem ok_Pour_front {P : Program} {w : World} {K : PySem.W.Frag} {mg : Str → Option Value} {base : Heap} {A : Ad} {f : Addr} {fd : FuncData} (F : Fun K "front" "Pour.front" s_Pour_front f fd) (T : Txt K mg A)  : FnOk P w K mg base CX0 1 f fd ["self", "number", "gone"] (sp_Pour_front K A) := by
  refine F.ok sc_Pour_front (fun vs H Q E h => by obtain ⟨_, _, _, _, _, rfl, _⟩ := h; rfl) (fun cdv A' outer s H vs Q E hr h => ?_)
  obtain ⟨R, I, g, n, i, rfl, ⟨hSt, hn⟩, k⟩ := h
  refine ⟨_, (pss_cons (ps_set (i := 3) sc_Pour_front.nd rfl (Or.inl rfl) (pe_ix SH.ixA (SH.pe_fldF T.cl_Pour T.na_Pour_pieces (pv 0)) (pv 1) (fun _ _ => rfl)))
        (pss_cons (ps_if (pt_cmpR SH.oGe (pv 2) (pe_callB SH.cLen (by rfl) T.z_len (by decide +kernel) (pa_cons (pv 3) pa_nil)) (nomark _)) (pss_one (ps_ret pe_non)) pss_nil)
        (pss_one (ps_ret (pe_tup (pa_cons (pe_ix SH.ixA (pv 3) (pv 2) (fun _ _ => rfl)) (pa_cons (pv 1) pa_nil))))))), ?_⟩
  walk_at "begin"
  have ho := hSt.ho
  unfold PF at ho
  have hp := hSt.hp
  obtain ⟨a, ha1, ha2⟩ := hSt.pc hn
  walk_at "rd"
  refine v_ixLn (n := n) (SqL.of hp) rfl ha1 ?_
  walk_at "rd"
  refine r_w (fun hc => ?_) fun hc => ?_
  · walk_at "rd"
    refine k _ _ (.refl _ _) ?_
    have e : frt false (R.P.getD n []) i n = none := by
      unfold frt
      rw [if_neg (by decide), List.getElem?_eq_none (by omega)]
      rfl
    rw [e]; rfl
  · walk_at "rd"
    have hi : i < (R.P.getD n []).length := by omega
    refine v_ixLn (n := i) (SqL.of ha2) rfl (v := .int ((R.P.getD n [])[i] : Nat)) (by unfold nv; rw [List.getElem?_map, List.getElem?_eq_getElem hi]; rfl) ?_
    walk_at "rd"
    intro t ht
    refine k _ _ ((Stp.refl _ _).new ht) ?_
    have e : frt false (R.P.getD n []) i n = some ((R.P.getD n [])[i], n) := by
      unfold frt
      rw [if_neg (by decide), List.getElem?_eq_getElem hi]
      rfl
    rw [e]
    exact ⟨t, rfl, upd_same⟩
def sp_Pour_goes_on (K : PySem.W.Frag) (A : Ad) : Sp := fun vs H Q E => ∃ (R : PR) (I : Ask) (g : List Nat) (log : List Ent) (p q : Nat), vs = [.ref R.o, .int p, .int q] ∧ (R.St A.Pour I H g ∧ I.At K A H log ∧ p < I.n ∧ q < I.n ∧ p ≠ q ∧ log.length + I.pre.length < 100000) ∧
  Stop I K A H log (fun es => ∃ said, es = [⟨max p q, min p q, said⟩]) E ∧
  ∀ H' said, said = I.or log (max p q) (min p q) → Stp I.M H H' → I.At K A H' (log ++ [⟨max p q, min p q, said⟩]) → Q (.bl (goes false said p q)) H'
theorem ok_Pour_goes_on {P : Program} {w : World} {K : PySem.W.Frag} {mg : Str → Option Value} {base : Heap} {A : Ad} {f : Addr} {fd : FuncData} (F : Fun K "goes_on" "Pour.goes_on" s_Pour_goes_on f fd) (T : Txt K mg A) (M_Asker_ahead : SH.CalM P w K mg base (L2N.CX P w) 3 A.Asker "ahead" [] (sp_Asker_ahead K A)) : FnOk P w K mg base (L2N.CX P w) 4 f fd ["self", "one", "other"] (sp_Pour_goes_on K A) := by
  refine SH.okN F sc_Pour_goes_on (fun vs H Q E h => by obtain ⟨_, _, _, _, _, _, rfl, _⟩ := h; rfl) (fun cdv A' outer s H vs Q E hr h => ?_)
  obtain ⟨R, I, g, log, p, q, rfl, ⟨hSt, hA, h1, h2, h3, h4⟩, kx, k⟩ := h
  refine ⟨_, (pss_one (ps_ret (SH.pe_methF (SH.pe_fldF T.cl_Pour T.na_Pour_asker (pv 0)) M_Asker_ahead hr (L2N.passes_call (L2N.takes_of rfl rfl rfl rfl) fun _ _ _ _ h => h) (pa_cons (pv 1) (pa_cons (pv 2) pa_nil))))), ?_⟩
  walk_at "begin"
  have ho := hSt.ho
  unfold PF at ho
  have hs := hA.hs
  walk_at "rd"
  exact ⟨I, log, p, q, rfl, ⟨hA, h1, h2, h3, h4⟩, kx, fun H' said e S hA' => k H' said e S hA'⟩
def sp_Pour_meeting (K : PySem.W.Frag) (A : Ad) : Sp := fun vs H Q E => ∃ (R : PR) (I : Ask) (g : List Nat) (log : List Ent) (v w : V) (x y : Fr), vs = [.ref R.o, v, w] ∧ (R.St A.Pour I H g ∧ I.At K A H log ∧ frV H v x ∧ frV H w y ∧ (∀ a c, x = some a → y = some c → a.1 < I.n ∧ c.1 < I.n ∧ a.1 ≠ c.1) ∧ log.length + I.pre.length < 100000) ∧
  Stop I K A H log (fun es => ∃ z, Meet false x y es z) E ∧
  ∀ H' es z u, Meet false x y es z → Told I.or log es → Stp I.M H H' → I.At K A H' (log ++ es) → frV H' u z → Q u H'
theorem ok_Pour_meeting {P : Program} {w : World} {K : PySem.W.Frag} {mg : Str → Option Value} {base : Heap} {A : Ad} {f : Addr} {fd : FuncData} (F : Fun K "meeting" "Pour.meeting" s_Pour_meeting f fd) (T : Txt K mg A) (M_Pour_goes_on : SH.CalM P w K mg base (L2N.CX P w) 4 A.Pour "goes_on" [] (sp_Pour_goes_on K A)) : FnOk P w K mg base (L2N.CX P w) 5 f fd ["self", "one", "other"] (sp_Pour_meeting K A) := by
  refine SH.okN F sc_Pour_meeting (fun vs H Q E h => by obtain ⟨_, _, _, _, _, _, _, _, rfl, _⟩ := h; rfl) (fun cdv A' outer s H vs Q E hr h => ?_)
  obtain ⟨R, I, g, log, v, w, x, y, rfl, ⟨hSt, hA, hx, hy, hxy, hlog⟩, kx, k⟩ := h
  refine ⟨_, (pss_cons (ps_if (pt_cmpR SH.oIsN (pv 1) pe_non (nomark _)) (pss_one (ps_ret (pv 2))) pss_nil)
        (pss_cons (ps_if (PW.pt (pw_or (pt_cmpR SH.oIsN (pv 2) pe_non (nomark _)) (pw_or1 (pt_val (SH.pe_methF (pv 0) M_Pour_goes_on hr (L2N.passes_call (L2N.takes_of rfl rfl rfl rfl) fun _ _ _ _ h => h) (pa_cons (pe_ix SH.ixA (pv 1) pe_int (fun _ _ => rfl)) (pa_cons (pe_ix SH.ixA (pv 2) pe_int (fun _ _ => rfl)) pa_nil))))))) (pss_one (ps_ret (pv 1))) pss_nil)
        (pss_one (ps_ret (pv 2))))), ?_⟩
  walk_at "begin"
  have ho := hSt.ho
  unfold PF at ho
  walk_at "rd"
  cases x with
  | none =>
    cases hx
    refine r_wT rfl ?_
    walk_at "rd"
    exact k H [] y w .l True.intro (.refl _ _) (by rw [List.append_nil]; exact hA) hy
  | some x =>
    obtain ⟨t, rfl, ht⟩ := hx
    refine r_wF (by intro z; cases z) ?_
    walk_at "rd"
    cases y with
    | none =>
      cases hy
      refine r_wT rfl ?_
      walk_at "rd"
      exact k H [] (some x) (.ref t) .r True.intro (.refl _ _) (by rw [List.append_nil]; exact hA) ⟨t, rfl, ht⟩
    | some y =>
      obtain ⟨t2, rfl, ht2⟩ := hy
      refine r_wF (by intro z; cases z) ?_
      walk_at "rd"
      refine v_ixTn (n := 0) (SqT.of ht) rfl rfl ?_
      walk_at "rd"
      refine v_ixTn (n := 0) (SqT.of ht2) rfl rfl ?_
      obtain ⟨a1, a2, a3⟩ := hxy x y rfl rfl
      walk_at "rd"
      refine ⟨R, I, g, log, x.1, y.1, rfl, ⟨hSt, hA, a1, a2, a3, hlog⟩, StopM.toS (kx.toM.imp (.refl _ _) (fun m hm => .inl hm) (fun es ⟨said, e⟩ => by subst e; exact ⟨_, .m said⟩)), fun H' said e S hA' => ?_⟩
      have hm := Meet.m (b := false) (x := x) (y := y) said
      have hT : Told I.or log [⟨max x.1 y.1, min x.1 y.1, said⟩] := Told.one e
      refine ⟨_, rfl, ?_⟩
      refine r_b (fun hb => ?_) fun hb => ?_
      · walk_at "rd"
        rw [if_pos hb] at hm
        exact k H' _ _ _ hm hT S hA' ⟨t, rfl, S.tup ht⟩
      · walk_at "rd"
        rw [if_neg (by rw [hb]; exact Bool.false_ne_true)] at hm
        exact k H' _ _ _ hm hT S hA' ⟨t2, rfl, S.tup ht2⟩
def sp_Pour_hold_alln (n : Nat) (K : PySem.W.Frag) (A : Ad) : Sp := fun vs H Q E => ∃ (R : PR) (I : Ask) (g : List Nat) (log : List Ent) (lo hi : Nat) (W : Wt) (kvs : List (List Key × V)), vs = [.ref R.o, .int lo, .int hi] ∧
  ((0 < n ∧ hi - lo ≤ 2 ^ (n - 1) ∧ lo ≤ hi ∧ hi ≤ R.P.length) ∧ R.St A.Pour I H g ∧ I.At K A H log ∧ Pcs I R.P ∧ (∀ i, g.getD i 0 = 0) ∧ H R.dd = some (.dT kvs) ∧ DW H kvs W ∧ kvs.length + 2 * (hi - lo) + 1 ≤ 5000 ∧ log.length + I.pre.length + (hi - lo) < 100000) ∧
  StopM (R.dd :: I.M) I K A H log (fun es => ∃ W' z, Hold false (frts false R.P g) lo hi W es W' z) E ∧
  ∀ H' es W' z u kvs', Hold false (frts false R.P g) lo hi W es W' z → Told I.or log es → Stp (R.dd :: I.M) H H' → I.At K A H' (log ++ es) → H' R.dd = some (.dT kvs') → DW H' kvs' W' → kvs'.length ≤ kvs.length + 2 * (hi - lo) + 1 - (if lo < hi then 2 else 0) → kvs' ≠ [] → frV H' u z → Q u H'
theorem sp_Pour_hold_alln0 {K : PySem.W.Frag} {A : Ad} {vs : List V} {H : Hp} {Q : VK} {E : XK} (h : sp_Pour_hold_alln 0 K A vs H Q E) : False := by
  obtain ⟨_, _, _, _, _, _, _, _, _, ⟨⟨h, _⟩, _⟩, _⟩ := h
  exact Nat.lt_irrefl 0 h
abbrev sp_Pour_hold_all (K : PySem.W.Frag) (A : Ad) : Sp := sp_Pour_hold_alln 10 K A
theorem okn_Pour_hold_all {P : Program} {w : World} {K : PySem.W.Frag} {mg : Str → Option Value} {base : Heap} {A : Ad} {f : Addr} {fd : FuncData} (n : Nat) (F : Fun K "hold_all" "Pour.hold_all" s_Pour_hold_all f fd) (T : Txt K mg A) (M_Pour_front : SH.CalM P w K mg base CX0 1 A.Pour "front" [] (sp_Pour_front K A)) (M_Pour_meeting : SH.CalM P w K mg base (L2N.CX P w) 5 A.Pour "meeting" [] (sp_Pour_meeting K A)) (C_cut_between : SH.Cal P w K mg base CX0 1 "cut_between" [] (sp_cut_between K A)) (M_Pour_hold_all : SH.CalM P w K mg base (L2N.CX P w) (5 + n) A.Pour "hold_all" [] (sp_Pour_hold_alln n K A)) : FnOk P w K mg base (L2N.CX P w) (5 + n + 1) f fd ["self", "low", "high"] (sp_Pour_hold_alln (n + 1) K A) := by
  refine SH.okN F sc_Pour_hold_all (fun vs H Q E h => by obtain ⟨_, _, _, _, _, _, _, _, rfl, _⟩ := h; rfl) (fun cdv A' outer s H vs Q E hr h => ?_)
  obtain ⟨R, I, g, log, lo, hi, W, kvs, rfl, ⟨⟨h0, hpw, hlo, hhi⟩, hSt, hA, hP, hg0, hd, hdw, hkl, hlog⟩, kx, k⟩ := h
  rw [Nat.add_sub_cancel] at hpw
  refine ⟨_, (pss_cons (ps_set (i := 3) sc_Pour_hold_all.nd rfl (Or.inl rfl) pe_non)
        (pss_cons (ps_if (pt_cmpR (SH.oEq hr.units) (pe_op SH.oSub (pv 2) (pv 1)) pe_int (nomark _)) (pss_one (ps_set (i := 3) sc_Pour_hold_all.nd rfl (Or.inl rfl) (SH.pe_methF (pv 0) M_Pour_front hr pass0 (pa_cons (pv 1) (pa_cons pe_int pa_nil)) (hk := by omega)))) (pss_one (ps_if (pt_cmpR SH.oGt (pv 2) (pv 1) (nomark _)) (pss_cons (ps_set (i := 4) sc_Pour_hold_all.nd rfl (Or.inl rfl) (SH.pe_callF C_cut_between hr (by rfl) pass0 (pa_cons (pv 1) (pa_cons (pv 2) pa_nil)) (hk := by omega)))
        (pss_cons (ps_set (i := 5) sc_Pour_hold_all.nd rfl (Or.inl rfl) (SH.pe_methF (pv 0) M_Pour_hold_all hr (L2N.passes_call (L2N.takes_of rfl rfl rfl rfl) fun _ _ _ _ h => h) (pa_cons (pv 1) (pa_cons (pv 4) pa_nil)) (hk := by omega)))
        (pss_one (ps_set (i := 3) sc_Pour_hold_all.nd rfl (Or.inl rfl) (SH.pe_methF (pv 0) M_Pour_meeting hr (L2N.passes_call (L2N.takes_of rfl rfl rfl rfl) fun _ _ _ _ h => h) (pa_cons (pv 5) (pa_cons (SH.pe_methF (pv 0) M_Pour_hold_all hr (L2N.passes_call (L2N.takes_of rfl rfl rfl rfl) fun _ _ _ _ h => h) (pa_cons (pv 4) (pa_cons (pv 2) pa_nil)) (hk := by omega)) pa_nil)) (hk := by omega)))))) pss_nil)))
        (pss_cons (ps_dput (hu_of hr) (SH.pe_fldF T.cl_Pour T.na_Pour_went_on (pv 0)) (pe_tup (pa_cons (pv 1) (pa_cons (pv 2) pa_nil))) (pv 3) rfl)
        (pss_one (ps_ret (pv 3)))))), ?_⟩
  walk_at "begin"
  have ho := hSt.ho
  unfold PF at ho
  walk_at "rd"
  refine r_wJ (W := fun σ' H' => ∃ (u : V) (z : Fr) (es : List Ent) (W1 : Wt) (kvs1 : List (List Key × V)) (v4 v5 : Option V), Hold false (frts false R.P g) lo hi W es (putW W1 lo hi z) z ∧ Told I.or log es ∧ Stp (R.dd :: I.M) H H' ∧ I.At K A H' (log ++ es) ∧ H' R.dd = some (.dT kvs1) ∧ DW H' kvs1 W1 ∧ kvs1.length ≤ kvs.length + 2 * (hi - lo) - (if lo < hi then 2 else 0) ∧ frV H' u z ∧
      σ' = [some (.ref R.o), some (.int lo), some (.int hi), some u, v4, v5]) ?_ (fun hc N hN => ?_) (fun hc N hN => ?_)
  · rintro σ' H1 ⟨u, z, es, W1, kvs1, v4, v5, hH, hT, S1, hA1, hd1, hdw1, hkl1, hz, rfl⟩
    dsimp only
    have hSt1 := hSt.askd hd S1
    have ho1 := hSt1.ho
    unfold PF at ho1
    walk_at "rd"
    intro q hq
    refine v_dputT (ks := pk lo hi) (upd_old hd1 hq) upd_same (by omega) ?_
    walk_at "rd"
    have S2 : Stp [R.dd] H1 (upd (upd H1 q (.tup [.int lo, .int hi])) R.dd (.dT (putK kvs1 (pk lo hi) u))) := ((Stp.refl _ _).new hq).putM (by simp) (upd_old hd1 hq) (fun z => z)
    have hl := length_putK kvs1 (pk lo hi) u
    refine k _ es _ z u (putK kvs1 (pk lo hi) u) hH hT (S1.trans (S2.mono (by simp))) (hA1.stp S2 (by intro m hm; rw [List.mem_singleton] at hm; subst hm; exact hSt.own _ (by simp))) upd_same ((hdw1.stp S2).put (hz.stp S2)) ?_ putK_ne (hz.stp S2)
    split at hkl1 <;> split <;> omega
  · walk_at "rd"
    refine ⟨R, I, g, lo, 0, rfl, ⟨hSt, by omega⟩, fun v H1 S1 hv => ?_⟩
    walk_at "rd"
    have e : hi = lo + 1 := by omega
    subst e
    have ef : frt false (R.P.getD lo []) 0 lo = frts false R.P g lo := by unfold frts; rw [hg0]
    rw [ef] at hv
    refine hN _ _ ⟨v, _, [], W, kvs, _, _, .one, True.intro, S1.mono (by simp), by rw [List.append_nil]; exact hA.stp S1 (by simp), S1.keep0 hd, hdw.stp S1, ?_, hv, rfl⟩
    rw [if_pos (by omega)]; omega
  · walk_at "rd"
    refine r_w (fun hc2 => ?_) fun hc2 => ?_
    · walk_at "rd"
      refine ⟨lo, hi, rfl, ?_⟩
      have hlt : lo + 1 < hi := by omega
      have hcut := cutB_lt hlt
      walk_at "rd"
      have hn0 : 0 < n := by
        rcases Nat.eq_zero_or_pos n with z | z
        · subst z; simp at hpw; omega
        · exact z
      have hpw2 : 2 ^ n = 2 * 2 ^ (n - 1) := by
        rw [← Nat.pow_succ']; congr 1; omega
      have hc1 : cutB lo hi - lo ≤ 2 ^ (n - 1) := by unfold cutB; omega
      have hc2' : hi - cutB lo hi ≤ 2 ^ (n - 1) := by unfold cutB; omega
      refine ⟨R, I, g, log, lo, cutB lo hi, W, kvs, rfl, ⟨⟨hn0, hc1, by omega, by omega⟩, hSt, hA, hP, hg0, hd, hdw, by omega, by omega⟩, kx.sub0 (.refl _ _) (fun m hm => .inl hm) (fun es2 ⟨W1, x, k1⟩ hT1 => by
        obtain ⟨e2, W2, y, k2, t2⟩ := Hold.total I.or false (frts false R.P g) _ (cutB lo hi) hi W1 (log ++ es2) rfl (by omega)
        obtain ⟨e3, z, k3, t3⟩ := Meet.total I.or false x y (log ++ es2 ++ e2)
        exact ⟨e2 ++ e3, Told.app t2 t3, _, _, .node hlt k1 k2 k3⟩), fun H1 e1 W1 x u kvs1 hH1 hT1 S1 hA1 hd1 hdw1 hkl1 _ hx => ?_⟩
      have hf1 := hH1.few
      have hSt1 := hSt.askd hd S1
      have ho1 := hSt1.ho
      unfold PF at ho1
      rw [if_pos (by omega)] at hkl1
      walk_at "rd"
      refine ⟨R, I, g, log ++ e1, cutB lo hi, hi, W1, kvs1, rfl, ⟨⟨hn0, hc2', by omega, by omega⟩, hSt1, hA1, hP, hg0, hd1, hdw1, by omega, by rw [List.length_append]; omega⟩, kx.sub S1 (fun m hm => .inl hm) hT1 (fun es2 ⟨W2, y, k2⟩ hT2 => by
        obtain ⟨e3, z, k3, t3⟩ := Meet.total I.or false x y (log ++ e1 ++ es2)
        exact ⟨e3, t3, _, _, by rw [List.append_assoc]; exact .node hlt hH1 k2 k3⟩), fun H2 e2 W2 y w kvs2 hH2 hT2 S2 hA2 hd2 hdw2 hkl2 _ hy => ?_⟩
      have hf2 := hH2.few
      rw [if_pos (by omega)] at hkl2
      have hSt2 := hSt1.askd hd1 S2
      have ho2 := hSt2.ho
      unfold PF at ho2
      have t1 := hH1.tre (log := e1) fun _ h => h
      have t2 := hH2.tre (log := e2) fun _ h => h
      refine ⟨R, I, g, log ++ e1 ++ e2, u, w, x, y, rfl, ⟨hSt2, hA2, hx.stp S2, hy, fun a c ea ec => ?_, by simp only [List.length_append]; omega⟩, (by
        have := kx.sub (M1 := I.M) (es1 := e1 ++ e2) (R1 := fun es => ∃ z, Meet false x y es z) (S1.trans S2) (fun m hm => .inl (List.mem_cons_of_mem _ hm)) (Told.app hT1 hT2) (fun es3 ⟨z, k3⟩ hT3 => ⟨[], True.intro, _, z, by rw [List.append_nil, List.append_assoc]; exact .node hlt hH1 hH2 k3⟩)
        rw [← List.append_assoc] at this
        exact this), fun H3 e3 z v hm hT3 S3 hA3 hz => ?_⟩
      · subst ea ec
        exact t1.two hP t2 (Nat.le_refl _)
      · have hT := Told.app hT1 (Told.app hT2 hT3)
        have d3 : H3 R.dd = some (.dT kvs2) := S3.keep hd2 hSt.dM
        rw [List.append_assoc, List.append_assoc] at hA3
        walk_at "rd"
        refine hN _ _ ⟨v, z, e1 ++ (e2 ++ e3), W2, kvs2, _, _, .node hlt hH1 hH2 hm, hT, (S1.trans S2).trans (S3.mono fun b hb => List.mem_cons_of_mem _ hb), hA3, d3, hdw2.stp S3, ?_, hz, rfl⟩
        rw [if_pos (by omega)]; omega
    · walk_at "rd"
      have e : hi = lo := by omega
      subst e
      refine hN _ _ ⟨.non, none, [], W, kvs, _, _, .nil, True.intro, .refl _ _, by rw [List.append_nil]; exact hA, hd, hdw, ?_, rfl, rfl⟩
      rw [if_neg (by omega)]; omega
theorem ok_Pour_hold_all {P : Program} {w : World} {K : PySem.W.Frag} {mg : Str → Option Value} {base : Heap} {A : Ad} {f : Addr} {fd : FuncData} (F : Fun K "hold_all" "Pour.hold_all" s_Pour_hold_all f fd) (T : Txt K mg A) (M_Pour_front : SH.CalM P w K mg base CX0 1 A.Pour "front" [] (sp_Pour_front K A)) (M_Pour_meeting : SH.CalM P w K mg base (L2N.CX P w) 5 A.Pour "meeting" [] (sp_Pour_meeting K A)) (C_cut_between : SH.Cal P w K mg base CX0 1 "cut_between" [] (sp_cut_between K A)) (me : Meth K A.Pour "hold_all" f) (bi : Binds K fd ["self", "low", "high"] []) : FnOk P w K mg base (L2N.CX P w) 15 f fd ["self", "low", "high"] (sp_Pour_hold_all K A) := by
  have go : ∀ n, FnOk P w K mg base (L2N.CX P w) (5 + n) f fd ["self", "low", "high"] (sp_Pour_hold_alln n K A) := fun n => by
    induction n with
    | zero => exact ⟨fun _ _ _ _ h => (sp_Pour_hold_alln0 h).elim, fun _ _ _ _ _ _ _ _ _ _ _ _ _ h => (sp_Pour_hold_alln0 h).elim⟩
    | succ n ih => exact okn_Pour_hold_all n F T M_Pour_front M_Pour_meeting C_cut_between ⟨T.cl_Pour, f, fd, _, _, me, bi, .nil, ih⟩
  exact go 10

def sp_Pour___init__ (K : PySem.W.Frag) (A : Ad) : Sp := fun vs H Q E => ∃ (o hd : Addr) (I : Ask) (log : List Ent) (ha : List Addr) (P : List (List Nat)), vs = [.ref o, .ref I.s, .ref hd] ∧
  ((∃ dx, H o = some (.ins A.Pour dx [])) ∧ I.At K A H log ∧ H hd = some (.lst (ha.map V.ref)) ∧ Pls H ha P ∧ Pcs I P ∧ o ∉ I.own ∧ (P.map List.length).sum ≤ 2000 ∧ log.length + I.pre.length + 400 ≤ 100000) ∧
  StopM (o :: I.M) I K A H log (fun es => ∃ W z, Hold false (frts false P (List.replicate P.length 0)) 0 P.length (fun _ _ => none) es W z) E ∧
  ∀ (R : PR) H' es W z, R.o = o → R.P = P → (∀ a ∈ R.base, a ≠ o → H a = none) → Hold false (frts false P (List.replicate P.length 0)) 0 P.length (fun _ _ => none) es W z → Told I.or log es → Stp (o :: I.M) H H' → R.At false K A A.Pour I H' (log ++ es) (List.replicate P.length 0) W → Q .non H'
theorem ok_Pour___init__ {P : Program} {w : World} {K : PySem.W.Frag} {mg : Str → Option Value} {base : Heap} {A : Ad} {f : Addr} {fd : FuncData} (F : Fun K "__init__" "Pour.__init__" s_Pour___init__ f fd) (T : Txt K mg A) (M_Pour_hold_all : SH.CalM P w K mg base (L2N.CX P w) 15 A.Pour "hold_all" [] (sp_Pour_hold_all K A)) : FnOk P w K mg base (L2N.CX P w) 16 f fd ["self", "asker", "pieces"] (sp_Pour___init__ K A) := by
  refine SH.okN F sc_Pour___init__ (fun vs H Q E h => by obtain ⟨_, _, _, _, _, _, rfl, _⟩ := h; rfl) (fun cdv A' outer s H vs Q E hr h => ?_)
  obtain ⟨o, hd, I, log, ha, P, rfl, ⟨⟨dx, ho⟩, hA, hhd, hpl, hP, hoo, htot, hlog⟩, kx, k⟩ := h
  refine ⟨_, (pss_cons (SH.ps_fldF T.cl_Pour T.na_Pour_asker (pv 0) (pv 1) rfl)
        (pss_cons (SH.ps_fldF T.cl_Pour T.na_Pour_pieces (pv 0) (pe_lc (own := [("piece", 3)]) (g := (gName 3)) (tt := tYes) (by rfl) sc_Pour___init__.nd (pi_list (pv 2)) (blkOk_by (own := [("piece", 3)]) (N := ["self", "asker", "pieces", "piece"]) (sc := defScope s_Pour___init__) (by decide +kernel)) (fun _ _ _ _ _ => (pg_name (i := 3) sc_Pour___init__.nd rfl (Or.inl rfl))) (fun _ _ _ _ _ => pts_nil) (fun _ _ _ _ _ => (pe_callTy (SH.crK SH.rListOf K SH.cListOf) (by rfl) T.z_list (by decide +kernel) (pa_cons (pv 3) pa_nil)))) rfl)
        (pss_cons (SH.ps_fldF T.cl_Pour T.na_Pour_gone (pv 0) (pe_op SH.oMul (pe_lst (pa_cons pe_int pa_nil)) (pe_callB SH.cLen (by rfl) T.z_len (by decide +kernel) (pa_cons (SH.pe_fldF T.cl_Pour T.na_Pour_pieces (pv 0)) pa_nil))) rfl)
        (pss_cons (SH.ps_fldF T.cl_Pour T.na_Pour_went_on (pv 0) pe_dnewT rfl)
        (pss_one (ps_expr (SH.pe_methF (pv 0) M_Pour_hold_all hr (L2N.passes_call (L2N.takes_of rfl rfl rfl rfl) fun _ _ _ _ h => h) (pa_cons pe_int (pa_cons (pe_callB SH.cLen (by rfl) T.z_len (by decide +kernel) (pa_cons (SH.pe_fldF T.cl_Pour T.na_Pour_pieces (pv 0)) pa_nil)) pa_nil))))))))), ?_⟩
  walk_at "begin"
  have hMo : o ∉ I.M := fun z => hoo (Ask.Mown z)
  have hPl := hP.few
  walk_at "rd"
  have S1 : Stp [o] H (upd H o (.ins A.Pour dx [("asker", .ref I.s)])) := (Stp.refl _ _).putI (by simp) ho
  have ho1 : upd H o (.ins A.Pour dx [("asker", .ref I.s)]) o = some (.ins A.Pour dx [("asker", .ref I.s)]) := upd_same
  have noha : o ∉ ha := fun z => by
    obtain ⟨i, hi⟩ := List.mem_iff_getElem?.mp z
    obtain ⟨ps, _, h2⟩ := hpl.2 i _ hi
    rw [ho] at h2; cases h2
  have nohd : hd ≠ o := ne_of hhd ho (by intro z; cases z)
  have hhd1 := S1.keep1 hhd nohd
  have hpl1 := hpl.stp S1 (by intro m hm; rw [List.mem_singleton] at hm; subst hm; exact noha)
  have hA1 := hA.stp S1 (by intro m hm; rw [List.mem_singleton] at hm; subst hm; exact hoo)
  have fr1 : ∀ b, upd H o (.ins A.Pour dx [("asker", .ref I.s)]) b = none → H b = none := fun b e => S1.dom b e
  generalize upd H o (.ins A.Pour dx [("asker", .ref I.s)]) = H1 at S1 ho1 hhd1 hpl1 hA1 fr1 ⊢
  walk_at "rd"
  intro D hD
  refine lc_it (walk_list (xs := ha.map V.ref)) (fun j H' => Stp [] H1 H' ∧ ∃ pa : List Addr, pa.length = j ∧ (∀ (i : Nat) (a : Addr), pa[i]? = some a → H1 a = none ∧ a ≠ D ∧ ∃ ps, P[i]? = some ps ∧ H' a = some (.lst (nv ps))) ∧ H' D = some (.lst (pa.map V.ref))) ⟨(Stp.refl _ _).new hD, [], rfl, (by intro i a e; simp at e), upd_same⟩ (fun j H' _ z => z.1.sql0 (SqL.of hhd1)) ?_ ?_
  · rintro j x H3 H4 hj ⟨S, pa, hpal, hpa, hL⟩ ⟨rfl, hx⟩
    obtain ⟨a, ha1, rfl⟩ := map_at hx
    obtain ⟨ps, h1, h2⟩ := hpl1.2 j a ha1
    have h3 := S.keep0 h2
    walk_at "rd"
    intro l hl
    have hlD : l ≠ D := (ne_of_none hL hl).symm
    refine ⟨_, upd_old hL hl, Nat.lt_of_le_of_lt (m := 1000) (by rw [List.length_map] at hj ⊢; have := hpl.1; omega) (by decide), (S.new hl).putN hD, pa ++ [l], by simp [hpal], fun i b e => ?_, by rw [upd_same, List.map_append]; rfl⟩
    by_cases hi : i < pa.length
    · rw [List.getElem?_append_left hi] at e
      obtain ⟨q1, q2, ps', q3, q4⟩ := hpa i b e
      exact ⟨q1, q2, ps', q3, upd_far q2 (upd_old q4 hl)⟩
    · rw [List.getElem?_append_right (by omega)] at e
      have hz : i = pa.length := by
        have := (List.getElem?_eq_some_iff.mp e).1
        simp at this; omega
      subst hz
      simp at e
      subst e
      exact ⟨S.dom _ hl, hlD, ps, by rw [hpal]; exact h1, upd_far hlD upd_same⟩
  rintro H2 ⟨S2, pa, hpal, hpa, hD2⟩
  rw [List.length_map, hpl.1] at hpal
  have ho2 := S2.keep0 ho1
  have nDo : D ≠ o := (ne_of_none ho1 hD).symm
  walk_at "rd"
  intro l0 hl0
  have S3 : Stp [o] H2 (upd (upd H2 o (.ins A.Pour dx [("asker", .ref I.s), ("pieces", .ref D)])) l0 (.lst [.int 0])) := ((Stp.refl _ _).putI (by simp) ho2).new hl0
  have ho3 : upd (upd H2 o (.ins A.Pour dx [("asker", .ref I.s), ("pieces", .ref D)])) l0 (.lst [.int 0]) o = some (.ins A.Pour dx [("asker", .ref I.s), ("pieces", .ref D)]) := upd_old upd_same hl0
  have hl3 : upd (upd H2 o (.ins A.Pour dx [("asker", .ref I.s), ("pieces", .ref D)])) l0 (.lst [.int 0]) l0 = some (.lst [.int 0]) := upd_same
  have hD3 := S3.keep1 hD2 nDo
  generalize upd (upd H2 o (.ins A.Pour dx [("asker", .ref I.s), ("pieces", .ref D)])) l0 (.lst [.int 0]) = H3 at S3 ho3 hl3 hD3 ⊢
  walk_at "rd"
  refine v_mulL hl3 ⟨by omega, by omega⟩ (Nat.le_trans (m := 1000) (by simp; omega) (by decide)) fun gg hgg => ?_
  rw [show ((pa.length : Nat) : Int).toNat = P.length by omega, rep_zero]
  walk_at "rd"
  intro dd hdd
  have ngo : gg ≠ o := (ne_of_none ho3 hgg).symm
  have ngD : gg ≠ D := (ne_of_none hD3 hgg).symm
  have S4 : Stp [o] H3 (upd (upd (upd H3 gg (.lst (nv (List.replicate P.length 0)))) o (.ins A.Pour dx [("asker", .ref I.s), ("pieces", .ref D), ("gone", .ref gg)])) dd (.dT [])) := (((Stp.refl _ _).new hgg).putI (by simp) (upd_old ho3 hgg)).new hdd
  have ho4 : upd (upd (upd H3 gg (.lst (nv (List.replicate P.length 0)))) o (.ins A.Pour dx [("asker", .ref I.s), ("pieces", .ref D), ("gone", .ref gg)])) dd (.dT []) o = some (.ins A.Pour dx [("asker", .ref I.s), ("pieces", .ref D), ("gone", .ref gg)]) := upd_old upd_same hdd
  have hg4 : upd (upd (upd H3 gg (.lst (nv (List.replicate P.length 0)))) o (.ins A.Pour dx [("asker", .ref I.s), ("pieces", .ref D), ("gone", .ref gg)])) dd (.dT []) gg = some (.lst (nv (List.replicate P.length 0))) := upd_old (upd_far ngo upd_same) hdd
  have hd4 : upd (upd (upd H3 gg (.lst (nv (List.replicate P.length 0)))) o (.ins A.Pour dx [("asker", .ref I.s), ("pieces", .ref D), ("gone", .ref gg)])) dd (.dT []) dd = some (.dT []) := upd_same
  have hD4 := S4.keep1 hD3 nDo
  have hdd3 : H3 dd = none := (upd_free (upd_free hdd).1).1
  generalize upd (upd (upd H3 gg (.lst (nv (List.replicate P.length 0)))) o (.ins A.Pour dx [("asker", .ref I.s), ("pieces", .ref D), ("gone", .ref gg)])) dd (.dT []) = H4 at S4 ho4 hg4 hd4 hD4 ⊢
  walk_at "rd"
  have ndo : dd ≠ o := ne_of hd4 ho4 (by intro z; cases z)
  have S5 : Stp [o] H4 (upd H4 o (.ins A.Pour dx (PF I.s D gg dd))) := (Stp.refl _ _).putI (by simp) ho4
  have ho5 : upd H4 o (.ins A.Pour dx (PF I.s D gg dd)) o = some (.ins A.Pour dx (PF I.s D gg dd)) := upd_same
  show sp_Pour_hold_all K A _ (upd H4 o (.ins A.Pour dx (PF I.s D gg dd))) _ _
  generalize upd H4 o (.ins A.Pour dx (PF I.s D gg dd)) = H5 at S5 ho5 ⊢
  have S25 : Stp [o] H2 H5 := (S3.trans S4).trans S5
  have S05 : Stp [o] H H5 := (S1.trans (S2.mono (by simp))).trans S25
  have hD5 := S25.keep1 hD2 nDo
  have hg5 := S5.keep1 hg4 ngo
  have hd5 := S5.keep1 hd4 ndo
  have hpa5 : ∀ (i : Nat) (a : Addr), pa[i]? = some a → ∃ ps, P[i]? = some ps ∧ H5 a = some (.lst (nv ps)) := fun i a e => by
    obtain ⟨q1, q2, ps, q3, q4⟩ := hpa i a e
    exact ⟨ps, q3, S25.keep1 q4 (ne_of_none ho1 q1).symm⟩
  have hA5 : I.At K A H5 log := hA.stp S05 (by intro m hm; rw [List.mem_singleton] at hm; subst hm; exact hoo)
  have frD : H D = none := fr1 _ hD
  have frg : H gg = none := fr1 _ (S2.dom _ (S3.dom _ hgg))
  have frd : H dd = none := fr1 _ (S2.dom _ (S3.dom _ hdd3))
  have frp : ∀ a ∈ pa, H a = none ∧ H2 a ≠ none := fun a ha => by
    obtain ⟨i, hi⟩ := List.mem_iff_getElem?.mp ha
    obtain ⟨q1, q2, ps, q3, q4⟩ := hpa i a hi
    exact ⟨fr1 _ q1, by rw [q4]; simp⟩
  have hbase : ∀ a ∈ o :: D :: gg :: dd :: pa, a ≠ o → H a = none := fun a ha n => by
    rcases List.mem_cons.mp ha with rfl | ha
    · exact (n rfl).elim
    rcases List.mem_cons.mp ha with rfl | ha
    · exact frD
    rcases List.mem_cons.mp ha with rfl | ha
    · exact frg
    rcases List.mem_cons.mp ha with rfl | ha
    · exact frd
    · exact (frp a ha).1
  have hown : ∀ a ∈ o :: D :: gg :: dd :: pa, a ∉ I.own := fun a ha => by
    by_cases e : a = o
    · subst e; exact hoo
    · exact hA.freshO (hbase a ha e)
  have hSt : PR.St ⟨o, dx, D, gg, dd, pa, P⟩ A.Pour I H5 (List.replicate P.length 0) := ⟨ho5, hD5, hpa5, hpal, hg5, List.length_replicate, hown, ngD, fun a ha z => (frp a ha).2 (by rw [z]; exact S3.dom _ hgg)⟩
  refine ⟨⟨o, dx, D, gg, dd, pa, P⟩, I, List.replicate P.length 0, log, 0, P.length, fun _ _ => none, [], by rw [show ((pa.length : Nat) : Int) = ((P.length : Nat) : Int) by omega]; rfl, ⟨⟨by decide, by show P.length - 0 ≤ 512; omega, Nat.zero_le _, Nat.le_refl _⟩, hSt, hA5, hP, fun i => rep_get _ _, hd5, (fun a c x (e : (none : Option Fr) = some x) => by cases e), by show 0 + 2 * (P.length - 0) + 1 ≤ 5000; omega, by omega⟩, kx.imp (S05.mono (by simp)) (fun m hm => by
    rcases List.mem_cons.mp hm with rfl | hm
    · exact .inr frd
    · exact .inl (List.mem_cons_of_mem _ hm)) (fun es h => h), fun H6 es W z u kvs hH hT S6 hA6 hd6 hdw6 hkl6 hkn hz => ?_⟩
  dsimp only
  walk_at "rd"
  refine k ⟨o, dx, D, gg, dd, pa, P⟩ H6 es W z rfl rfl hbase hH hT ?_ ⟨hSt.askd hd5 S6, hA6, hP, fun i => by rw [rep_get]; exact Nat.zero_le _, ⟨kvs, hd6, hdw6, hkn, ?_⟩, ⟨z, hH.tre fun e he => List.mem_append_right _ he⟩⟩
  · refine (S05.mono (M' := o :: I.M) (by simp)).then S6 fun m hm => ?_
    rcases List.mem_cons.mp hm with rfl | hm
    · exact .inr frd
    · exact .inl (List.mem_cons_of_mem _ hm)
  · unfold PR.left
    rw [rep_sum]
    show kvs.length + 400 * ((P.map List.length).sum - 0) ≤ 900000
    have h2 : kvs.length ≤ 0 + 2 * (P.length - 0) + 1 - (if 0 < P.length then 2 else 0) := hkl6
    omega
def sp_Pour_first (K : PySem.W.Frag) (A : Ad) : Sp := fun vs H Q _ => ∃ (R : PR) (I : Ask) (log : List Ent) (g : List Nat) (W : Wt) (z : Fr), vs = [.ref R.o] ∧ (R.At false K A A.Pour I H log g W ∧ W 0 R.P.length = some z) ∧
  ∀ H', Stp [] H H' → Q (frI z) H'
theorem ok_Pour_first {P : Program} {w : World} {K : PySem.W.Frag} {mg : Str → Option Value} {base : Heap} {A : Ad} {f : Addr} {fd : FuncData} (F : Fun K "first" "Pour.first" s_Pour_first f fd) (T : Txt K mg A)  : FnOk P w K mg base CX0 1 f fd ["self"] (sp_Pour_first K A) := by
  refine F.ok sc_Pour_first (fun vs H Q E h => by obtain ⟨_, _, _, _, _, _, rfl, _⟩ := h; rfl) (fun cdv A' outer s H vs Q E hr h => ?_)
  obtain ⟨R, I, log, g, W, z, rfl, ⟨hR, hz⟩, k⟩ := h
  refine ⟨_, (pss_cons (ps_set (i := 1) sc_Pour_first.nd rfl (Or.inl rfl) (pe_dget (hu_of hr) (SH.pe_fldF T.cl_Pour T.na_Pour_went_on (pv 0)) (pe_tup (pa_cons pe_int (pa_cons (pe_callB SH.cLen (by rfl) T.z_len (by decide +kernel) (pa_cons (SH.pe_fldF T.cl_Pour T.na_Pour_pieces (pv 0)) pa_nil)) pa_nil))) (fun _ _ => rfl)))
        (pss_cons (ps_if (pt_cmpR SH.oIsN (pv 1) pe_non (nomark _)) (pss_one (ps_ret pe_non)) pss_nil)
        (pss_one (ps_ret (pe_ix SH.ixA (pv 1) pe_int (fun _ _ => rfl)))))), ?_⟩
  walk_at "begin"
  have ho := hR.st.ho
  unfold PF at ho
  have hp := hR.st.hp
  have hpl : R.pa.length = R.P.length := hR.st.hl
  obtain ⟨kvs, hd, hdw, _⟩ := hR.dw
  obtain ⟨v, hv1, hv2⟩ := hdw _ _ _ hz
  walk_at "rd"
  intro q hq
  rw [hpl]
  refine v_dgetI (ks := pk 0 R.P.length) (upd_old hd hq) upd_same hv1 ?_
  have S := (Stp.refl [] H).new (o := .tup [.int (0 : Int), .int (R.P.length : Nat)]) hq
  walk_at "rd"
  cases z with
  | none =>
    cases hv2
    refine r_wT rfl ?_
    walk_at "rd"
    exact k _ S
  | some x =>
    obtain ⟨t, rfl, ht⟩ := hv2
    refine r_wF (by intro z; cases z) ?_
    walk_at "rd"
    refine v_ixTn (n := 0) (SqT.of (upd_old ht hq)) rfl rfl ?_
    exact k _ S
def sp_Pour_left (K : PySem.W.Frag) (A : Ad) : Sp := fun vs H Q _ => ∃ (R : PR) (I : Ask) (log : List Ent) (g : List Nat) (W : Wt), vs = [.ref R.o] ∧ R.At false K A A.Pour I H log g W ∧
  ∀ H', Stp [] H H' → Q (.int (R.left g : Nat)) H'
theorem ok_Pour_left {P : Program} {w : World} {K : PySem.W.Frag} {mg : Str → Option Value} {base : Heap} {A : Ad} {f : Addr} {fd : FuncData} (F : Fun K "left" "Pour.left" s_Pour_left f fd) (T : Txt K mg A)  : FnOk P w K mg base CX0 1 f fd ["self"] (sp_Pour_left K A) := by
  refine F.ok sc_Pour_left (fun vs H Q E h => by obtain ⟨_, _, _, _, _, rfl, _⟩ := h; rfl) (fun cdv A' outer s H vs Q E hr h => ?_)
  obtain ⟨R, I, log, g, W, rfl, hR, k⟩ := h
  refine ⟨_, (pss_one (ps_ret (pe_op SH.oSub (pe_callB (cr_sum rfl) (by rfl) T.z_sum (by decide +kernel) (pa_cons (pe_lc (own := [("piece", 1)]) (g := (gName 1)) (tt := tYes) (by rfl) sc_Pour_left.nd (pi_list (SH.pe_fldF T.cl_Pour T.na_Pour_pieces (pv 0))) (blkOk_by (own := [("piece", 1)]) (N := ["self", "piece"]) (sc := defScope s_Pour_left) (by decide +kernel)) (fun _ _ _ _ _ => (pg_name (i := 1) sc_Pour_left.nd rfl (Or.inl rfl))) (fun _ _ _ _ _ => pts_nil) (fun _ _ _ _ _ => (pe_callB (SH.crK SH.aLen K SH.cLen) (by rfl) T.z_len (by decide +kernel) (pa_cons (pv 1) pa_nil)))) pa_nil)) (pe_callB (cr_sum rfl) (by rfl) T.z_sum (by decide +kernel) (pa_cons (SH.pe_fldF T.cl_Pour T.na_Pour_gone (pv 0)) pa_nil))))), ?_⟩
  walk_at "begin"
  have ho := hR.st.ho
  unfold PF at ho
  have hp := hR.st.hp
  have hpl : R.pa.length = R.P.length := hR.st.hl
  have hfew := hR.pcs.few
  walk_at "rd"
  intro D hD
  refine lc_it (walk_list (xs := R.pa.map V.ref)) (fun j H' => Stp [] H H' ∧ ∃ ms : List Int, ms = (R.P.take j).map (fun ps => ((ps.length : Nat) : Int)) ∧ H' D = some (.lst (ms.map V.int))) ⟨(Stp.refl _ _).new hD, [], rfl, upd_same⟩ (fun j H' _ z => z.1.sql0 (SqL.of hp)) ?_ ?_
  · rintro j x H3 H4 hj ⟨S, ms, hms, hL⟩ ⟨rfl, hx⟩
    obtain ⟨a, ha1, rfl⟩ := map_at hx
    obtain ⟨ps, h1, h2⟩ := hR.st.ha j a ha1
    have h3 := S.keep0 h2
    rw [List.length_map] at hj
    walk_at "rd"
    refine ⟨_, hL, Nat.lt_of_le_of_lt (m := 1000) (by rw [List.length_map, hms, List.length_map, List.length_take]; omega) (by decide), S.putN hD, ms ++ [((ps.length : Nat) : Int)], ?_, by rw [upd_same, List.map_append]; rfl⟩
    rw [List.take_succ, h1, hms]
    simp
  rintro H2 ⟨S2, ms, hms, hD2⟩
  rw [List.length_map, hpl, List.take_length] at hms
  have ho2 := S2.keep0 ho
  have hg2 := S2.keep0 hR.st.hg
  walk_at "rd"
  refine v_sum (SqL.of hD2) ?_
  walk_at "rd"
  refine v_sum (ns := g.map fun n : Nat => (n : Int)) (by rw [List.map_map]; exact SqL.of hg2) ?_
  walk_at "rd"
  have e1 : ms.sum = (((R.P.map List.length).sum : Nat) : Int) := by
    rw [hms]
    induction R.P with
    | nil => rfl
    | cons ps P ih => simp only [List.map_cons, List.sum_cons, ih]; omega
  have e2 := sum_int g
  have e3 := sum_le hR.st.gl hR.gle
  rw [e1, e2, show (((R.P.map List.length).sum : Nat) : Int) - ((g.sum : Nat) : Int) = ((R.left g : Nat) : Int) by unfold PR.left; omega]
  exact k _ S2
def sp_Pour_way_down (K : PySem.W.Frag) (A : Ad) : Sp := fun vs H Q _ => ∃ (R : PR) (I : Ask) (g : List Nat) (n : Nat), vs = [.ref R.o, .int n] ∧ (R.St A.Pour I H g ∧ n < R.P.length ∧ R.P.length ≤ 300) ∧
  ∀ H' q ts l a c, H q = none → Way n 0 R.P.length l a c → c ≤ a + 1 → Stp [] H H' → H' q = some (.lst ts) → Prs H' ts l → Q (.ref q) H'
theorem ok_Pour_way_down {P : Program} {w : World} {K : PySem.W.Frag} {mg : Str → Option Value} {base : Heap} {A : Ad} {f : Addr} {fd : FuncData} (F : Fun K "way_down" "Pour.way_down" s_Pour_way_down f fd) (T : Txt K mg A) (C_cut_between : SH.Cal P w K mg base CX0 1 "cut_between" [] (sp_cut_between K A)) : FnOk P w K mg base CX0 2 f fd ["self", "number"] (sp_Pour_way_down K A) := by
  refine F.ok sc_Pour_way_down (fun vs H Q E h => by obtain ⟨_, _, _, _, rfl, _⟩ := h; rfl) (fun cdv A' outer s H vs Q E hr h => ?_)
  obtain ⟨R, I, g, n, rfl, ⟨hSt, hn, hfew⟩, k⟩ := h
  refine ⟨_, (pss_cons (ps_set (i := 2) sc_Pour_way_down.nd rfl (Or.inl rfl) (pe_lst pa_nil))
        (pss_cons (ps_set (i := 3) sc_Pour_way_down.nd rfl (Or.inl rfl) pe_int)
        (pss_cons (ps_set (i := 4) sc_Pour_way_down.nd rfl (Or.inl rfl) (pe_callB SH.cLen (by rfl) T.z_len (by decide +kernel) (pa_cons (SH.pe_fldF T.cl_Pour T.na_Pour_pieces (pv 0)) pa_nil)))
        (pss_cons (ps_while PassesOwn.never (pt_cmpR SH.oGt (pe_op SH.oSub (pv 4) (pv 3)) pe_int (nomark _)) (pss_cons (ps_expr (pe_bm PySem.F.plainAttrs_list PySem.F.slot_list_append PySem.F.type_list_append mt_append (pv 2) (pa_cons (pe_tup (pa_cons (pv 3) (pa_cons (pv 4) pa_nil))) pa_nil)))
        (pss_cons (ps_set (i := 5) sc_Pour_way_down.nd rfl (Or.inl rfl) (SH.pe_callF C_cut_between hr (by rfl) pass0 (pa_cons (pv 3) (pa_cons (pv 4) pa_nil))))
        (pss_one (ps_if (pt_cmpR (SH.oLt hr.units0) (pv 1) (pv 5) (nomark _)) (pss_one (ps_set (i := 4) sc_Pour_way_down.nd rfl (Or.inl rfl) (pv 5))) (pss_one (ps_set (i := 3) sc_Pour_way_down.nd rfl (Or.inl rfl) (pv 5))))))))
        (pss_one (ps_ret (pv 2))))))), ?_⟩
  walk_at "begin"
  have ho := hSt.ho
  unfold PF at ho
  have hp := hSt.hp
  have hpl : R.pa.length = R.P.length := hSt.hl
  walk_at "rd"
  intro q hq
  have hp1 := upd_old (u := .lst []) hp hq
  walk_at "rd"
  rw [hpl]
  refine r_while (fun m σ H' => ∃ (ts : List V) (l : List (Nat × Nat)) (a c : Nat) (v5 : Option V), m = c - a ∧ Way n 0 R.P.length l a c ∧ Stp [] H H' ∧ H' q = some (.lst ts) ∧ Prs H' ts l ∧ σ = [some (.ref R.o), some (.int n), some (.ref q), some (.int a), some (.int c), v5])
    ⟨_, [], [], 0, R.P.length, _, rfl, .nil, (Stp.refl _ _).new hq, upd_same, ⟨rfl, by intro i x e; simp at e⟩, rfl⟩ ?_
  rintro m σ H1 ⟨ts, l, a, c, v5, rfl, hW, S1, hq1, hts, rfl⟩
  have hin := hW.in (Nat.zero_le _) hn
  walk_at "rd"
  refine r_w (fun hc => ?_) fun hc => ?_
  · refine r_next_turn ?_
    have hlt : a + 1 < c := by omega
    have hcut := cutB_lt hlt
    walk_at "rd"
    intro t ht
    have htq : t ≠ q := (ne_of_none hq1 ht).symm
    walk_at "rd"
    refine v_app (upd_old hq1 ht) (by rw [hts.1]; omega) ?_
    walk_at "rd"
    refine ⟨a, c, rfl, ?_⟩
    walk_at "rd"
    have S2 : Stp [q] H1 (upd (upd H1 t (.tup [.int a, .int c])) q (.lst (ts ++ [.ref t]))) := ((Stp.refl _ _).new ht).putL (by simp) (upd_old hq1 ht)
    have S3 : Stp [] H (upd (upd H1 t (.tup [.int a, .int c])) q (.lst (ts ++ [.ref t]))) := (S1.new ht).putN hq
    have hts2 : Prs (upd (upd H1 t (.tup [.int a, .int c])) q (.lst (ts ++ [.ref t]))) (ts ++ [.ref t]) (l ++ [(a, c)]) := (hts.stp S2).app (x := (a, c)) (upd_far htq upd_same)
    refine r_w (fun hc2 => ?_) fun hc2 => ?_
    · walk_at "rd"
      exact ⟨_, by omega, ts ++ [.ref t], l ++ [(a, c)], a, cutB a c, _, rfl, .left hW hlt (by omega), S3, upd_same, hts2, rfl⟩
    · walk_at "rd"
      exact ⟨_, by omega, ts ++ [.ref t], l ++ [(a, c)], cutB a c, c, _, rfl, .right hW hlt (by omega), S3, upd_same, hts2, rfl⟩
  · walk_at "rd"
    exact k H1 q ts l a c hq hW (by omega) S1 hq1 hts
def sp_Pour_take (K : PySem.W.Frag) (A : Ad) : Sp := fun vs H Q E => ∃ (R : PR) (I : Ask) (log : List Ent) (g : List Nat) (W : Wt) (top : Fr), vs = [.ref R.o] ∧ (R.At false K A A.Pour I H log g W ∧ W 0 R.P.length = some top ∧ log.length + I.pre.length + 400 ≤ 100000) ∧
  (∀ x : Nat × Nat, top = some x → Stop I K A H log (fun es => ∃ W' z, TakeR false W x.2 (frt false (R.P.getD x.2 []) (g.getD x.2 0 + 1) x.2) 0 R.P.length es W' z) E) ∧
  (top = none → ∀ H', Stp [] H H' → Q .non H') ∧
  ∀ x : Nat × Nat, top = some x → x.2 < R.P.length → g.getD x.2 0 < (R.P.getD x.2 []).length → ∀ H' es W' z, TakeR false W x.2 (frt false (R.P.getD x.2 []) (g.getD x.2 0 + 1) x.2) 0 R.P.length es W' z → Told I.or log es → Stp (R.M I) H H' → R.At false K A A.Pour I H' (log ++ es) (g.set x.2 (g.getD x.2 0 + 1)) W' → Q (.int (x.1 : Nat)) H'
theorem ok_Pour_take {P : Program} {w : World} {K : PySem.W.Frag} {mg : Str → Option Value} {base : Heap} {A : Ad} {f : Addr} {fd : FuncData} (F : Fun K "take" "Pour.take" s_Pour_take f fd) (T : Txt K mg A) (M_Pour_front : SH.CalM P w K mg base CX0 1 A.Pour "front" [] (sp_Pour_front K A)) (M_Pour_meeting : SH.CalM P w K mg base (L2N.CX P w) 5 A.Pour "meeting" [] (sp_Pour_meeting K A)) (M_Pour_way_down : SH.CalM P w K mg base CX0 2 A.Pour "way_down" [] (sp_Pour_way_down K A)) (C_cut_between : SH.Cal P w K mg base CX0 1 "cut_between" [] (sp_cut_between K A)) : FnOk P w K mg base (L2N.CX P w) 6 f fd ["self"] (sp_Pour_take K A) := by
  refine SH.okN F sc_Pour_take (fun vs H Q E h => by obtain ⟨_, _, _, _, _, _, rfl, _⟩ := h; rfl) (fun cdv A' outer s H vs Q E hr h => ?_)
  obtain ⟨R, I, log, g, W, top, rfl, ⟨hR, hz, hlog⟩, kx, k0, k⟩ := h
  refine ⟨_, (pss_cons (ps_set (i := 1) sc_Pour_take.nd rfl (Or.inl rfl) (pe_dget (hu_of hr) (SH.pe_fldF T.cl_Pour T.na_Pour_went_on (pv 0)) (pe_tup (pa_cons pe_int (pa_cons (pe_callB SH.cLen (by rfl) T.z_len (by decide +kernel) (pa_cons (SH.pe_fldF T.cl_Pour T.na_Pour_pieces (pv 0)) pa_nil)) pa_nil))) (fun _ _ => rfl)))
        (pss_cons (ps_if (pt_cmpR SH.oIsN (pv 1) pe_non (nomark _)) (pss_one (ps_ret pe_non)) pss_nil)
        (pss_cons (ps_set (i := 2) sc_Pour_take.nd rfl (Or.inl rfl) (pe_ix SH.ixA (pv 1) pe_int (fun _ _ => rfl)))
        (pss_cons (ps_set (i := 3) sc_Pour_take.nd rfl (Or.inl rfl) (SH.pe_methF (pv 0) M_Pour_front hr pass0 (pa_cons (pv 2) (pa_cons (pe_op SH.oAdd (pe_ix SH.ixA (SH.pe_fldF T.cl_Pour T.na_Pour_gone (pv 0)) (pv 2) (fun _ _ => rfl)) pe_int) pa_nil))))
        (pss_cons (ps_set (i := 4) sc_Pour_take.nd rfl (Or.inl rfl) pe_dnewT)
        (pss_cons (ps_dput (hu_of hr) (pv 4) (pe_tup (pa_cons (pv 2) (pa_cons (pe_op SH.oAdd (pv 2) pe_int) pa_nil))) (pv 3) rfl)
        (pss_cons (ps_for (L2.passes_of rfl) rfl (pi_reversed (by rfl) T.z_reversed (pa_cons (SH.pe_methF (pv 0) M_Pour_way_down hr pass0 (pa_cons (pv 2) pa_nil)) pa_nil)) (pg_tup (by rfl) (pgs_cons (pg_name (i := 5) sc_Pour_take.nd rfl (Or.inl rfl)) (pgs_cons (pg_name (i := 6) sc_Pour_take.nd rfl (Or.inl rfl)) pgs_nil))) (pss_cons (ps_set (i := 7) sc_Pour_take.nd rfl (Or.inl rfl) (SH.pe_callF C_cut_between hr (by rfl) pass0 (pa_cons (pv 5) (pa_cons (pv 6) pa_nil))))
        (pss_cons (ps_if (pt_cmpR (SH.oLt hr.units0) (pv 2) (pv 7) (nomark _)) (pss_one (ps_set (i := 3) sc_Pour_take.nd rfl (Or.inl rfl) (SH.pe_methF (pv 0) M_Pour_meeting hr (L2N.passes_call (L2N.takes_of rfl rfl rfl rfl) fun _ _ _ _ h => h) (pa_cons (pv 3) (pa_cons (pe_dget (hu_of hr) (SH.pe_fldF T.cl_Pour T.na_Pour_went_on (pv 0)) (pe_tup (pa_cons (pv 7) (pa_cons (pv 6) pa_nil))) (fun _ _ => rfl)) pa_nil))))) (pss_one (ps_set (i := 3) sc_Pour_take.nd rfl (Or.inl rfl) (SH.pe_methF (pv 0) M_Pour_meeting hr (L2N.passes_call (L2N.takes_of rfl rfl rfl rfl) fun _ _ _ _ h => h) (pa_cons (pe_dget (hu_of hr) (SH.pe_fldF T.cl_Pour T.na_Pour_went_on (pv 0)) (pe_tup (pa_cons (pv 5) (pa_cons (pv 7) pa_nil))) (fun _ _ => rfl)) (pa_cons (pv 3) pa_nil))))))
        (pss_one (ps_dput (hu_of hr) (pv 4) (pe_tup (pa_cons (pv 5) (pa_cons (pv 6) pa_nil))) (pv 3) rfl)))))
        (pss_cons (ps_expr (pe_bm PySem.F.plainAttrs_dict PySem.F.slot_dict_update PySem.F.type_dict_update (SH.mt_updT (hu_of hr)) (SH.pe_fldF T.cl_Pour T.na_Pour_went_on (pv 0)) (pa_cons (pv 4) pa_nil)))
        (pss_cons (ps_augS (SH.pe_fldF T.cl_Pour T.na_Pour_gone (pv 0)) (pv 2) SH.getL pe_int SH.ip_add' set_list)
        (pss_one (ps_ret (pe_ix SH.ixA (pv 1) pe_int (fun _ _ => rfl))))))))))))), ?_⟩
  walk_at "begin"
  have ho := hR.st.ho
  unfold PF at ho
  have hp := hR.st.hp
  have hpl : R.pa.length = R.P.length := hR.st.hl
  obtain ⟨kvs, hd, hdw, hkn, hkl⟩ := hR.dw
  obtain ⟨v, hv1, hv2⟩ := hdw _ _ _ hz
  walk_at "rd"
  intro q hq
  rw [hpl]
  refine v_dgetI (ks := pk 0 R.P.length) (upd_old hd hq) upd_same hv1 ?_
  have S := (Stp.refl [] H).new (o := .tup [.int (0 : Int), .int (R.P.length : Nat)]) hq
  have hR1 := hR.dT S
  have hd1 := S.keep0 hd
  have hdw1 := hdw.stp S
  have hv2' := hv2.stp S
  generalize upd H q (.tup [.int (0 : Int), .int (R.P.length : Nat)]) = H1 at S hR1 hd1 hdw1 hv2' ⊢
  have ho1 := hR1.st.ho
  unfold PF at ho1
  walk_at "rd"
  cases top with
  | none =>
    cases hv2'
    refine r_wT rfl ?_
    walk_at "rd"
    exact k0 rfl _ S
  | some x =>
  obtain ⟨t, rfl, ht⟩ := hv2'
  refine r_wF (by intro z; cases z) ?_
  clear hv2 hv1 hp ho hd hdw hq k0
  obtain ⟨z0, htre⟩ := hR.tre
  obtain rfl : z0 = some x := by have := htre.at; rw [hz] at this; exact (Option.some.inj this).symm
  obtain ⟨i, _, hi, hfi⟩ := htre.from.resolve_left (by simp)
  have kx := kx x rfl
  obtain ⟨x1, n⟩ := x
  obtain ⟨rfl, ps, hps, hpm, hgl⟩ := frts_mem hfi.symm
  have hpd : R.P.getD n [] = ps := by rw [List.getD_eq_getElem?_getD, hps]; rfl
  have hgn : n < g.length := by rw [hR.st.gl]; exact hi
  walk_at "rd"
  refine v_ixTn (n := 1) (SqT.of ht) rfl rfl ?_
  walk_at "rd"
  have hg1 := hR1.st.hg
  refine v_ixLn (n := n) (v := .int (g.getD n 0 : Nat)) (SqL.of hg1) rfl (by unfold nv; rw [List.getElem?_map, List.getElem?_eq_getElem hgn, List.getD_eq_getElem?_getD, List.getElem?_eq_getElem hgn]; rfl) ?_
  walk_at "rd"
  rw [show ((g.getD n 0 : Nat) : Int) + 1 = ((g.getD n 0 + 1 : Nat) : Int) by omega]
  refine ⟨R, I, g, n, g.getD n 0 + 1, rfl, ⟨hR1.st, hi⟩, fun fv H2 S2 hfv => ?_⟩
  rw [hpd] at hfv
  dsimp only at kx
  rw [hpd] at kx
  generalize hnx : frt false ps (g.getD n 0 + 1) n = nx at hfv kx
  walk_at "rd"
  intro D hD
  walk_at "rd"
  intro kt hkt
  have hDk : kt ≠ D := by rintro rfl; rw [upd_same] at hkt; cases hkt
  refine v_dputT (ks := pk n (n + 1)) (upd_old upd_same hkt) upd_same (by decide) ?_
  have S3 : Stp [] H2 (upd (upd (upd H2 D (.dT [])) kt (.tup [.int n, .int ((n : Nat) + 1)])) D (.dT (putK [] (pk n (n + 1)) fv))) := (((Stp.refl _ _).new hD).new hkt).putN hD
  have hD3 : upd (upd (upd H2 D (.dT [])) kt (.tup [.int n, .int ((n : Nat) + 1)])) D (.dT (putK [] (pk n (n + 1)) fv)) D = some (.dT (putK [] (pk n (n + 1)) fv)) := upd_same
  have hfv3 := hfv.stp S3
  generalize upd (upd (upd H2 D (.dT [])) kt (.tup [.int n, .int ((n : Nat) + 1)])) D (.dT (putK [] (pk n (n + 1)) fv)) = H3 at S3 hD3 hfv3 ⊢
  have S23 := S2.trans S3
  have hR3 := hR1.dT S23
  have hd3 := S23.keep0 hd1
  have hDw3 := hdw1.stp S23
  have hD1 : H1 D = none := S2.dom _ hD
  have hDdd : D ≠ R.dd := by rintro rfl; rw [hd1] at hD1; cases hD1
  have hDo := hR1.ask.freshO hD1
  have hDM := hR1.ask.fresh hD1
  have hDb : D ∉ R.base := fun z => by
    have h1 := hR1.st
    simp only [PR.base, List.mem_cons] at z
    rcases z with z | z | z | z | z
    · rw [z, h1.ho] at hD1; cases hD1
    · rw [z, h1.hp] at hD1; cases hD1
    · rw [z, h1.hg] at hD1; cases hD1
    · rw [z, hd1] at hD1; cases hD1
    · obtain ⟨i, hi⟩ := List.mem_iff_getElem?.mp z
      obtain ⟨ps, _, h2⟩ := h1.ha i _ hi
      rw [h2] at hD1; cases hD1
  clear hkt hDk hfv hD
  have ho3 := hR3.st.ho
  unfold PF at ho3
  walk_at "rd"
  refine ⟨R, I, g, n, rfl, ⟨hR3.st, hi, hR.pcs.few⟩, fun H4 wq ts l a c hwq hW hac S4 hwq4 hts => ?_⟩
  have hin := hW.in (Nat.zero_le _) hi
  have hll : l.length ≤ 300 := by have := hR.pcs.few; omega
  have hR4 := hR3.dT S4
  have hd4 := S4.keep0 hd3
  have hDw4 := hDw3.stp S4
  have hD4 := S4.keep0 hD3
  have hfv4 := hfv3.stp S4
  have hwD : wq ≠ D := (ne_of_none hD3 hwq).symm
  have nwo : wq ∉ R.base ∧ wq ∉ I.own := by
    refine ⟨fun z => ?_, hR3.ask.freshO hwq⟩
    have h1 := hR3.st
    simp only [PR.base, List.mem_cons] at z
    rcases z with z | z | z | z | z
    · rw [z, h1.ho] at hwq; cases hwq
    · rw [z, h1.hp] at hwq; cases hwq
    · rw [z, h1.hg] at hwq; cases hwq
    · rw [z, hd3] at hwq; cases hwq
    · obtain ⟨i, hi⟩ := List.mem_iff_getElem?.mp z
      obtain ⟨ps, _, h2⟩ := h1.ha i _ hi
      rw [h2] at hwq; cases hwq
  have S14 : Stp [] H1 H4 := (S2.trans S3).trans S4
  clear S4 hwq hR3 hd3 hDw3 hD3 hfv3
  have ec : c = a + 1 := by omega
  have ea : n = a := by omega
  subst ec
  subst ea
  walk_at "rd"
  refine for_it (walk_rev (xs := ts)) (fun j σ H' => ∃ (a c : Nat) (l1 : List (Nat × Nat)) (es : List Ent) (W1 : Wt) (z : Fr) (u : V) (more : List (List Key × V)) (v5 v6 v7 : Option V), l1 = l.take (l.length - j) ∧ Way n 0 R.P.length l1 a c ∧ TakeR false W n nx a c es W1 z ∧ Told I.or log es ∧ es.length ≤ j ∧ more.length ≤ j + 1 ∧ Stp (D :: I.M) H4 H' ∧ R.At false K A A.Pour I H' (log ++ es) g W ∧ H' R.dd = some (.dT kvs) ∧ H' D = some (.dT more) ∧ Anew H' W W1 more ∧ (∀ p ∈ more, ∃ a' c', p.1 = pk a' c' ∧ a ≤ a' ∧ c' ≤ c) ∧ H' wq = some (.lst ts) ∧ frV H' u z ∧
      σ = [some (.ref R.o), some (.ref t), some (.int n), some u, some (.ref D), v5, v6, v7])
    ⟨n, n + 1, l, [], putW W n (n + 1) nx, nx, fv, _, _, _, _, by simp, hW, .one, True.intro, Nat.le_refl _, by simpa using length_putK [] (pk n (n + 1)) fv, .refl _ _, by rw [List.append_nil]; exact hR4, hd4, hD4, Anew.nil.put hfv4 (.inr True.intro) (by simp), fun p hp => ?_, hwq4, hfv4, rfl⟩ (fun _ _ _ _ ⟨_, _, _, _, _, _, _, _, _, _, _, _, _, _, _, _, _, _, _, _, _, _, _, h, _⟩ => SqL.of h) ?_ ?_
  · rcases mem_putK hp with rfl | hp
    · exact ⟨_, _, rfl, Nat.le_refl _, Nat.le_refl _⟩
    · cases hp
  · rintro j y σ H5 H6 hj ⟨a, c, l1, es, W1, z, u, more, v5, v6, v7, rfl, hW1, hTk, hT, hel, hml, S5, hR5, hd5, hD5, hAn, hAk, hw5, hu, rfl⟩ ⟨rfl, hy⟩
    have hjl : j < l.length := by rw [← hts.1]; exact hj
    obtain ⟨y', hy'⟩ : ∃ y', l[l.length - 1 - j]? = some y' := ⟨_, List.getElem?_eq_getElem (by omega)⟩
    obtain ⟨yt, hyt1, hyt2⟩ := hts.2 _ _ hy'
    rw [hts.1, hyt1] at hy
    cases hy
    have hyt5 := S5.tup hyt2
    have etk : l.take (l.length - j) = l.take (l.length - (j + 1)) ++ [y'] := by
      have : l.length - j = (l.length - 1 - j) + 1 := by omega
      rw [this, List.take_succ, hy', show l.length - (j + 1) = l.length - 1 - j by omega]
      rfl
    rw [etk] at hW1
    obtain ⟨hW2, hlt, hcase⟩ := hW1.last
    obtain ⟨a2, c2⟩ := y'
    dsimp only at hW2 hlt hcase hyt5
    have hcut := cutB_lt hlt
    have hin2 := hW2.in (Nat.zero_le _) hi
    obtain ⟨zz, htre2⟩ := htre.sub hW2
    obtain ⟨kx', ky, hk1, hk2⟩ := htre2.kids hlt
    have ho5 := hR5.st.ho
    unfold PF at ho5
    have hDw5 := hDw4.stp S5
    have S05 : Stp I.M H H6 := ((S.trans S14).mono (M' := I.M) (by simp)).then S5 fun m hm => by
      rcases List.mem_cons.mp hm with rfl | hm
      · exact .inr (S.dom _ hD1)
      · exact .inl hm
    have hTk' := hTk
    have hin3 := hW1.in (Nat.zero_le _) hi
    have hts1 : Tre false (frts false R.P (g.set n (g.getD n 0 + 1))) W1 (log ++ es) a c z := by
      obtain ⟨z3, t3⟩ := htre.sub hW1
      rw [frts_set hgn, hpd, hnx]
      exact hTk.tre0 t3
    walk_at "rd"
    refine ⟨a2, c2, rfl, ?_⟩
    walk_at "rd"
    refine r_wJ (W := fun σ' H' => ∃ (e2 : List Ent) (z2 : Fr) (u2 : V), TakeR false W n nx a2 c2 (es ++ e2) (putW W1 a2 c2 z2) z2 ∧ Told I.or (log ++ es) e2 ∧ e2.length ≤ 1 ∧ Stp I.M H6 H' ∧ I.At K A H' (log ++ es ++ e2) ∧ frV H' u2 z2 ∧
      σ' = [some (.ref R.o), some (.ref t), some (.int n), some u2, some (.ref D), some (.int a2), some (.int c2), some (.int (cutB a2 c2 : Nat))]) ?_ (fun hc N hN => ?_) (fun hc N hN => ?_)
    · rintro σ' H7 ⟨e2, z2, u2, hTk2, hT2, he2, S7, hA7, hu2, rfl⟩
      dsimp only
      have hD7 := S7.keep hD5 hDM
      have hd7 := S7.keep hd5 hR5.st.dM
      have hR7 := hR5.more S7 hA7 fun e he => by simp only [List.mem_append] at he ⊢; exact .inl he
      walk_at "rd"
      intro kt hkt
      refine v_dputT (ks := pk a2 c2) (upd_old hD7 hkt) upd_same (by omega) ?_
      walk_at "rd"
      have S8 : Stp [D] H7 (upd (upd H7 kt (.tup [.int a2, .int c2])) D (.dT (putK more (pk a2 c2) u2))) := ((Stp.refl _ _).new hkt).putM (by simp) (upd_old hD7 hkt) (fun z => z)
      have hl := length_putK more (pk a2 c2) u2
      refine ⟨a2, c2, l.take (l.length - (j + 1)), es ++ e2, putW W1 a2 c2 z2, z2, u2, putK more (pk a2 c2) u2, _, _, _, rfl, hW2, hTk2, Told.app hT hT2, by rw [List.length_append]; omega, by omega, (S5.trans (S7.mono fun b hb => List.mem_cons_of_mem _ hb)).trans (S8.mono (by simp)), ?_, ?_, upd_same, ((hAn.stp S7).stp S8).put (hu2.stp S8) (.inr True.intro) ?_, ?_, ?_, hu2.stp S8, rfl⟩
      · rw [List.append_assoc] at hR7
        exact hR7.stp S8 (by intro m hm; rw [List.mem_singleton] at hm; subst hm; exact ⟨hDb, hDo⟩)
      · exact S8.keep1 hd7 hDdd.symm
      · intro p hp z
        obtain ⟨a', c', q1, q2, q3⟩ := hAk p hp
        rw [q1] at z
        obtain ⟨rfl, rfl⟩ := pk_inj.mp z
        omega
      · intro p hp
        rcases mem_putK hp with rfl | hp
        · exact ⟨_, _, rfl, Nat.le_refl _, Nat.le_refl _⟩
        · obtain ⟨a', c', q1, q2, q3⟩ := hAk p hp
          exact ⟨a', c', q1, by omega, by omega⟩
      · exact S8.keep1 (S7.keep hw5 fun z => nwo.2 (Ask.Mown z)) hwD
    · obtain ⟨hn2, ea, ec⟩ := hcase.resolve_right (fun z => by omega)
      subst ea
      subst ec
      obtain ⟨w, hw1, hw2⟩ := hDw5 _ _ _ hk2.at
      walk_at "rd"
      intro kt hkt
      refine v_dgetI (ks := pk (cutB a c2) c2) (upd_old hd5 hkt) upd_same hw1 ?_
      have S6 := (Stp.refl [] H6).new (o := .tup [.int (cutB a c2 : Nat), .int (c2 : Nat)]) hkt
      refine ⟨R, I, g, log ++ es, u, w, z, ky, rfl, ⟨(hR5.dT S6).st, (hR5.dT S6).ask, hu.stp S6, hw2.stp S6, fun x y ex ey => ?_, by simp only [List.length_append]; omega⟩, StopM.toS (kx.toM.sub (S05.trans (S6.mono (by simp))) (fun m hm => .inl hm) hT (fun es2 ⟨z2, hm⟩ hT2 => by
        obtain ⟨es', W', z', hk', hT'⟩ := TakeR.up I.or htre hW2 (lg := log ++ es ++ es2) (.left hlt hn2 hTk hk2.at hm)
        exact ⟨es', hT', W', z', hk'⟩)), fun H7 e2 z2 u2 hm hT2 S7 hA7 hz2 => ?_⟩
      · subst ex ey
        exact hts1.two hR.pcs hk2 (Nat.le_refl _)
      · walk_at "rd"
        exact hN _ _ ⟨e2, z2, u2, .left hlt hn2 hTk hk2.at hm, hT2, hm.few.1, (S6.mono (by simp)).trans S7, hA7, hz2, rfl⟩
    · obtain ⟨hn2, ea, ec⟩ := hcase.resolve_left (fun z => by omega)
      subst ea
      subst ec
      obtain ⟨w, hw1, hw2⟩ := hDw5 _ _ _ hk1.at
      walk_at "rd"
      intro kt hkt
      refine v_dgetI (ks := pk a2 (cutB a2 c)) (upd_old hd5 hkt) upd_same hw1 ?_
      have S6 := (Stp.refl [] H6).new (o := .tup [.int (a2 : Nat), .int (cutB a2 c : Nat)]) hkt
      walk_at "rd"
      refine ⟨R, I, g, log ++ es, w, u, kx', z, rfl, ⟨(hR5.dT S6).st, (hR5.dT S6).ask, hw2.stp S6, hu.stp S6, fun x y ex ey => ?_, by simp only [List.length_append]; omega⟩, StopM.toS (kx.toM.sub (S05.trans (S6.mono (by simp))) (fun m hm => .inl hm) hT (fun es2 ⟨z2, hm⟩ hT2 => by
        obtain ⟨es', W', z', hk', hT'⟩ := TakeR.up I.or htre hW2 (lg := log ++ es ++ es2) (.right hlt hn2 hTk hk1.at hm)
        exact ⟨es', hT', W', z', hk'⟩)), fun H7 e2 z2 u2 hm hT2 S7 hA7 hz2 => ?_⟩
      · subst ex ey
        exact hk1.two hR.pcs hts1 (Nat.le_refl _)
      · walk_at "rd"
        exact hN _ _ ⟨e2, z2, u2, .right hlt hn2 hTk hk1.at hm, hT2, hm.few.1, (S6.mono (by simp)).trans S7, hA7, hz2, rfl⟩
  · rintro σ H5 ⟨a, c, l1, es, W1, z, u, more, v5, v6, v7, rfl, hW1, hTk, hT, hel, hml, S5, hR5, hd5, hD5, hAn, hAk, hw5, hu, rfl⟩
    rw [hts.1, Nat.sub_self, List.take_zero] at hW1
    obtain ⟨rfl, rfl⟩ : a = 0 ∧ c = R.P.length := by
      generalize hz : ([] : List (Nat × Nat)) = m at hW1
      cases hW1 with
      | nil => exact ⟨rfl, rfl⟩
      | left => simp at hz
      | right => simp at hz
    have ho5 := hR5.st.ho
    unfold PF at ho5
    have hDw5 := hDw4.stp S5
    have hleft : 1 ≤ R.left g := by
      have h1 := sum_le (g := g.set n (g.getD n 0 + 1)) (by rw [List.length_set]; exact hR.st.gl) fun i => by
        rw [getD_set hgn]
        split
        · rename_i e; subst e; rw [hpd]; exact hgl
        · exact hR.gle i
      rw [sum_set hgn] at h1
      unfold PR.left
      omega
    rw [hts.1] at hel hml
    have hmk := mergK_len more kvs
    walk_at "rd"
    refine ⟨ty_dT hd5, ?_⟩
    walk_at "rd"
    refine w_upd hd5 hD5 hDdd.symm hkn (by omega) ?_
    walk_at "rd"
    have S6 : Stp [R.dd] H5 (upd H5 R.dd (.dT (mergK kvs more))) := (Stp.refl _ _).putM (by simp) hd5 (fun z => z)
    have hSt6 := hR5.st.stp S6 (by intro m hm; rw [List.mem_singleton] at hm; subst hm; exact hR5.st.dd_ne hd5)
    have hd6 : upd H5 R.dd (.dT (mergK kvs more)) R.dd = some (.dT (mergK kvs more)) := upd_same
    have hDw6 := (hDw5.merge hAn).stp S6
    have hA6 := hR5.ask.stp S6 (by intro m hm; rw [List.mem_singleton] at hm; subst hm; exact hR5.st.own _ (by simp))
    generalize upd H5 R.dd (.dT (mergK kvs more)) = H6 at S6 hSt6 hd6 hDw6 hA6 ⊢
    have ho6 := hSt6.ho
    unfold PF at ho6
    have hg6 := hSt6.hg
    walk_at "rd"
    refine v_getL (n := n) hg6 rfl (by have := hR.pcs.few; omega) (v := .int (g.getD n 0 : Nat)) (by unfold nv; rw [List.getElem?_map, List.getElem?_eq_getElem hgn, List.getD_eq_getElem?_getD, List.getElem?_eq_getElem hgn]; rfl) ?_
    walk_at "rd"
    refine v_setL (n := n) hg6 rfl (by rw [List.length_map]; exact hgn) ?_
    rw [show ((g.getD n 0 : Nat) : Int) + 1 = ((g.getD n 0 + 1 : Nat) : Int) by omega, show (nv g).set n (.int ((g.getD n 0 + 1 : Nat) : Int)) = nv (g.set n (g.getD n 0 + 1)) by unfold nv; rw [List.map_set]]
    walk_at "rd"
    have S7 : Stp [R.gg] H6 (upd H6 R.gg (.lst (nv (g.set n (g.getD n 0 + 1))))) := (Stp.refl _ _).putL (by simp) hg6
    have hg7 : upd H6 R.gg (.lst (nv (g.set n (g.getD n 0 + 1)))) R.gg = some (.lst (nv (g.set n (g.getD n 0 + 1)))) := upd_same
    have ht7 := S7.tup (S6.tup (S5.tup (S14.tup ht)))
    refine v_ixTn (n := 0) (SqT.of ht7) rfl rfl ?_
    have nggd : R.dd ≠ R.gg := ne_of hd6 hg6 (by intro z; cases z)
    have hggo : R.gg ∉ I.own := hSt6.own _ (by simp)
    have hlf : R.left (g.set n (g.getD n 0 + 1)) + 1 = R.left g := by
      unfold PR.left at hleft ⊢
      rw [sum_set hgn]
      omega
    rw [← hpd] at hnx
    refine k (x1, n) rfl hi (by rw [hpd]; exact hgl) _ es W1 z (by rw [hnx]; exact hTk) hT ?_ ⟨⟨?_, ?_, fun i a e => ?_, hSt6.hl, hg7, by rw [List.length_set]; exact hSt6.gl, hSt6.own, hSt6.n1, hSt6.n2⟩, hA6.stp S7 (by intro m hm; rw [List.mem_singleton] at hm; subst hm; exact hggo), hR.pcs, fun i => ?_, ⟨_, S7.keep1 hd6 nggd, hDw6.stp S7, ?_, ?_⟩, ⟨z, ?_⟩⟩
    · refine (S.mono (M' := R.M I) (by simp)).trans ?_
      have T1 : Stp (R.M I) H1 H4 := (S14.mono (by simp))
      have T2 : Stp (R.M I) H1 H5 := T1.then S5 fun m hm => by
        rcases List.mem_cons.mp hm with rfl | hm
        · exact .inr hD1
        · exact .inl (List.mem_cons_of_mem _ (List.mem_cons_of_mem _ hm))
      exact (T2.trans (S6.mono (by simp [PR.M]))).trans (S7.mono (by simp [PR.M]))
    · exact S7.keep1 hSt6.ho (ne_of hSt6.ho hg6 (by intro z; cases z))
    · exact S7.keep1 hSt6.hp hSt6.n1.symm
    · obtain ⟨qs, q1, q2⟩ := hSt6.ha i a e
      exact ⟨qs, q1, S7.keep1 q2 (hSt6.n2 a (List.mem_of_getElem? e))⟩
    · rw [getD_set hgn]
      split
      · rename_i e; subst e; rw [hpd]; exact hgl
      · exact hR.gle i
    · intro e
      have := hDw6 _ _ _ (hTk.tre0 htre).at
      rw [e] at this
      obtain ⟨_, q, _⟩ := this
      cases q
    · show (mergK kvs more).length + 400 * R.left (g.set n (g.getD n 0 + 1)) ≤ 900000
      omega
    · have t3 := hTk.tre0 htre
      rw [← hnx, ← frts_set hgn] at t3
      exact t3
def sp_LastPour_front (K : PySem.W.Frag) (A : Ad) : Sp := fun vs H Q _ => ∃ (R : PR) (I : Ask) (g : List Nat) (n i : Nat), vs = [.ref R.o, .int n, .int i] ∧ (R.St A.LastPour I H g ∧ n < R.P.length) ∧ ∀ v H', Stp [] H H' → frV H' v (frt true (R.P.getD n []) i n) → Q v H'
theorem ok_LastPour_front {P : Program} {w : World} {K : PySem.W.Frag} {mg : Str → Option Value} {base : Heap} {A : Ad} {f : Addr} {fd : FuncData} (F : Fun K "front" "LastPour.front" s_LastPour_front f fd) (T : Txt K mg A)  : FnOk P w K mg base CX0 1 f fd ["self", "number", "gone"] (sp_LastPour_front K A) := by
  refine F.ok sc_LastPour_front (fun vs H Q E h => by obtain ⟨_, _, _, _, _, rfl, _⟩ := h; rfl) (fun cdv A' outer s H vs Q E hr h => ?_)
  obtain ⟨R, I, g, n, i, rfl, ⟨hSt, hn⟩, k⟩ := h
  refine ⟨_, (pss_cons (ps_set (i := 3) sc_LastPour_front.nd rfl (Or.inl rfl) (pe_ix SH.ixA (SH.pe_fldF T.cl_LastPour T.na_LastPour_pieces (pv 0)) (pv 1) (fun _ _ => rfl)))
        (pss_cons (ps_if (pt_cmpR SH.oGe (pv 2) (pe_callB SH.cLen (by rfl) T.z_len (by decide +kernel) (pa_cons (pv 3) pa_nil)) (nomark _)) (pss_one (ps_ret pe_non)) pss_nil)
        (pss_one (ps_ret (pe_tup (pa_cons (pe_ix SH.ixA (pv 3) (pe_op SH.oSub (pe_op SH.oSub (pe_callB SH.cLen (by rfl) T.z_len (by decide +kernel) (pa_cons (pv 3) pa_nil)) pe_int) (pv 2)) (fun _ _ => rfl)) (pa_cons (pv 1) pa_nil))))))), ?_⟩
  walk_at "begin"
  have ho := hSt.ho
  unfold PF at ho
  have hp := hSt.hp
  obtain ⟨a, ha1, ha2⟩ := hSt.pc hn
  walk_at "rd"
  refine v_ixLn (n := n) (SqL.of hp) rfl ha1 ?_
  walk_at "rd"
  refine r_w (fun hc => ?_) fun hc => ?_
  · walk_at "rd"
    refine k _ _ (.refl _ _) ?_
    have e : frt true (R.P.getD n []) i n = none := by
      unfold frt
      rw [if_pos rfl, List.getElem?_eq_none (by rw [List.length_reverse]; omega)]
      rfl
    rw [e]; rfl
  · walk_at "rd"
    have hi : i < (R.P.getD n []).length := by omega
    have hj : (R.P.getD n []).length - 1 - i < (R.P.getD n []).length := by omega
    refine v_ixLn (n := (R.P.getD n []).length - 1 - i) (SqL.of ha2) (by omega) (v := .int ((R.P.getD n [])[(R.P.getD n []).length - 1 - i] : Nat)) (by unfold nv; rw [List.getElem?_map, List.getElem?_eq_getElem hj]; rfl) ?_
    walk_at "rd"
    intro t ht
    refine k _ _ ((Stp.refl _ _).new ht) ?_
    have e : frt true (R.P.getD n []) i n = some ((R.P.getD n [])[(R.P.getD n []).length - 1 - i], n) := by
      unfold frt
      rw [if_pos rfl, List.getElem?_reverse hi, List.getElem?_eq_getElem hj]
      rfl
    rw [e]
    exact ⟨t, rfl, upd_same⟩
def sp_LastPour_goes_on (K : PySem.W.Frag) (A : Ad) : Sp := fun vs H Q E => ∃ (R : PR) (I : Ask) (g : List Nat) (log : List Ent) (p q : Nat), vs = [.ref R.o, .int p, .int q] ∧ (R.St A.LastPour I H g ∧ I.At K A H log ∧ p < I.n ∧ q < I.n ∧ p ≠ q ∧ log.length + I.pre.length < 100000) ∧
  Stop I K A H log (fun es => ∃ said, es = [⟨max p q, min p q, said⟩]) E ∧
  ∀ H' said, said = I.or log (max p q) (min p q) → Stp I.M H H' → I.At K A H' (log ++ [⟨max p q, min p q, said⟩]) → Q (.bl (goes true said p q)) H'
theorem ok_LastPour_goes_on {P : Program} {w : World} {K : PySem.W.Frag} {mg : Str → Option Value} {base : Heap} {A : Ad} {f : Addr} {fd : FuncData} (F : Fun K "goes_on" "LastPour.goes_on" s_LastPour_goes_on f fd) (T : Txt K mg A) (M_Asker_ahead : SH.CalM P w K mg base (L2N.CX P w) 3 A.Asker "ahead" [] (sp_Asker_ahead K A)) : FnOk P w K mg base (L2N.CX P w) 4 f fd ["self", "one", "other"] (sp_LastPour_goes_on K A) := by
  refine SH.okN F sc_LastPour_goes_on (fun vs H Q E h => by obtain ⟨_, _, _, _, _, _, rfl, _⟩ := h; rfl) (fun cdv A' outer s H vs Q E hr h => ?_)
  obtain ⟨R, I, g, log, p, q, rfl, ⟨hSt, hA, h1, h2, h3, h4⟩, kx, k⟩ := h
  refine ⟨_, (pss_one (ps_ret (pe_not (SH.pe_methF (SH.pe_fldF T.cl_LastPour T.na_LastPour_asker (pv 0)) M_Asker_ahead hr (L2N.passes_call (L2N.takes_of rfl rfl rfl rfl) fun _ _ _ _ h => h) (pa_cons (pv 1) (pa_cons (pv 2) pa_nil)))))), ?_⟩
  walk_at "begin"
  have ho := hSt.ho
  unfold PF at ho
  have hs := hA.hs
  walk_at "rd"
  refine ⟨I, log, p, q, rfl, ⟨hA, h1, h2, h3, h4⟩, kx, fun H' said e S hA' => ?_⟩
  exact ⟨_, rfl, k H' said e S hA'⟩
def sp_LastPour_meeting (K : PySem.W.Frag) (A : Ad) : Sp := fun vs H Q E => ∃ (R : PR) (I : Ask) (g : List Nat) (log : List Ent) (v w : V) (x y : Fr), vs = [.ref R.o, v, w] ∧ (R.St A.LastPour I H g ∧ I.At K A H log ∧ frV H v x ∧ frV H w y ∧ (∀ a c, x = some a → y = some c → a.1 < I.n ∧ c.1 < I.n ∧ a.1 ≠ c.1) ∧ log.length + I.pre.length < 100000) ∧
  Stop I K A H log (fun es => ∃ z, Meet true x y es z) E ∧
  ∀ H' es z u, Meet true x y es z → Told I.or log es → Stp I.M H H' → I.At K A H' (log ++ es) → frV H' u z → Q u H'
theorem ok_LastPour_meeting {P : Program} {w : World} {K : PySem.W.Frag} {mg : Str → Option Value} {base : Heap} {A : Ad} {f : Addr} {fd : FuncData} (F : Fun K "meeting" "Pour.meeting" s_LastPour_meeting f fd) (T : Txt K mg A) (M_LastPour_goes_on : SH.CalM P w K mg base (L2N.CX P w) 4 A.LastPour "goes_on" [] (sp_LastPour_goes_on K A)) : FnOk P w K mg base (L2N.CX P w) 5 f fd ["self", "one", "other"] (sp_LastPour_meeting K A) := by
  refine SH.okN F sc_LastPour_meeting (fun vs H Q E h => by obtain ⟨_, _, _, _, _, _, _, _, rfl, _⟩ := h; rfl) (fun cdv A' outer s H vs Q E hr h => ?_)
  obtain ⟨R, I, g, log, v, w, x, y, rfl, ⟨hSt, hA, hx, hy, hxy, hlog⟩, kx, k⟩ := h
  refine ⟨_, (pss_cons (ps_if (pt_cmpR SH.oIsN (pv 1) pe_non (nomark _)) (pss_one (ps_ret (pv 2))) pss_nil)
        (pss_cons (ps_if (PW.pt (pw_or (pt_cmpR SH.oIsN (pv 2) pe_non (nomark _)) (pw_or1 (pt_val (SH.pe_methF (pv 0) M_LastPour_goes_on hr (L2N.passes_call (L2N.takes_of rfl rfl rfl rfl) fun _ _ _ _ h => h) (pa_cons (pe_ix SH.ixA (pv 1) pe_int (fun _ _ => rfl)) (pa_cons (pe_ix SH.ixA (pv 2) pe_int (fun _ _ => rfl)) pa_nil))))))) (pss_one (ps_ret (pv 1))) pss_nil)
        (pss_one (ps_ret (pv 2))))), ?_⟩
  walk_at "begin"
  have ho := hSt.ho
  unfold PF at ho
  walk_at "rd"
  cases x with
  | none =>
    cases hx
    refine r_wT rfl ?_
    walk_at "rd"
    exact k H [] y w .l True.intro (.refl _ _) (by rw [List.append_nil]; exact hA) hy
  | some x =>
    obtain ⟨t, rfl, ht⟩ := hx
    refine r_wF (by intro z; cases z) ?_
    walk_at "rd"
    cases y with
    | none =>
      cases hy
      refine r_wT rfl ?_
      walk_at "rd"
      exact k H [] (some x) (.ref t) .r True.intro (.refl _ _) (by rw [List.append_nil]; exact hA) ⟨t, rfl, ht⟩
    | some y =>
      obtain ⟨t2, rfl, ht2⟩ := hy
      refine r_wF (by intro z; cases z) ?_
      walk_at "rd"
      refine v_ixTn (n := 0) (SqT.of ht) rfl rfl ?_
      walk_at "rd"
      refine v_ixTn (n := 0) (SqT.of ht2) rfl rfl ?_
      obtain ⟨a1, a2, a3⟩ := hxy x y rfl rfl
      walk_at "rd"
      refine ⟨R, I, g, log, x.1, y.1, rfl, ⟨hSt, hA, a1, a2, a3, hlog⟩, StopM.toS (kx.toM.imp (.refl _ _) (fun m hm => .inl hm) (fun es ⟨said, e⟩ => by subst e; exact ⟨_, .m said⟩)), fun H' said e S hA' => ?_⟩
      have hm := Meet.m (b := true) (x := x) (y := y) said
      have hT : Told I.or log [⟨max x.1 y.1, min x.1 y.1, said⟩] := Told.one e
      refine ⟨_, rfl, ?_⟩
      refine r_b (fun hb => ?_) fun hb => ?_
      · walk_at "rd"
        rw [if_pos hb] at hm
        exact k H' _ _ _ hm hT S hA' ⟨t, rfl, S.tup ht⟩
      · walk_at "rd"
        rw [if_neg (by rw [hb]; exact Bool.false_ne_true)] at hm
        exact k H' _ _ _ hm hT S hA' ⟨t2, rfl, S.tup ht2⟩
def sp_LastPour_hold_alln (n : Nat) (K : PySem.W.Frag) (A : Ad) : Sp := fun vs H Q E => ∃ (R : PR) (I : Ask) (g : List Nat) (log : List Ent) (lo hi : Nat) (W : Wt) (kvs : List (List Key × V)), vs = [.ref R.o, .int lo, .int hi] ∧
  ((0 < n ∧ hi - lo ≤ 2 ^ (n - 1) ∧ lo ≤ hi ∧ hi ≤ R.P.length) ∧ R.St A.LastPour I H g ∧ I.At K A H log ∧ Pcs I R.P ∧ (∀ i, g.getD i 0 = 0) ∧ H R.dd = some (.dT kvs) ∧ DW H kvs W ∧ kvs.length + 2 * (hi - lo) + 1 ≤ 5000 ∧ log.length + I.pre.length + (hi - lo) < 100000) ∧
  StopM (R.dd :: I.M) I K A H log (fun es => ∃ W' z, Hold true (frts true R.P g) lo hi W es W' z) E ∧
  ∀ H' es W' z u kvs', Hold true (frts true R.P g) lo hi W es W' z → Told I.or log es → Stp (R.dd :: I.M) H H' → I.At K A H' (log ++ es) → H' R.dd = some (.dT kvs') → DW H' kvs' W' → kvs'.length ≤ kvs.length + 2 * (hi - lo) + 1 - (if lo < hi then 2 else 0) → kvs' ≠ [] → frV H' u z → Q u H'
theorem sp_LastPour_hold_alln0 {K : PySem.W.Frag} {A : Ad} {vs : List V} {H : Hp} {Q : VK} {E : XK} (h : sp_LastPour_hold_alln 0 K A vs H Q E) : False := by
  obtain ⟨_, _, _, _, _, _, _, _, _, ⟨⟨h, _⟩, _⟩, _⟩ := h
  exact Nat.lt_irrefl 0 h
abbrev sp_LastPour_hold_all (K : PySem.W.Frag) (A : Ad) : Sp := sp_LastPour_hold_alln 10 K A
theorem okn_LastPour_hold_all {P : Program} {w : World} {K : PySem.W.Frag} {mg : Str → Option Value} {base : Heap} {A : Ad} {f : Addr} {fd : FuncData} (n : Nat) (F : Fun K "hold_all" "Pour.hold_all" s_LastPour_hold_all f fd) (T : Txt K mg A) (M_LastPour_front : SH.CalM P w K mg base CX0 1 A.LastPour "front" [] (sp_LastPour_front K A)) (M_LastPour_meeting : SH.CalM P w K mg base (L2N.CX P w) 5 A.LastPour "meeting" [] (sp_LastPour_meeting K A)) (C_cut_between : SH.Cal P w K mg base CX0 1 "cut_between" [] (sp_cut_between K A)) (M_LastPour_hold_all : SH.CalM P w K mg base (L2N.CX P w) (5 + n) A.LastPour "hold_all" [] (sp_LastPour_hold_alln n K A)) : FnOk P w K mg base (L2N.CX P w) (5 + n + 1) f fd ["self", "low", "high"] (sp_LastPour_hold_alln (n + 1) K A) := by
  refine SH.okN F sc_LastPour_hold_all (fun vs H Q E h => by obtain ⟨_, _, _, _, _, _, _, _, rfl, _⟩ := h; rfl) (fun cdv A' outer s H vs Q E hr h => ?_)
  obtain ⟨R, I, g, log, lo, hi, W, kvs, rfl, ⟨⟨h0, hpw, hlo, hhi⟩, hSt, hA, hP, hg0, hd, hdw, hkl, hlog⟩, kx, k⟩ := h
  rw [Nat.add_sub_cancel] at hpw
  refine ⟨_, (pss_cons (ps_set (i := 3) sc_LastPour_hold_all.nd rfl (Or.inl rfl) pe_non)
        (pss_cons (ps_if (pt_cmpR (SH.oEq hr.units) (pe_op SH.oSub (pv 2) (pv 1)) pe_int (nomark _)) (pss_one (ps_set (i := 3) sc_LastPour_hold_all.nd rfl (Or.inl rfl) (SH.pe_methF (pv 0) M_LastPour_front hr pass0 (pa_cons (pv 1) (pa_cons pe_int pa_nil)) (hk := by omega)))) (pss_one (ps_if (pt_cmpR SH.oGt (pv 2) (pv 1) (nomark _)) (pss_cons (ps_set (i := 4) sc_LastPour_hold_all.nd rfl (Or.inl rfl) (SH.pe_callF C_cut_between hr (by rfl) pass0 (pa_cons (pv 1) (pa_cons (pv 2) pa_nil)) (hk := by omega)))
        (pss_cons (ps_set (i := 5) sc_LastPour_hold_all.nd rfl (Or.inl rfl) (SH.pe_methF (pv 0) M_LastPour_hold_all hr (L2N.passes_call (L2N.takes_of rfl rfl rfl rfl) fun _ _ _ _ h => h) (pa_cons (pv 1) (pa_cons (pv 4) pa_nil)) (hk := by omega)))
        (pss_one (ps_set (i := 3) sc_LastPour_hold_all.nd rfl (Or.inl rfl) (SH.pe_methF (pv 0) M_LastPour_meeting hr (L2N.passes_call (L2N.takes_of rfl rfl rfl rfl) fun _ _ _ _ h => h) (pa_cons (pv 5) (pa_cons (SH.pe_methF (pv 0) M_LastPour_hold_all hr (L2N.passes_call (L2N.takes_of rfl rfl rfl rfl) fun _ _ _ _ h => h) (pa_cons (pv 4) (pa_cons (pv 2) pa_nil)) (hk := by omega)) pa_nil)) (hk := by omega)))))) pss_nil)))
        (pss_cons (ps_dput (hu_of hr) (SH.pe_fldF T.cl_LastPour T.na_LastPour_went_on (pv 0)) (pe_tup (pa_cons (pv 1) (pa_cons (pv 2) pa_nil))) (pv 3) rfl)
        (pss_one (ps_ret (pv 3)))))), ?_⟩
  walk_at "begin"
  have ho := hSt.ho
  unfold PF at ho
  walk_at "rd"
  refine r_wJ (W := fun σ' H' => ∃ (u : V) (z : Fr) (es : List Ent) (W1 : Wt) (kvs1 : List (List Key × V)) (v4 v5 : Option V), Hold true (frts true R.P g) lo hi W es (putW W1 lo hi z) z ∧ Told I.or log es ∧ Stp (R.dd :: I.M) H H' ∧ I.At K A H' (log ++ es) ∧ H' R.dd = some (.dT kvs1) ∧ DW H' kvs1 W1 ∧ kvs1.length ≤ kvs.length + 2 * (hi - lo) - (if lo < hi then 2 else 0) ∧ frV H' u z ∧
      σ' = [some (.ref R.o), some (.int lo), some (.int hi), some u, v4, v5]) ?_ (fun hc N hN => ?_) (fun hc N hN => ?_)
  · rintro σ' H1 ⟨u, z, es, W1, kvs1, v4, v5, hH, hT, S1, hA1, hd1, hdw1, hkl1, hz, rfl⟩
    dsimp only
    have hSt1 := hSt.askd hd S1
    have ho1 := hSt1.ho
    unfold PF at ho1
    walk_at "rd"
    intro q hq
    refine v_dputT (ks := pk lo hi) (upd_old hd1 hq) upd_same (by omega) ?_
    walk_at "rd"
    have S2 : Stp [R.dd] H1 (upd (upd H1 q (.tup [.int lo, .int hi])) R.dd (.dT (putK kvs1 (pk lo hi) u))) := ((Stp.refl _ _).new hq).putM (by simp) (upd_old hd1 hq) (fun z => z)
    have hl := length_putK kvs1 (pk lo hi) u
    refine k _ es _ z u (putK kvs1 (pk lo hi) u) hH hT (S1.trans (S2.mono (by simp))) (hA1.stp S2 (by intro m hm; rw [List.mem_singleton] at hm; subst hm; exact hSt.own _ (by simp))) upd_same ((hdw1.stp S2).put (hz.stp S2)) ?_ putK_ne (hz.stp S2)
    split at hkl1 <;> split <;> omega
  · walk_at "rd"
    refine ⟨R, I, g, lo, 0, rfl, ⟨hSt, by omega⟩, fun v H1 S1 hv => ?_⟩
    walk_at "rd"
    have e : hi = lo + 1 := by omega
    subst e
    have ef : frt true (R.P.getD lo []) 0 lo = frts true R.P g lo := by unfold frts; rw [hg0]
    rw [ef] at hv
    refine hN _ _ ⟨v, _, [], W, kvs, _, _, .one, True.intro, S1.mono (by simp), by rw [List.append_nil]; exact hA.stp S1 (by simp), S1.keep0 hd, hdw.stp S1, ?_, hv, rfl⟩
    rw [if_pos (by omega)]; omega
  · walk_at "rd"
    refine r_w (fun hc2 => ?_) fun hc2 => ?_
    · walk_at "rd"
      refine ⟨lo, hi, rfl, ?_⟩
      have hlt : lo + 1 < hi := by omega
      have hcut := cutB_lt hlt
      walk_at "rd"
      have hn0 : 0 < n := by
        rcases Nat.eq_zero_or_pos n with z | z
        · subst z; simp at hpw; omega
        · exact z
      have hpw2 : 2 ^ n = 2 * 2 ^ (n - 1) := by
        rw [← Nat.pow_succ']; congr 1; omega
      have hc1 : cutB lo hi - lo ≤ 2 ^ (n - 1) := by unfold cutB; omega
      have hc2' : hi - cutB lo hi ≤ 2 ^ (n - 1) := by unfold cutB; omega
      refine ⟨R, I, g, log, lo, cutB lo hi, W, kvs, rfl, ⟨⟨hn0, hc1, by omega, by omega⟩, hSt, hA, hP, hg0, hd, hdw, by omega, by omega⟩, kx.sub0 (.refl _ _) (fun m hm => .inl hm) (fun es2 ⟨W1, x, k1⟩ hT1 => by
        obtain ⟨e2, W2, y, k2, t2⟩ := Hold.total I.or true (frts true R.P g) _ (cutB lo hi) hi W1 (log ++ es2) rfl (by omega)
        obtain ⟨e3, z, k3, t3⟩ := Meet.total I.or true x y (log ++ es2 ++ e2)
        exact ⟨e2 ++ e3, Told.app t2 t3, _, _, .node hlt k1 k2 k3⟩), fun H1 e1 W1 x u kvs1 hH1 hT1 S1 hA1 hd1 hdw1 hkl1 _ hx => ?_⟩
      have hf1 := hH1.few
      have hSt1 := hSt.askd hd S1
      have ho1 := hSt1.ho
      unfold PF at ho1
      rw [if_pos (by omega)] at hkl1
      walk_at "rd"
      refine ⟨R, I, g, log ++ e1, cutB lo hi, hi, W1, kvs1, rfl, ⟨⟨hn0, hc2', by omega, by omega⟩, hSt1, hA1, hP, hg0, hd1, hdw1, by omega, by rw [List.length_append]; omega⟩, kx.sub S1 (fun m hm => .inl hm) hT1 (fun es2 ⟨W2, y, k2⟩ hT2 => by
        obtain ⟨e3, z, k3, t3⟩ := Meet.total I.or true x y (log ++ e1 ++ es2)
        exact ⟨e3, t3, _, _, by rw [List.append_assoc]; exact .node hlt hH1 k2 k3⟩), fun H2 e2 W2 y w kvs2 hH2 hT2 S2 hA2 hd2 hdw2 hkl2 _ hy => ?_⟩
      have hf2 := hH2.few
      rw [if_pos (by omega)] at hkl2
      have hSt2 := hSt1.askd hd1 S2
      have ho2 := hSt2.ho
      unfold PF at ho2
      have t1 := hH1.tre (log := e1) fun _ h => h
      have t2 := hH2.tre (log := e2) fun _ h => h
      refine ⟨R, I, g, log ++ e1 ++ e2, u, w, x, y, rfl, ⟨hSt2, hA2, hx.stp S2, hy, fun a c ea ec => ?_, by simp only [List.length_append]; omega⟩, (by
        have := kx.sub (M1 := I.M) (es1 := e1 ++ e2) (R1 := fun es => ∃ z, Meet true x y es z) (S1.trans S2) (fun m hm => .inl (List.mem_cons_of_mem _ hm)) (Told.app hT1 hT2) (fun es3 ⟨z, k3⟩ hT3 => ⟨[], True.intro, _, z, by rw [List.append_nil, List.append_assoc]; exact .node hlt hH1 hH2 k3⟩)
        rw [← List.append_assoc] at this
        exact this), fun H3 e3 z v hm hT3 S3 hA3 hz => ?_⟩
      · subst ea ec
        exact t1.two hP t2 (Nat.le_refl _)
      · have hT := Told.app hT1 (Told.app hT2 hT3)
        have d3 : H3 R.dd = some (.dT kvs2) := S3.keep hd2 hSt.dM
        rw [List.append_assoc, List.append_assoc] at hA3
        walk_at "rd"
        refine hN _ _ ⟨v, z, e1 ++ (e2 ++ e3), W2, kvs2, _, _, .node hlt hH1 hH2 hm, hT, (S1.trans S2).trans (S3.mono fun b hb => List.mem_cons_of_mem _ hb), hA3, d3, hdw2.stp S3, ?_, hz, rfl⟩
        rw [if_pos (by omega)]; omega
    · walk_at "rd"
      have e : hi = lo := by omega
      subst e
      refine hN _ _ ⟨.non, none, [], W, kvs, _, _, .nil, True.intro, .refl _ _, by rw [List.append_nil]; exact hA, hd, hdw, ?_, rfl, rfl⟩
      rw [if_neg (by omega)]; omega
theorem ok_LastPour_hold_all {P : Program} {w : World} {K : PySem.W.Frag} {mg : Str → Option Value} {base : Heap} {A : Ad} {f : Addr} {fd : FuncData} (F : Fun K "hold_all" "Pour.hold_all" s_LastPour_hold_all f fd) (T : Txt K mg A) (M_LastPour_front : SH.CalM P w K mg base CX0 1 A.LastPour "front" [] (sp_LastPour_front K A)) (M_LastPour_meeting : SH.CalM P w K mg base (L2N.CX P w) 5 A.LastPour "meeting" [] (sp_LastPour_meeting K A)) (C_cut_between : SH.Cal P w K mg base CX0 1 "cut_between" [] (sp_cut_between K A)) (me : Meth K A.LastPour "hold_all" f) (bi : Binds K fd ["self", "low", "high"] []) : FnOk P w K mg base (L2N.CX P w) 15 f fd ["self", "low", "high"] (sp_LastPour_hold_all K A) := by
  have go : ∀ n, FnOk P w K mg base (L2N.CX P w) (5 + n) f fd ["self", "low", "high"] (sp_LastPour_hold_alln n K A) := fun n => by
    induction n with
    | zero => exact ⟨fun _ _ _ _ h => (sp_LastPour_hold_alln0 h).elim, fun _ _ _ _ _ _ _ _ _ _ _ _ _ h => (sp_LastPour_hold_alln0 h).elim⟩
    | succ n ih => exact okn_LastPour_hold_all n F T M_LastPour_front M_LastPour_meeting C_cut_between ⟨T.cl_LastPour, f, fd, _, _, me, bi, .nil, ih⟩
  exact go 10

def sp_LastPour___init__ (K : PySem.W.Frag) (A : Ad) : Sp := fun vs H Q E => ∃ (o hd : Addr) (I : Ask) (log : List Ent) (ha : List Addr) (P : List (List Nat)), vs = [.ref o, .ref I.s, .ref hd] ∧
  ((∃ dx, H o = some (.ins A.LastPour dx [])) ∧ I.At K A H log ∧ H hd = some (.lst (ha.map V.ref)) ∧ Pls H ha P ∧ Pcs I P ∧ o ∉ I.own ∧ (P.map List.length).sum ≤ 2000 ∧ log.length + I.pre.length + 400 ≤ 100000) ∧
  StopM (o :: I.M) I K A H log (fun es => ∃ W z, Hold true (frts true P (List.replicate P.length 0)) 0 P.length (fun _ _ => none) es W z) E ∧
  ∀ (R : PR) H' es W z, R.o = o → R.P = P → (∀ a ∈ R.base, a ≠ o → H a = none) → Hold true (frts true P (List.replicate P.length 0)) 0 P.length (fun _ _ => none) es W z → Told I.or log es → Stp (o :: I.M) H H' → R.At true K A A.LastPour I H' (log ++ es) (List.replicate P.length 0) W → Q .non H'
theorem ok_LastPour___init__ {P : Program} {w : World} {K : PySem.W.Frag} {mg : Str → Option Value} {base : Heap} {A : Ad} {f : Addr} {fd : FuncData} (F : Fun K "__init__" "Pour.__init__" s_LastPour___init__ f fd) (T : Txt K mg A) (M_LastPour_hold_all : SH.CalM P w K mg base (L2N.CX P w) 15 A.LastPour "hold_all" [] (sp_LastPour_hold_all K A)) : FnOk P w K mg base (L2N.CX P w) 16 f fd ["self", "asker", "pieces"] (sp_LastPour___init__ K A) := by
  refine SH.okN F sc_LastPour___init__ (fun vs H Q E h => by obtain ⟨_, _, _, _, _, _, rfl, _⟩ := h; rfl) (fun cdv A' outer s H vs Q E hr h => ?_)
  obtain ⟨o, hd, I, log, ha, P, rfl, ⟨⟨dx, ho⟩, hA, hhd, hpl, hP, hoo, htot, hlog⟩, kx, k⟩ := h
  refine ⟨_, (pss_cons (SH.ps_fldF T.cl_LastPour T.na_LastPour_asker (pv 0) (pv 1) rfl)
        (pss_cons (SH.ps_fldF T.cl_LastPour T.na_LastPour_pieces (pv 0) (pe_lc (own := [("piece", 3)]) (g := (gName 3)) (tt := tYes) (by rfl) sc_LastPour___init__.nd (pi_list (pv 2)) (blkOk_by (own := [("piece", 3)]) (N := ["self", "asker", "pieces", "piece"]) (sc := defScope s_LastPour___init__) (by decide +kernel)) (fun _ _ _ _ _ => (pg_name (i := 3) sc_LastPour___init__.nd rfl (Or.inl rfl))) (fun _ _ _ _ _ => pts_nil) (fun _ _ _ _ _ => (pe_callTy (SH.crK SH.rListOf K SH.cListOf) (by rfl) T.z_list (by decide +kernel) (pa_cons (pv 3) pa_nil)))) rfl)
        (pss_cons (SH.ps_fldF T.cl_LastPour T.na_LastPour_gone (pv 0) (pe_op SH.oMul (pe_lst (pa_cons pe_int pa_nil)) (pe_callB SH.cLen (by rfl) T.z_len (by decide +kernel) (pa_cons (SH.pe_fldF T.cl_LastPour T.na_LastPour_pieces (pv 0)) pa_nil))) rfl)
        (pss_cons (SH.ps_fldF T.cl_LastPour T.na_LastPour_went_on (pv 0) pe_dnewT rfl)
        (pss_one (ps_expr (SH.pe_methF (pv 0) M_LastPour_hold_all hr (L2N.passes_call (L2N.takes_of rfl rfl rfl rfl) fun _ _ _ _ h => h) (pa_cons pe_int (pa_cons (pe_callB SH.cLen (by rfl) T.z_len (by decide +kernel) (pa_cons (SH.pe_fldF T.cl_LastPour T.na_LastPour_pieces (pv 0)) pa_nil)) pa_nil))))))))), ?_⟩
  walk_at "begin"
  have hMo : o ∉ I.M := fun z => hoo (Ask.Mown z)
  have hPl := hP.few
  walk_at "rd"
  have S1 : Stp [o] H (upd H o (.ins A.LastPour dx [("asker", .ref I.s)])) := (Stp.refl _ _).putI (by simp) ho
  have ho1 : upd H o (.ins A.LastPour dx [("asker", .ref I.s)]) o = some (.ins A.LastPour dx [("asker", .ref I.s)]) := upd_same
  have noha : o ∉ ha := fun z => by
    obtain ⟨i, hi⟩ := List.mem_iff_getElem?.mp z
    obtain ⟨ps, _, h2⟩ := hpl.2 i _ hi
    rw [ho] at h2; cases h2
  have nohd : hd ≠ o := ne_of hhd ho (by intro z; cases z)
  have hhd1 := S1.keep1 hhd nohd
  have hpl1 := hpl.stp S1 (by intro m hm; rw [List.mem_singleton] at hm; subst hm; exact noha)
  have hA1 := hA.stp S1 (by intro m hm; rw [List.mem_singleton] at hm; subst hm; exact hoo)
  have fr1 : ∀ b, upd H o (.ins A.LastPour dx [("asker", .ref I.s)]) b = none → H b = none := fun b e => S1.dom b e
  generalize upd H o (.ins A.LastPour dx [("asker", .ref I.s)]) = H1 at S1 ho1 hhd1 hpl1 hA1 fr1 ⊢
  walk_at "rd"
  intro D hD
  refine lc_it (walk_list (xs := ha.map V.ref)) (fun j H' => Stp [] H1 H' ∧ ∃ pa : List Addr, pa.length = j ∧ (∀ (i : Nat) (a : Addr), pa[i]? = some a → H1 a = none ∧ a ≠ D ∧ ∃ ps, P[i]? = some ps ∧ H' a = some (.lst (nv ps))) ∧ H' D = some (.lst (pa.map V.ref))) ⟨(Stp.refl _ _).new hD, [], rfl, (by intro i a e; simp at e), upd_same⟩ (fun j H' _ z => z.1.sql0 (SqL.of hhd1)) ?_ ?_
  · rintro j x H3 H4 hj ⟨S, pa, hpal, hpa, hL⟩ ⟨rfl, hx⟩
    obtain ⟨a, ha1, rfl⟩ := map_at hx
    obtain ⟨ps, h1, h2⟩ := hpl1.2 j a ha1
    have h3 := S.keep0 h2
    walk_at "rd"
    intro l hl
    have hlD : l ≠ D := (ne_of_none hL hl).symm
    refine ⟨_, upd_old hL hl, Nat.lt_of_le_of_lt (m := 1000) (by rw [List.length_map] at hj ⊢; have := hpl.1; omega) (by decide), (S.new hl).putN hD, pa ++ [l], by simp [hpal], fun i b e => ?_, by rw [upd_same, List.map_append]; rfl⟩
    by_cases hi : i < pa.length
    · rw [List.getElem?_append_left hi] at e
      obtain ⟨q1, q2, ps', q3, q4⟩ := hpa i b e
      exact ⟨q1, q2, ps', q3, upd_far q2 (upd_old q4 hl)⟩
    · rw [List.getElem?_append_right (by omega)] at e
      have hz : i = pa.length := by
        have := (List.getElem?_eq_some_iff.mp e).1
        simp at this; omega
      subst hz
      simp at e
      subst e
      exact ⟨S.dom _ hl, hlD, ps, by rw [hpal]; exact h1, upd_far hlD upd_same⟩
  rintro H2 ⟨S2, pa, hpal, hpa, hD2⟩
  rw [List.length_map, hpl.1] at hpal
  have ho2 := S2.keep0 ho1
  have nDo : D ≠ o := (ne_of_none ho1 hD).symm
  walk_at "rd"
  intro l0 hl0
  have S3 : Stp [o] H2 (upd (upd H2 o (.ins A.LastPour dx [("asker", .ref I.s), ("pieces", .ref D)])) l0 (.lst [.int 0])) := ((Stp.refl _ _).putI (by simp) ho2).new hl0
  have ho3 : upd (upd H2 o (.ins A.LastPour dx [("asker", .ref I.s), ("pieces", .ref D)])) l0 (.lst [.int 0]) o = some (.ins A.LastPour dx [("asker", .ref I.s), ("pieces", .ref D)]) := upd_old upd_same hl0
  have hl3 : upd (upd H2 o (.ins A.LastPour dx [("asker", .ref I.s), ("pieces", .ref D)])) l0 (.lst [.int 0]) l0 = some (.lst [.int 0]) := upd_same
  have hD3 := S3.keep1 hD2 nDo
  generalize upd (upd H2 o (.ins A.LastPour dx [("asker", .ref I.s), ("pieces", .ref D)])) l0 (.lst [.int 0]) = H3 at S3 ho3 hl3 hD3 ⊢
  walk_at "rd"
  refine v_mulL hl3 ⟨by omega, by omega⟩ (Nat.le_trans (m := 1000) (by simp; omega) (by decide)) fun gg hgg => ?_
  rw [show ((pa.length : Nat) : Int).toNat = P.length by omega, rep_zero]
  walk_at "rd"
  intro dd hdd
  have ngo : gg ≠ o := (ne_of_none ho3 hgg).symm
  have ngD : gg ≠ D := (ne_of_none hD3 hgg).symm
  have S4 : Stp [o] H3 (upd (upd (upd H3 gg (.lst (nv (List.replicate P.length 0)))) o (.ins A.LastPour dx [("asker", .ref I.s), ("pieces", .ref D), ("gone", .ref gg)])) dd (.dT [])) := (((Stp.refl _ _).new hgg).putI (by simp) (upd_old ho3 hgg)).new hdd
  have ho4 : upd (upd (upd H3 gg (.lst (nv (List.replicate P.length 0)))) o (.ins A.LastPour dx [("asker", .ref I.s), ("pieces", .ref D), ("gone", .ref gg)])) dd (.dT []) o = some (.ins A.LastPour dx [("asker", .ref I.s), ("pieces", .ref D), ("gone", .ref gg)]) := upd_old upd_same hdd
  have hg4 : upd (upd (upd H3 gg (.lst (nv (List.replicate P.length 0)))) o (.ins A.LastPour dx [("asker", .ref I.s), ("pieces", .ref D), ("gone", .ref gg)])) dd (.dT []) gg = some (.lst (nv (List.replicate P.length 0))) := upd_old (upd_far ngo upd_same) hdd
  have hd4 : upd (upd (upd H3 gg (.lst (nv (List.replicate P.length 0)))) o (.ins A.LastPour dx [("asker", .ref I.s), ("pieces", .ref D), ("gone", .ref gg)])) dd (.dT []) dd = some (.dT []) := upd_same
  have hD4 := S4.keep1 hD3 nDo
  have hdd3 : H3 dd = none := (upd_free (upd_free hdd).1).1
  generalize upd (upd (upd H3 gg (.lst (nv (List.replicate P.length 0)))) o (.ins A.LastPour dx [("asker", .ref I.s), ("pieces", .ref D), ("gone", .ref gg)])) dd (.dT []) = H4 at S4 ho4 hg4 hd4 hD4 ⊢
  walk_at "rd"
  have ndo : dd ≠ o := ne_of hd4 ho4 (by intro z; cases z)
  have S5 : Stp [o] H4 (upd H4 o (.ins A.LastPour dx (PF I.s D gg dd))) := (Stp.refl _ _).putI (by simp) ho4
  have ho5 : upd H4 o (.ins A.LastPour dx (PF I.s D gg dd)) o = some (.ins A.LastPour dx (PF I.s D gg dd)) := upd_same
  show sp_LastPour_hold_all K A _ (upd H4 o (.ins A.LastPour dx (PF I.s D gg dd))) _ _
  generalize upd H4 o (.ins A.LastPour dx (PF I.s D gg dd)) = H5 at S5 ho5 ⊢
  have S25 : Stp [o] H2 H5 := (S3.trans S4).trans S5
  have S05 : Stp [o] H H5 := (S1.trans (S2.mono (by simp))).trans S25
  have hD5 := S25.keep1 hD2 nDo
  have hg5 := S5.keep1 hg4 ngo
  have hd5 := S5.keep1 hd4 ndo
  have hpa5 : ∀ (i : Nat) (a : Addr), pa[i]? = some a → ∃ ps, P[i]? = some ps ∧ H5 a = some (.lst (nv ps)) := fun i a e => by
    obtain ⟨q1, q2, ps, q3, q4⟩ := hpa i a e
    exact ⟨ps, q3, S25.keep1 q4 (ne_of_none ho1 q1).symm⟩
  have hA5 : I.At K A H5 log := hA.stp S05 (by intro m hm; rw [List.mem_singleton] at hm; subst hm; exact hoo)
  have frD : H D = none := fr1 _ hD
  have frg : H gg = none := fr1 _ (S2.dom _ (S3.dom _ hgg))
  have frd : H dd = none := fr1 _ (S2.dom _ (S3.dom _ hdd3))
  have frp : ∀ a ∈ pa, H a = none ∧ H2 a ≠ none := fun a ha => by
    obtain ⟨i, hi⟩ := List.mem_iff_getElem?.mp ha
    obtain ⟨q1, q2, ps, q3, q4⟩ := hpa i a hi
    exact ⟨fr1 _ q1, by rw [q4]; simp⟩
  have hbase : ∀ a ∈ o :: D :: gg :: dd :: pa, a ≠ o → H a = none := fun a ha n => by
    rcases List.mem_cons.mp ha with rfl | ha
    · exact (n rfl).elim
    rcases List.mem_cons.mp ha with rfl | ha
    · exact frD
    rcases List.mem_cons.mp ha with rfl | ha
    · exact frg
    rcases List.mem_cons.mp ha with rfl | ha
    · exact frd
    · exact (frp a ha).1
  have hown : ∀ a ∈ o :: D :: gg :: dd :: pa, a ∉ I.own := fun a ha => by
    by_cases e : a = o
    · subst e; exact hoo
    · exact hA.freshO (hbase a ha e)
  have hSt : PR.St ⟨o, dx, D, gg, dd, pa, P⟩ A.LastPour I H5 (List.replicate P.length 0) := ⟨ho5, hD5, hpa5, hpal, hg5, List.length_replicate, hown, ngD, fun a ha z => (frp a ha).2 (by rw [z]; exact S3.dom _ hgg)⟩
  refine ⟨⟨o, dx, D, gg, dd, pa, P⟩, I, List.replicate P.length 0, log, 0, P.length, fun _ _ => none, [], by rw [show ((pa.length : Nat) : Int) = ((P.length : Nat) : Int) by omega]; rfl, ⟨⟨by decide, by show P.length - 0 ≤ 512; omega, Nat.zero_le _, Nat.le_refl _⟩, hSt, hA5, hP, fun i => rep_get _ _, hd5, (fun a c x (e : (none : Option Fr) = some x) => by cases e), by show 0 + 2 * (P.length - 0) + 1 ≤ 5000; omega, by omega⟩, kx.imp (S05.mono (by simp)) (fun m hm => by
    rcases List.mem_cons.mp hm with rfl | hm
    · exact .inr frd
    · exact .inl (List.mem_cons_of_mem _ hm)) (fun es h => h), fun H6 es W z u kvs hH hT S6 hA6 hd6 hdw6 hkl6 hkn hz => ?_⟩
  dsimp only
  walk_at "rd"
  refine k ⟨o, dx, D, gg, dd, pa, P⟩ H6 es W z rfl rfl hbase hH hT ?_ ⟨hSt.askd hd5 S6, hA6, hP, fun i => by rw [rep_get]; exact Nat.zero_le _, ⟨kvs, hd6, hdw6, hkn, ?_⟩, ⟨z, hH.tre fun e he => List.mem_append_right _ he⟩⟩
  · refine (S05.mono (M' := o :: I.M) (by simp)).then S6 fun m hm => ?_
    rcases List.mem_cons.mp hm with rfl | hm
    · exact .inr frd
    · exact .inl (List.mem_cons_of_mem _ hm)
  · unfold PR.left
    rw [rep_sum]
    show kvs.length + 400 * ((P.map List.length).sum - 0) ≤ 900000
    have h2 : kvs.length ≤ 0 + 2 * (P.length - 0) + 1 - (if 0 < P.length then 2 else 0) := hkl6
    omega
def sp_LastPour_first (K : PySem.W.Frag) (A : Ad) : Sp := fun vs H Q _ => ∃ (R : PR) (I : Ask) (log : List Ent) (g : List Nat) (W : Wt) (z : Fr), vs = [.ref R.o] ∧ (R.At true K A A.LastPour I H log g W ∧ W 0 R.P.length = some z) ∧
  ∀ H', Stp [] H H' → Q (frI z) H'
theorem ok_LastPour_first {P : Program} {w : World} {K : PySem.W.Frag} {mg : Str → Option Value} {base : Heap} {A : Ad} {f : Addr} {fd : FuncData} (F : Fun K "first" "Pour.first" s_LastPour_first f fd) (T : Txt K mg A)  : FnOk P w K mg base CX0 1 f fd ["self"] (sp_LastPour_first K A) := by
  refine F.ok sc_LastPour_first (fun vs H Q E h => by obtain ⟨_, _, _, _, _, _, rfl, _⟩ := h; rfl) (fun cdv A' outer s H vs Q E hr h => ?_)
  obtain ⟨R, I, log, g, W, z, rfl, ⟨hR, hz⟩, k⟩ := h
  refine ⟨_, (pss_cons (ps_set (i := 1) sc_LastPour_first.nd rfl (Or.inl rfl) (pe_dget (hu_of hr) (SH.pe_fldF T.cl_LastPour T.na_LastPour_went_on (pv 0)) (pe_tup (pa_cons pe_int (pa_cons (pe_callB SH.cLen (by rfl) T.z_len (by decide +kernel) (pa_cons (SH.pe_fldF T.cl_LastPour T.na_LastPour_pieces (pv 0)) pa_nil)) pa_nil))) (fun _ _ => rfl)))
        (pss_cons (ps_if (pt_cmpR SH.oIsN (pv 1) pe_non (nomark _)) (pss_one (ps_ret pe_non)) pss_nil)
        (pss_one (ps_ret (pe_ix SH.ixA (pv 1) pe_int (fun _ _ => rfl)))))), ?_⟩
  walk_at "begin"
  have ho := hR.st.ho
  unfold PF at ho
  have hp := hR.st.hp
  have hpl : R.pa.length = R.P.length := hR.st.hl
  obtain ⟨kvs, hd, hdw, _⟩ := hR.dw
  obtain ⟨v, hv1, hv2⟩ := hdw _ _ _ hz
  walk_at "rd"
  intro q hq
  rw [hpl]
  refine v_dgetI (ks := pk 0 R.P.length) (upd_old hd hq) upd_same hv1 ?_
  have S := (Stp.refl [] H).new (o := .tup [.int (0 : Int), .int (R.P.length : Nat)]) hq
  walk_at "rd"
  cases z with
  | none =>
    cases hv2
    refine r_wT rfl ?_
    walk_at "rd"
    exact k _ S
  | some x =>
    obtain ⟨t, rfl, ht⟩ := hv2
    refine r_wF (by intro z; cases z) ?_
    walk_at "rd"
    refine v_ixTn (n := 0) (SqT.of (upd_old ht hq)) rfl rfl ?_
    exact k _ S
def sp_LastPour_left (K : PySem.W.Frag) (A : Ad) : Sp := fun vs H Q _ => ∃ (R : PR) (I : Ask) (log : List Ent) (g : List Nat) (W : Wt), vs = [.ref R.o] ∧ R.At true K A A.LastPour I H log g W ∧
  ∀ H', Stp [] H H' → Q (.int (R.left g : Nat)) H'
theorem ok_LastPour_left {P : Program} {w : World} {K : PySem.W.Frag} {mg : Str → Option Value} {base : Heap} {A : Ad} {f : Addr} {fd : FuncData} (F : Fun K "left" "Pour.left" s_LastPour_left f fd) (T : Txt K mg A)  : FnOk P w K mg base CX0 1 f fd ["self"] (sp_LastPour_left K A) := by
  refine F.ok sc_LastPour_left (fun vs H Q E h => by obtain ⟨_, _, _, _, _, rfl, _⟩ := h; rfl) (fun cdv A' outer s H vs Q E hr h => ?_)
  obtain ⟨R, I, log, g, W, rfl, hR, k⟩ := h
  refine ⟨_, (pss_one (ps_ret (pe_op SH.oSub (pe_callB (cr_sum rfl) (by rfl) T.z_sum (by decide +kernel) (pa_cons (pe_lc (own := [("piece", 1)]) (g := (gName 1)) (tt := tYes) (by rfl) sc_LastPour_left.nd (pi_list (SH.pe_fldF T.cl_LastPour T.na_LastPour_pieces (pv 0))) (blkOk_by (own := [("piece", 1)]) (N := ["self", "piece"]) (sc := defScope s_LastPour_left) (by decide +kernel)) (fun _ _ _ _ _ => (pg_name (i := 1) sc_LastPour_left.nd rfl (Or.inl rfl))) (fun _ _ _ _ _ => pts_nil) (fun _ _ _ _ _ => (pe_callB (SH.crK SH.aLen K SH.cLen) (by rfl) T.z_len (by decide +kernel) (pa_cons (pv 1) pa_nil)))) pa_nil)) (pe_callB (cr_sum rfl) (by rfl) T.z_sum (by decide +kernel) (pa_cons (SH.pe_fldF T.cl_LastPour T.na_LastPour_gone (pv 0)) pa_nil))))), ?_⟩
  walk_at "begin"
  have ho := hR.st.ho
  unfold PF at ho
  have hp := hR.st.hp
  have hpl : R.pa.length = R.P.length := hR.st.hl
  have hfew := hR.pcs.few
  walk_at "rd"
  intro D hD
  refine lc_it (walk_list (xs := R.pa.map V.ref)) (fun j H' => Stp [] H H' ∧ ∃ ms : List Int, ms = (R.P.take j).map (fun ps => ((ps.length : Nat) : Int)) ∧ H' D = some (.lst (ms.map V.int))) ⟨(Stp.refl _ _).new hD, [], rfl, upd_same⟩ (fun j H' _ z => z.1.sql0 (SqL.of hp)) ?_ ?_
  · rintro j x H3 H4 hj ⟨S, ms, hms, hL⟩ ⟨rfl, hx⟩
    obtain ⟨a, ha1, rfl⟩ := map_at hx
    obtain ⟨ps, h1, h2⟩ := hR.st.ha j a ha1
    have h3 := S.keep0 h2
    rw [List.length_map] at hj
    walk_at "rd"
    refine ⟨_, hL, Nat.lt_of_le_of_lt (m := 1000) (by rw [List.length_map, hms, List.length_map, List.length_take]; omega) (by decide), S.putN hD, ms ++ [((ps.length : Nat) : Int)], ?_, by rw [upd_same, List.map_append]; rfl⟩
    rw [List.take_succ, h1, hms]
    simp
  rintro H2 ⟨S2, ms, hms, hD2⟩
  rw [List.length_map, hpl, List.take_length] at hms
  have ho2 := S2.keep0 ho
  have hg2 := S2.keep0 hR.st.hg
  walk_at "rd"
  refine v_sum (SqL.of hD2) ?_
  walk_at "rd"
  refine v_sum (ns := g.map fun n : Nat => (n : Int)) (by rw [List.map_map]; exact SqL.of hg2) ?_
  walk_at "rd"
  have e1 : ms.sum = (((R.P.map List.length).sum : Nat) : Int) := by
    rw [hms]
    induction R.P with
    | nil => rfl
    | cons ps P ih => simp only [List.map_cons, List.sum_cons, ih]; omega
  have e2 := sum_int g
  have e3 := sum_le hR.st.gl hR.gle
  rw [e1, e2, show (((R.P.map List.length).sum : Nat) : Int) - ((g.sum : Nat) : Int) = ((R.left g : Nat) : Int) by unfold PR.left; omega]
  exact k _ S2
def sp_LastPour_way_down (K : PySem.W.Frag) (A : Ad) : Sp := fun vs H Q _ => ∃ (R : PR) (I : Ask) (g : List Nat) (n : Nat), vs = [.ref R.o, .int n] ∧ (R.St A.LastPour I H g ∧ n < R.P.length ∧ R.P.length ≤ 300) ∧
  ∀ H' q ts l a c, H q = none → Way n 0 R.P.length l a c → c ≤ a + 1 → Stp [] H H' → H' q = some (.lst ts) → Prs H' ts l → Q (.ref q) H'
theorem ok_LastPour_way_down {P : Program} {w : World} {K : PySem.W.Frag} {mg : Str → Option Value} {base : Heap} {A : Ad} {f : Addr} {fd : FuncData} (F : Fun K "way_down" "Pour.way_down" s_LastPour_way_down f fd) (T : Txt K mg A) (C_cut_between : SH.Cal P w K mg base CX0 1 "cut_between" [] (sp_cut_between K A)) : FnOk P w K mg base CX0 2 f fd ["self", "number"] (sp_LastPour_way_down K A) := by
  refine F.ok sc_LastPour_way_down (fun vs H Q E h => by obtain ⟨_, _, _, _, rfl, _⟩ := h; rfl) (fun cdv A' outer s H vs Q E hr h => ?_)
  obtain ⟨R, I, g, n, rfl, ⟨hSt, hn, hfew⟩, k⟩ := h
  refine ⟨_, (pss_cons (ps_set (i := 2) sc_LastPour_way_down.nd rfl (Or.inl rfl) (pe_lst pa_nil))
        (pss_cons (ps_set (i := 3) sc_LastPour_way_down.nd rfl (Or.inl rfl) pe_int)
        (pss_cons (ps_set (i := 4) sc_LastPour_way_down.nd rfl (Or.inl rfl) (pe_callB SH.cLen (by rfl) T.z_len (by decide +kernel) (pa_cons (SH.pe_fldF T.cl_LastPour T.na_LastPour_pieces (pv 0)) pa_nil)))
        (pss_cons (ps_while PassesOwn.never (pt_cmpR SH.oGt (pe_op SH.oSub (pv 4) (pv 3)) pe_int (nomark _)) (pss_cons (ps_expr (pe_bm PySem.F.plainAttrs_list PySem.F.slot_list_append PySem.F.type_list_append mt_append (pv 2) (pa_cons (pe_tup (pa_cons (pv 3) (pa_cons (pv 4) pa_nil))) pa_nil)))
        (pss_cons (ps_set (i := 5) sc_LastPour_way_down.nd rfl (Or.inl rfl) (SH.pe_callF C_cut_between hr (by rfl) pass0 (pa_cons (pv 3) (pa_cons (pv 4) pa_nil))))
        (pss_one (ps_if (pt_cmpR (SH.oLt hr.units0) (pv 1) (pv 5) (nomark _)) (pss_one (ps_set (i := 4) sc_LastPour_way_down.nd rfl (Or.inl rfl) (pv 5))) (pss_one (ps_set (i := 3) sc_LastPour_way_down.nd rfl (Or.inl rfl) (pv 5))))))))
        (pss_one (ps_ret (pv 2))))))), ?_⟩
  walk_at "begin"
  have ho := hSt.ho
  unfold PF at ho
  have hp := hSt.hp
  have hpl : R.pa.length = R.P.length := hSt.hl
  walk_at "rd"
  intro q hq
  have hp1 := upd_old (u := .lst []) hp hq
  walk_at "rd"
  rw [hpl]
  refine r_while (fun m σ H' => ∃ (ts : List V) (l : List (Nat × Nat)) (a c : Nat) (v5 : Option V), m = c - a ∧ Way n 0 R.P.length l a c ∧ Stp [] H H' ∧ H' q = some (.lst ts) ∧ Prs H' ts l ∧ σ = [some (.ref R.o), some (.int n), some (.ref q), some (.int a), some (.int c), v5])
    ⟨_, [], [], 0, R.P.length, _, rfl, .nil, (Stp.refl _ _).new hq, upd_same, ⟨rfl, by intro i x e; simp at e⟩, rfl⟩ ?_
  rintro m σ H1 ⟨ts, l, a, c, v5, rfl, hW, S1, hq1, hts, rfl⟩
  have hin := hW.in (Nat.zero_le _) hn
  walk_at "rd"
  refine r_w (fun hc => ?_) fun hc => ?_
  · refine r_next_turn ?_
    have hlt : a + 1 < c := by omega
    have hcut := cutB_lt hlt
    walk_at "rd"
    intro t ht
    have htq : t ≠ q := (ne_of_none hq1 ht).symm
    walk_at "rd"
    refine v_app (upd_old hq1 ht) (by rw [hts.1]; omega) ?_
    walk_at "rd"
    refine ⟨a, c, rfl, ?_⟩
    walk_at "rd"
    have S2 : Stp [q] H1 (upd (upd H1 t (.tup [.int a, .int c])) q (.lst (ts ++ [.ref t]))) := ((Stp.refl _ _).new ht).putL (by simp) (upd_old hq1 ht)
    have S3 : Stp [] H (upd (upd H1 t (.tup [.int a, .int c])) q (.lst (ts ++ [.ref t]))) := (S1.new ht).putN hq
    have hts2 : Prs (upd (upd H1 t (.tup [.int a, .int c])) q (.lst (ts ++ [.ref t]))) (ts ++ [.ref t]) (l ++ [(a, c)]) := (hts.stp S2).app (x := (a, c)) (upd_far htq upd_same)
    refine r_w (fun hc2 => ?_) fun hc2 => ?_
    · walk_at "rd"
      exact ⟨_, by omega, ts ++ [.ref t], l ++ [(a, c)], a, cutB a c, _, rfl, .left hW hlt (by omega), S3, upd_same, hts2, rfl⟩
    · walk_at "rd"
      exact ⟨_, by omega, ts ++ [.ref t], l ++ [(a, c)], cutB a c, c, _, rfl, .right hW hlt (by omega), S3, upd_same, hts2, rfl⟩
  · walk_at "rd"
    exact k H1 q ts l a c hq hW (by omega) S1 hq1 hts
def sp_LastPour_take (K : PySem.W.Frag) (A : Ad) : Sp := fun vs H Q E => ∃ (R : PR) (I : Ask) (log : List Ent) (g : List Nat) (W : Wt) (top : Fr), vs = [.ref R.o] ∧ (R.At true K A A.LastPour I H log g W ∧ W 0 R.P.length = some top ∧ log.length + I.pre.length + 400 ≤ 100000) ∧
  (∀ x : Nat × Nat, top = some x → Stop I K A H log (fun es => ∃ W' z, TakeR true W x.2 (frt true (R.P.getD x.2 []) (g.getD x.2 0 + 1) x.2) 0 R.P.length es W' z) E) ∧
  (top = none → ∀ H', Stp [] H H' → Q .non H') ∧
  ∀ x : Nat × Nat, top = some x → x.2 < R.P.length → g.getD x.2 0 < (R.P.getD x.2 []).length → ∀ H' es W' z, TakeR true W x.2 (frt true (R.P.getD x.2 []) (g.getD x.2 0 + 1) x.2) 0 R.P.length es W' z → Told I.or log es → Stp (R.M I) H H' → R.At true K A A.LastPour I H' (log ++ es) (g.set x.2 (g.getD x.2 0 + 1)) W' → Q (.int (x.1 : Nat)) H'
theorem ok_LastPour_take {P : Program} {w : World} {K : PySem.W.Frag} {mg : Str → Option Value} {base : Heap} {A : Ad} {f : Addr} {fd : FuncData} (F : Fun K "take" "Pour.take" s_LastPour_take f fd) (T : Txt K mg A) (M_LastPour_front : SH.CalM P w K mg base CX0 1 A.LastPour "front" [] (sp_LastPour_front K A)) (M_LastPour_meeting : SH.CalM P w K mg base (L2N.CX P w) 5 A.LastPour "meeting" [] (sp_LastPour_meeting K A)) (M_LastPour_way_down : SH.CalM P w K mg base CX0 2 A.LastPour "way_down" [] (sp_LastPour_way_down K A)) (C_cut_between : SH.Cal P w K mg base CX0 1 "cut_between" [] (sp_cut_between K A)) : FnOk P w K mg base (L2N.CX P w) 6 f fd ["self"] (sp_LastPour_take K A) := by
  refine SH.okN F sc_LastPour_take (fun vs H Q E h => by obtain ⟨_, _, _, _, _, _, rfl, _⟩ := h; rfl) (fun cdv A' outer s H vs Q E hr h => ?_)
  obtain ⟨R, I, log, g, W, top, rfl, ⟨hR, hz, hlog⟩, kx, k0, k⟩ := h
  refine ⟨_, (pss_cons (ps_set (i := 1) sc_LastPour_take.nd rfl (Or.inl rfl) (pe_dget (hu_of hr) (SH.pe_fldF T.cl_LastPour T.na_LastPour_went_on (pv 0)) (pe_tup (pa_cons pe_int (pa_cons (pe_callB SH.cLen (by rfl) T.z_len (by decide +kernel) (pa_cons (SH.pe_fldF T.cl_LastPour T.na_LastPour_pieces (pv 0)) pa_nil)) pa_nil))) (fun _ _ => rfl)))
        (pss_cons (ps_if (pt_cmpR SH.oIsN (pv 1) pe_non (nomark _)) (pss_one (ps_ret pe_non)) pss_nil)
        (pss_cons (ps_set (i := 2) sc_LastPour_take.nd rfl (Or.inl rfl) (pe_ix SH.ixA (pv 1) pe_int (fun _ _ => rfl)))
        (pss_cons (ps_set (i := 3) sc_LastPour_take.nd rfl (Or.inl rfl) (SH.pe_methF (pv 0) M_LastPour_front hr pass0 (pa_cons (pv 2) (pa_cons (pe_op SH.oAdd (pe_ix SH.ixA (SH.pe_fldF T.cl_LastPour T.na_LastPour_gone (pv 0)) (pv 2) (fun _ _ => rfl)) pe_int) pa_nil))))
        (pss_cons (ps_set (i := 4) sc_LastPour_take.nd rfl (Or.inl rfl) pe_dnewT)
        (pss_cons (ps_dput (hu_of hr) (pv 4) (pe_tup (pa_cons (pv 2) (pa_cons (pe_op SH.oAdd (pv 2) pe_int) pa_nil))) (pv 3) rfl)
        (pss_cons (ps_for (L2.passes_of rfl) rfl (pi_reversed (by rfl) T.z_reversed (pa_cons (SH.pe_methF (pv 0) M_LastPour_way_down hr pass0 (pa_cons (pv 2) pa_nil)) pa_nil)) (pg_tup (by rfl) (pgs_cons (pg_name (i := 5) sc_LastPour_take.nd rfl (Or.inl rfl)) (pgs_cons (pg_name (i := 6) sc_LastPour_take.nd rfl (Or.inl rfl)) pgs_nil))) (pss_cons (ps_set (i := 7) sc_LastPour_take.nd rfl (Or.inl rfl) (SH.pe_callF C_cut_between hr (by rfl) pass0 (pa_cons (pv 5) (pa_cons (pv 6) pa_nil))))
        (pss_cons (ps_if (pt_cmpR (SH.oLt hr.units0) (pv 2) (pv 7) (nomark _)) (pss_one (ps_set (i := 3) sc_LastPour_take.nd rfl (Or.inl rfl) (SH.pe_methF (pv 0) M_LastPour_meeting hr (L2N.passes_call (L2N.takes_of rfl rfl rfl rfl) fun _ _ _ _ h => h) (pa_cons (pv 3) (pa_cons (pe_dget (hu_of hr) (SH.pe_fldF T.cl_LastPour T.na_LastPour_went_on (pv 0)) (pe_tup (pa_cons (pv 7) (pa_cons (pv 6) pa_nil))) (fun _ _ => rfl)) pa_nil))))) (pss_one (ps_set (i := 3) sc_LastPour_take.nd rfl (Or.inl rfl) (SH.pe_methF (pv 0) M_LastPour_meeting hr (L2N.passes_call (L2N.takes_of rfl rfl rfl rfl) fun _ _ _ _ h => h) (pa_cons (pe_dget (hu_of hr) (SH.pe_fldF T.cl_LastPour T.na_LastPour_went_on (pv 0)) (pe_tup (pa_cons (pv 5) (pa_cons (pv 7) pa_nil))) (fun _ _ => rfl)) (pa_cons (pv 3) pa_nil))))))
        (pss_one (ps_dput (hu_of hr) (pv 4) (pe_tup (pa_cons (pv 5) (pa_cons (pv 6) pa_nil))) (pv 3) rfl)))))
        (pss_cons (ps_expr (pe_bm PySem.F.plainAttrs_dict PySem.F.slot_dict_update PySem.F.type_dict_update (SH.mt_updT (hu_of hr)) (SH.pe_fldF T.cl_LastPour T.na_LastPour_went_on (pv 0)) (pa_cons (pv 4) pa_nil)))
        (pss_cons (ps_augS (SH.pe_fldF T.cl_LastPour T.na_LastPour_gone (pv 0)) (pv 2) SH.getL pe_int SH.ip_add' set_list)
        (pss_one (ps_ret (pe_ix SH.ixA (pv 1) pe_int (fun _ _ => rfl))))))))))))), ?_⟩
  walk_at "begin"
  have ho := hR.st.ho
  unfold PF at ho
  have hp := hR.st.hp
  have hpl : R.pa.length = R.P.length := hR.st.hl
  obtain ⟨kvs, hd, hdw, hkn, hkl⟩ := hR.dw
  obtain ⟨v, hv1, hv2⟩ := hdw _ _ _ hz
  walk_at "rd"
  intro q hq
  rw [hpl]
  refine v_dgetI (ks := pk 0 R.P.length) (upd_old hd hq) upd_same hv1 ?_
  have S := (Stp.refl [] H).new (o := .tup [.int (0 : Int), .int (R.P.length : Nat)]) hq
  have hR1 := hR.dT S
  have hd1 := S.keep0 hd
  have hdw1 := hdw.stp S
  have hv2' := hv2.stp S
  generalize upd H q (.tup [.int (0 : Int), .int (R.P.length : Nat)]) = H1 at S hR1 hd1 hdw1 hv2' ⊢
  have ho1 := hR1.st.ho
  unfold PF at ho1
  walk_at "rd"
  cases top with
  | none =>
    cases hv2'
    refine r_wT rfl ?_
    walk_at "rd"
    exact k0 rfl _ S
  | some x =>
  obtain ⟨t, rfl, ht⟩ := hv2'
  refine r_wF (by intro z; cases z) ?_
  clear hv2 hv1 hp ho hd hdw hq k0
  obtain ⟨z0, htre⟩ := hR.tre
  obtain rfl : z0 = some x := by have := htre.at; rw [hz] at this; exact (Option.some.inj this).symm
  obtain ⟨i, _, hi, hfi⟩ := htre.from.resolve_left (by simp)
  have kx := kx x rfl
  obtain ⟨x1, n⟩ := x
  obtain ⟨rfl, ps, hps, hpm, hgl⟩ := frts_mem hfi.symm
  have hpd : R.P.getD n [] = ps := by rw [List.getD_eq_getElem?_getD, hps]; rfl
  have hgn : n < g.length := by rw [hR.st.gl]; exact hi
  walk_at "rd"
  refine v_ixTn (n := 1) (SqT.of ht) rfl rfl ?_
  walk_at "rd"
  have hg1 := hR1.st.hg
  refine v_ixLn (n := n) (v := .int (g.getD n 0 : Nat)) (SqL.of hg1) rfl (by unfold nv; rw [List.getElem?_map, List.getElem?_eq_getElem hgn, List.getD_eq_getElem?_getD, List.getElem?_eq_getElem hgn]; rfl) ?_
  walk_at "rd"
  rw [show ((g.getD n 0 : Nat) : Int) + 1 = ((g.getD n 0 + 1 : Nat) : Int) by omega]
  refine ⟨R, I, g, n, g.getD n 0 + 1, rfl, ⟨hR1.st, hi⟩, fun fv H2 S2 hfv => ?_⟩
  rw [hpd] at hfv
  dsimp only at kx
  rw [hpd] at kx
  generalize hnx : frt true ps (g.getD n 0 + 1) n = nx at hfv kx
  walk_at "rd"
  intro D hD
  walk_at "rd"
  intro kt hkt
  have hDk : kt ≠ D := by rintro rfl; rw [upd_same] at hkt; cases hkt
  refine v_dputT (ks := pk n (n + 1)) (upd_old upd_same hkt) upd_same (by decide) ?_
  have S3 : Stp [] H2 (upd (upd (upd H2 D (.dT [])) kt (.tup [.int n, .int ((n : Nat) + 1)])) D (.dT (putK [] (pk n (n + 1)) fv))) := (((Stp.refl _ _).new hD).new hkt).putN hD
  have hD3 : upd (upd (upd H2 D (.dT [])) kt (.tup [.int n, .int ((n : Nat) + 1)])) D (.dT (putK [] (pk n (n + 1)) fv)) D = some (.dT (putK [] (pk n (n + 1)) fv)) := upd_same
  have hfv3 := hfv.stp S3
  generalize upd (upd (upd H2 D (.dT [])) kt (.tup [.int n, .int ((n : Nat) + 1)])) D (.dT (putK [] (pk n (n + 1)) fv)) = H3 at S3 hD3 hfv3 ⊢
  have S23 := S2.trans S3
  have hR3 := hR1.dT S23
  have hd3 := S23.keep0 hd1
  have hDw3 := hdw1.stp S23
  have hD1 : H1 D = none := S2.dom _ hD
  have hDdd : D ≠ R.dd := by rintro rfl; rw [hd1] at hD1; cases hD1
  have hDo := hR1.ask.freshO hD1
  have hDM := hR1.ask.fresh hD1
  have hDb : D ∉ R.base := fun z => by
    have h1 := hR1.st
    simp only [PR.base, List.mem_cons] at z
    rcases z with z | z | z | z | z
    · rw [z, h1.ho] at hD1; cases hD1
    · rw [z, h1.hp] at hD1; cases hD1
    · rw [z, h1.hg] at hD1; cases hD1
    · rw [z, hd1] at hD1; cases hD1
    · obtain ⟨i, hi⟩ := List.mem_iff_getElem?.mp z
      obtain ⟨ps, _, h2⟩ := h1.ha i _ hi
      rw [h2] at hD1; cases hD1
  clear hkt hDk hfv hD
  have ho3 := hR3.st.ho
  unfold PF at ho3
  walk_at "rd"
  refine ⟨R, I, g, n, rfl, ⟨hR3.st, hi, hR.pcs.few⟩, fun H4 wq ts l a c hwq hW hac S4 hwq4 hts => ?_⟩
  have hin := hW.in (Nat.zero_le _) hi
  have hll : l.length ≤ 300 := by have := hR.pcs.few; omega
  have hR4 := hR3.dT S4
  have hd4 := S4.keep0 hd3
  have hDw4 := hDw3.stp S4
  have hD4 := S4.keep0 hD3
  have hfv4 := hfv3.stp S4
  have hwD : wq ≠ D := (ne_of_none hD3 hwq).symm
  have nwo : wq ∉ R.base ∧ wq ∉ I.own := by
    refine ⟨fun z => ?_, hR3.ask.freshO hwq⟩
    have h1 := hR3.st
    simp only [PR.base, List.mem_cons] at z
    rcases z with z | z | z | z | z
    · rw [z, h1.ho] at hwq; cases hwq
    · rw [z, h1.hp] at hwq; cases hwq
    · rw [z, h1.hg] at hwq; cases hwq
    · rw [z, hd3] at hwq; cases hwq
    · obtain ⟨i, hi⟩ := List.mem_iff_getElem?.mp z
      obtain ⟨ps, _, h2⟩ := h1.ha i _ hi
      rw [h2] at hwq; cases hwq
  have S14 : Stp [] H1 H4 := (S2.trans S3).trans S4
  clear S4 hwq hR3 hd3 hDw3 hD3 hfv3
  have ec : c = a + 1 := by omega
  have ea : n = a := by omega
  subst ec
  subst ea
  walk_at "rd"
  refine for_it (walk_rev (xs := ts)) (fun j σ H' => ∃ (a c : Nat) (l1 : List (Nat × Nat)) (es : List Ent) (W1 : Wt) (z : Fr) (u : V) (more : List (List Key × V)) (v5 v6 v7 : Option V), l1 = l.take (l.length - j) ∧ Way n 0 R.P.length l1 a c ∧ TakeR true W n nx a c es W1 z ∧ Told I.or log es ∧ es.length ≤ j ∧ more.length ≤ j + 1 ∧ Stp (D :: I.M) H4 H' ∧ R.At true K A A.LastPour I H' (log ++ es) g W ∧ H' R.dd = some (.dT kvs) ∧ H' D = some (.dT more) ∧ Anew H' W W1 more ∧ (∀ p ∈ more, ∃ a' c', p.1 = pk a' c' ∧ a ≤ a' ∧ c' ≤ c) ∧ H' wq = some (.lst ts) ∧ frV H' u z ∧
      σ = [some (.ref R.o), some (.ref t), some (.int n), some u, some (.ref D), v5, v6, v7])
    ⟨n, n + 1, l, [], putW W n (n + 1) nx, nx, fv, _, _, _, _, by simp, hW, .one, True.intro, Nat.le_refl _, by simpa using length_putK [] (pk n (n + 1)) fv, .refl _ _, by rw [List.append_nil]; exact hR4, hd4, hD4, Anew.nil.put hfv4 (.inr True.intro) (by simp), fun p hp => ?_, hwq4, hfv4, rfl⟩ (fun _ _ _ _ ⟨_, _, _, _, _, _, _, _, _, _, _, _, _, _, _, _, _, _, _, _, _, _, _, h, _⟩ => SqL.of h) ?_ ?_
  · rcases mem_putK hp with rfl | hp
    · exact ⟨_, _, rfl, Nat.le_refl _, Nat.le_refl _⟩
    · cases hp
  · rintro j y σ H5 H6 hj ⟨a, c, l1, es, W1, z, u, more, v5, v6, v7, rfl, hW1, hTk, hT, hel, hml, S5, hR5, hd5, hD5, hAn, hAk, hw5, hu, rfl⟩ ⟨rfl, hy⟩
    have hjl : j < l.length := by rw [← hts.1]; exact hj
    obtain ⟨y', hy'⟩ : ∃ y', l[l.length - 1 - j]? = some y' := ⟨_, List.getElem?_eq_getElem (by omega)⟩
    obtain ⟨yt, hyt1, hyt2⟩ := hts.2 _ _ hy'
    rw [hts.1, hyt1] at hy
    cases hy
    have hyt5 := S5.tup hyt2
    have etk : l.take (l.length - j) = l.take (l.length - (j + 1)) ++ [y'] := by
      have : l.length - j = (l.length - 1 - j) + 1 := by omega
      rw [this, List.take_succ, hy', show l.length - (j + 1) = l.length - 1 - j by omega]
      rfl
    rw [etk] at hW1
    obtain ⟨hW2, hlt, hcase⟩ := hW1.last
    obtain ⟨a2, c2⟩ := y'
    dsimp only at hW2 hlt hcase hyt5
    have hcut := cutB_lt hlt
    have hin2 := hW2.in (Nat.zero_le _) hi
    obtain ⟨zz, htre2⟩ := htre.sub hW2
    obtain ⟨kx', ky, hk1, hk2⟩ := htre2.kids hlt
    have ho5 := hR5.st.ho
    unfold PF at ho5
    have hDw5 := hDw4.stp S5
    have S05 : Stp I.M H H6 := ((S.trans S14).mono (M' := I.M) (by simp)).then S5 fun m hm => by
      rcases List.mem_cons.mp hm with rfl | hm
      · exact .inr (S.dom _ hD1)
      · exact .inl hm
    have hTk' := hTk
    have hin3 := hW1.in (Nat.zero_le _) hi
    have hts1 : Tre true (frts true R.P (g.set n (g.getD n 0 + 1))) W1 (log ++ es) a c z := by
      obtain ⟨z3, t3⟩ := htre.sub hW1
      rw [frts_set hgn, hpd, hnx]
      exact hTk.tre0 t3
    walk_at "rd"
    refine ⟨a2, c2, rfl, ?_⟩
    walk_at "rd"
    refine r_wJ (W := fun σ' H' => ∃ (e2 : List Ent) (z2 : Fr) (u2 : V), TakeR true W n nx a2 c2 (es ++ e2) (putW W1 a2 c2 z2) z2 ∧ Told I.or (log ++ es) e2 ∧ e2.length ≤ 1 ∧ Stp I.M H6 H' ∧ I.At K A H' (log ++ es ++ e2) ∧ frV H' u2 z2 ∧
      σ' = [some (.ref R.o), some (.ref t), some (.int n), some u2, some (.ref D), some (.int a2), some (.int c2), some (.int (cutB a2 c2 : Nat))]) ?_ (fun hc N hN => ?_) (fun hc N hN => ?_)
    · rintro σ' H7 ⟨e2, z2, u2, hTk2, hT2, he2, S7, hA7, hu2, rfl⟩
      dsimp only
      have hD7 := S7.keep hD5 hDM
      have hd7 := S7.keep hd5 hR5.st.dM
      have hR7 := hR5.more S7 hA7 fun e he => by simp only [List.mem_append] at he ⊢; exact .inl he
      walk_at "rd"
      intro kt hkt
      refine v_dputT (ks := pk a2 c2) (upd_old hD7 hkt) upd_same (by omega) ?_
      walk_at "rd"
      have S8 : Stp [D] H7 (upd (upd H7 kt (.tup [.int a2, .int c2])) D (.dT (putK more (pk a2 c2) u2))) := ((Stp.refl _ _).new hkt).putM (by simp) (upd_old hD7 hkt) (fun z => z)
      have hl := length_putK more (pk a2 c2) u2
      refine ⟨a2, c2, l.take (l.length - (j + 1)), es ++ e2, putW W1 a2 c2 z2, z2, u2, putK more (pk a2 c2) u2, _, _, _, rfl, hW2, hTk2, Told.app hT hT2, by rw [List.length_append]; omega, by omega, (S5.trans (S7.mono fun b hb => List.mem_cons_of_mem _ hb)).trans (S8.mono (by simp)), ?_, ?_, upd_same, ((hAn.stp S7).stp S8).put (hu2.stp S8) (.inr True.intro) ?_, ?_, ?_, hu2.stp S8, rfl⟩
      · rw [List.append_assoc] at hR7
        exact hR7.stp S8 (by intro m hm; rw [List.mem_singleton] at hm; subst hm; exact ⟨hDb, hDo⟩)
      · exact S8.keep1 hd7 hDdd.symm
      · intro p hp z
        obtain ⟨a', c', q1, q2, q3⟩ := hAk p hp
        rw [q1] at z
        obtain ⟨rfl, rfl⟩ := pk_inj.mp z
        omega
      · intro p hp
        rcases mem_putK hp with rfl | hp
        · exact ⟨_, _, rfl, Nat.le_refl _, Nat.le_refl _⟩
        · obtain ⟨a', c', q1, q2, q3⟩ := hAk p hp
          exact ⟨a', c', q1, by omega, by omega⟩
      · exact S8.keep1 (S7.keep hw5 fun z => nwo.2 (Ask.Mown z)) hwD
    · obtain ⟨hn2, ea, ec⟩ := hcase.resolve_right (fun z => by omega)
      subst ea
      subst ec
      obtain ⟨w, hw1, hw2⟩ := hDw5 _ _ _ hk2.at
      walk_at "rd"
      intro kt hkt
      refine v_dgetI (ks := pk (cutB a c2) c2) (upd_old hd5 hkt) upd_same hw1 ?_
      have S6 := (Stp.refl [] H6).new (o := .tup [.int (cutB a c2 : Nat), .int (c2 : Nat)]) hkt
      refine ⟨R, I, g, log ++ es, u, w, z, ky, rfl, ⟨(hR5.dT S6).st, (hR5.dT S6).ask, hu.stp S6, hw2.stp S6, fun x y ex ey => ?_, by simp only [List.length_append]; omega⟩, StopM.toS (kx.toM.sub (S05.trans (S6.mono (by simp))) (fun m hm => .inl hm) hT (fun es2 ⟨z2, hm⟩ hT2 => by
        obtain ⟨es', W', z', hk', hT'⟩ := TakeR.up I.or htre hW2 (lg := log ++ es ++ es2) (.left hlt hn2 hTk hk2.at hm)
        exact ⟨es', hT', W', z', hk'⟩)), fun H7 e2 z2 u2 hm hT2 S7 hA7 hz2 => ?_⟩
      · subst ex ey
        exact hts1.two hR.pcs hk2 (Nat.le_refl _)
      · walk_at "rd"
        exact hN _ _ ⟨e2, z2, u2, .left hlt hn2 hTk hk2.at hm, hT2, hm.few.1, (S6.mono (by simp)).trans S7, hA7, hz2, rfl⟩
    · obtain ⟨hn2, ea, ec⟩ := hcase.resolve_left (fun z => by omega)
      subst ea
      subst ec
      obtain ⟨w, hw1, hw2⟩ := hDw5 _ _ _ hk1.at
      walk_at "rd"
      intro kt hkt
      refine v_dgetI (ks := pk a2 (cutB a2 c)) (upd_old hd5 hkt) upd_same hw1 ?_
      have S6 := (Stp.refl [] H6).new (o := .tup [.int (a2 : Nat), .int (cutB a2 c : Nat)]) hkt
      walk_at "rd"
      refine ⟨R, I, g, log ++ es, w, u, kx', z, rfl, ⟨(hR5.dT S6).st, (hR5.dT S6).ask, hw2.stp S6, hu.stp S6, fun x y ex ey => ?_, by simp only [List.length_append]; omega⟩, StopM.toS (kx.toM.sub (S05.trans (S6.mono (by simp))) (fun m hm => .inl hm) hT (fun es2 ⟨z2, hm⟩ hT2 => by
        obtain ⟨es', W', z', hk', hT'⟩ := TakeR.up I.or htre hW2 (lg := log ++ es ++ es2) (.right hlt hn2 hTk hk1.at hm)
        exact ⟨es', hT', W', z', hk'⟩)), fun H7 e2 z2 u2 hm hT2 S7 hA7 hz2 => ?_⟩
      · subst ex ey
        exact hk1.two hR.pcs hts1 (Nat.le_refl _)
      · walk_at "rd"
        exact hN _ _ ⟨e2, z2, u2, .right hlt hn2 hTk hk1.at hm, hT2, hm.few.1, (S6.mono (by simp)).trans S7, hA7, hz2, rfl⟩
  · rintro σ H5 ⟨a, c, l1, es, W1, z, u, more, v5, v6, v7, rfl, hW1, hTk, hT, hel, hml, S5, hR5, hd5, hD5, hAn, hAk, hw5, hu, rfl⟩
    rw [hts.1, Nat.sub_self, List.take_zero] at hW1
    obtain ⟨rfl, rfl⟩ : a = 0 ∧ c = R.P.length := by
      generalize hz : ([] : List (Nat × Nat)) = m at hW1
      cases hW1 with
      | nil => exact ⟨rfl, rfl⟩
      | left => simp at hz
      | right => simp at hz
    have ho5 := hR5.st.ho
    unfold PF at ho5
    have hDw5 := hDw4.stp S5
    have hleft : 1 ≤ R.left g := by
      have h1 := sum_le (g := g.set n (g.getD n 0 + 1)) (by rw [List.length_set]; exact hR.st.gl) fun i => by
        rw [getD_set hgn]
        split
        · rename_i e; subst e; rw [hpd]; exact hgl
        · exact hR.gle i
      rw [sum_set hgn] at h1
      unfold PR.left
      omega
    rw [hts.1] at hel hml
    have hmk := mergK_len more kvs
    walk_at "rd"
    refine ⟨ty_dT hd5, ?_⟩
    walk_at "rd"
    refine w_upd hd5 hD5 hDdd.symm hkn (by omega) ?_
    walk_at "rd"
    have S6 : Stp [R.dd] H5 (upd H5 R.dd (.dT (mergK kvs more))) := (Stp.refl _ _).putM (by simp) hd5 (fun z => z)
    have hSt6 := hR5.st.stp S6 (by intro m hm; rw [List.mem_singleton] at hm; subst hm; exact hR5.st.dd_ne hd5)
    have hd6 : upd H5 R.dd (.dT (mergK kvs more)) R.dd = some (.dT (mergK kvs more)) := upd_same
    have hDw6 := (hDw5.merge hAn).stp S6
    have hA6 := hR5.ask.stp S6 (by intro m hm; rw [List.mem_singleton] at hm; subst hm; exact hR5.st.own _ (by simp))
    generalize upd H5 R.dd (.dT (mergK kvs more)) = H6 at S6 hSt6 hd6 hDw6 hA6 ⊢
    have ho6 := hSt6.ho
    unfold PF at ho6
    have hg6 := hSt6.hg
    walk_at "rd"
    refine v_getL (n := n) hg6 rfl (by have := hR.pcs.few; omega) (v := .int (g.getD n 0 : Nat)) (by unfold nv; rw [List.getElem?_map, List.getElem?_eq_getElem hgn, List.getD_eq_getElem?_getD, List.getElem?_eq_getElem hgn]; rfl) ?_
    walk_at "rd"
    refine v_setL (n := n) hg6 rfl (by rw [List.length_map]; exact hgn) ?_
    rw [show ((g.getD n 0 : Nat) : Int) + 1 = ((g.getD n 0 + 1 : Nat) : Int) by omega, show (nv g).set n (.int ((g.getD n 0 + 1 : Nat) : Int)) = nv (g.set n (g.getD n 0 + 1)) by unfold nv; rw [List.map_set]]
    walk_at "rd"
    have S7 : Stp [R.gg] H6 (upd H6 R.gg (.lst (nv (g.set n (g.getD n 0 + 1))))) := (Stp.refl _ _).putL (by simp) hg6
    have hg7 : upd H6 R.gg (.lst (nv (g.set n (g.getD n 0 + 1)))) R.gg = some (.lst (nv (g.set n (g.getD n 0 + 1)))) := upd_same
    have ht7 := S7.tup (S6.tup (S5.tup (S14.tup ht)))
    refine v_ixTn (n := 0) (SqT.of ht7) rfl rfl ?_
    have nggd : R.dd ≠ R.gg := ne_of hd6 hg6 (by intro z; cases z)
    have hggo : R.gg ∉ I.own := hSt6.own _ (by simp)
    have hlf : R.left (g.set n (g.getD n 0 + 1)) + 1 = R.left g := by
      unfold PR.left at hleft ⊢
      rw [sum_set hgn]
      omega
    rw [← hpd] at hnx
    refine k (x1, n) rfl hi (by rw [hpd]; exact hgl) _ es W1 z (by rw [hnx]; exact hTk) hT ?_ ⟨⟨?_, ?_, fun i a e => ?_, hSt6.hl, hg7, by rw [List.length_set]; exact hSt6.gl, hSt6.own, hSt6.n1, hSt6.n2⟩, hA6.stp S7 (by intro m hm; rw [List.mem_singleton] at hm; subst hm; exact hggo), hR.pcs, fun i => ?_, ⟨_, S7.keep1 hd6 nggd, hDw6.stp S7, ?_, ?_⟩, ⟨z, ?_⟩⟩
    · refine (S.mono (M' := R.M I) (by simp)).trans ?_
      have T1 : Stp (R.M I) H1 H4 := (S14.mono (by simp))
      have T2 : Stp (R.M I) H1 H5 := T1.then S5 fun m hm => by
        rcases List.mem_cons.mp hm with rfl | hm
        · exact .inr hD1
        · exact .inl (List.mem_cons_of_mem _ (List.mem_cons_of_mem _ hm))
      exact (T2.trans (S6.mono (by simp [PR.M]))).trans (S7.mono (by simp [PR.M]))
    · exact S7.keep1 hSt6.ho (ne_of hSt6.ho hg6 (by intro z; cases z))
    · exact S7.keep1 hSt6.hp hSt6.n1.symm
    · obtain ⟨qs, q1, q2⟩ := hSt6.ha i a e
      exact ⟨qs, q1, S7.keep1 q2 (hSt6.n2 a (List.mem_of_getElem? e))⟩
    · rw [getD_set hgn]
      split
      · rename_i e; subst e; rw [hpd]; exact hgl
      · exact hR.gle i
    · intro e
      have := hDw6 _ _ _ (hTk.tre0 htre).at
      rw [e] at this
      obtain ⟨_, q, _⟩ := this
      cases q
    · show (mergK kvs more).length + 400 * R.left (g.set n (g.getD n 0 + 1)) ≤ 900000
      omega
    · have t3 := hTk.tre0 htre
      rw [← hnx, ← frts_set hgn] at t3
      exact t3
def sp__law_cell_at (K : PySem.W.Frag) (A : Ad) : Sp := fun vs H Q _ => ∃ (a : Addr) (ns : List Int) (k : Nat), vs = [.ref a, .int k] ∧ SqL K H a (ns.map V.int) ∧ ∀ c : Int, Q (.int c) H
theorem ok__law_cell_at {P : Program} {w : World} {K : PySem.W.Frag} {mg : Str → Option Value} {base : Heap} {A : Ad} {f : Addr} {fd : FuncData} (F : Fun K "_law_cell_at" "_law_cell_at" s__law_cell_at f fd) (T : Txt K mg A)  : FnOk P w K mg base CX0 1 f fd ["_law_script", "_law_k"] (sp__law_cell_at K A) := by
  refine F.ok sc__law_cell_at (fun vs H Q E h => by obtain ⟨_, _, _, rfl, _⟩ := h; rfl) (fun cdv A' outer s H vs Q E hr h => ?_)
  obtain ⟨a, ns, i, rfl, hS, k⟩ := h
  refine ⟨_, (pss_cons (ps_if (pt_cmpR (SH.oLt hr.units0) (pv 1) (pe_callB SH.cLen (by rfl) T.z_len (by decide +kernel) (pa_cons (pv 0) pa_nil)) (nomark _)) (pss_one (ps_ret (pe_ix SH.ixA (pv 0) (pv 1) (fun _ _ => rfl)))) pss_nil)
        (pss_one (ps_ret pe_int))), ?_⟩
  walk_at "begin"
  walk_at "rd"
  refine r_w (fun hc => ?_) fun hc => ?_
  · walk_at "rd"
    refine v_ixE (n := i) (by walk_at "sq") rfl (by omega) ?_
    walk_at "rd"
    exact k _
  · walk_at "rd"
    exact k _
/-! ### keys: any ints, not too many -/
def sp__law_stream (K : PySem.W.Frag) (A : Ad) : Sp := fun vs H Q _ => ∃ (c : Int) (n : Nat), vs = [.int c, .int n] ∧ n ≤ 1000 ∧
  ∀ (q : Addr) (H' : Hp) (ms : List Int), H q = none → Stp [] H H' → H' q = some (.lst (ms.map V.int)) → ms.length = n → (∀ m ∈ ms, 0 ≤ m) → Q (.ref q) H'
theorem ok__law_stream {P : Program} {w : World} {K : PySem.W.Frag} {mg : Str → Option Value} {base : Heap} {A : Ad} {f : Addr} {fd : FuncData} (F : Fun K "_law_stream" "_law_stream" s__law_stream f fd) (T : Txt K mg A)  : FnOk P w K mg base CX0 1 f fd ["_law_cell", "_law_many"] (sp__law_stream K A) := by
  refine F.ok sc__law_stream (fun vs H Q E h => by obtain ⟨_, _, rfl, _⟩ := h; rfl) (fun cdv A' outer s H vs Q E hr h => ?_)
  obtain ⟨c, n, rfl, hn, k⟩ := h
  refine ⟨_, (pss_cons (ps_set (i := 2) sc__law_stream.nd rfl (Or.inl rfl) (pe_lst pa_nil))
        (pss_cons (ps_set (i := 3) sc__law_stream.nd rfl (Or.inl rfl) (pe_op SH.oMod (pv 0) pe_int))
        (pss_cons (ps_for PassesOwn.never rfl (pi_range1 (by rfl) T.z_range (pa_cons (pv 1) pa_nil)) (pg_name (i := 4) sc__law_stream.nd rfl (Or.inl rfl)) (pss_cons (ps_set (i := 3) sc__law_stream.nd rfl (Or.inl rfl) (pe_op SH.oMod (pe_op SH.oAdd (pe_op SH.oAdd (pe_op SH.oAdd (pe_op SH.oMul (pv 3) (pv 3)) (pe_op SH.oMul pe_int (pv 3))) (pe_op SH.oMul pe_int (pv 4))) pe_int) pe_int))
        (pss_one (ps_expr (pe_bm PySem.F.plainAttrs_list PySem.F.slot_list_append PySem.F.type_list_append mt_append (pv 2) (pa_cons (pv 3) pa_nil))))))
        (pss_one (ps_ret (pv 2)))))), ?_⟩
  walk_at "begin"
  walk_at "rd"
  intro q hq
  walk_at "rd"
  refine for_it walk_range (fun j σ H' => (∃ ms : List Int, ms.length = j ∧ (∀ m ∈ ms, 0 ≤ m) ∧ H' = upd H q (.lst (ms.map V.int))) ∧ ∃ (x : Int) (v4 : Option V), (0 ≤ x ∧ x < 4294967296) ∧ σ = [some (.int c), some (.int n), some (.ref q), some (.int x), v4]) ⟨⟨[], rfl, by simp, rfl⟩, _, _, ⟨by omega, by omega⟩, rfl⟩ (fun _ _ _ _ _ => True.intro) ?_ ?_
  · rintro j x σ H2 H3 hj ⟨⟨ms, hl', h00, rfl⟩, x', v4, ⟨h0, h1⟩, rfl⟩ ⟨rfl, rfl⟩
    walk_at "rd"
    refine v_app (xs := ms.map V.int) upd_same (by rw [List.length_map]; omega) ?_
    walk_at "rd"
    refine ⟨⟨ms ++ [_], by simp [hl'], ?_, by rw [upd_upd, List.map_append]; rfl⟩, _, _, ⟨by omega, by omega⟩, rfl⟩
    intro m hm
    rcases List.mem_append.mp hm with hm | hm
    · exact h00 m hm
    · rw [List.mem_singleton] at hm; omega
  · rintro σ H2 ⟨⟨ms, hl', h00, rfl⟩, x', v4, _, rfl⟩
    walk_at "rd"
    exact k q _ ms hq ((Stp.refl _ _).new hq) upd_same (by omega) h00

def sp__law_digits (K : PySem.W.Frag) (A : Ad) : Sp := fun vs H Q _ => ∃ (a : Addr) (ns : List Int) (k : Nat) (b : Int), vs = [.ref a, .int k, .int b] ∧ (SqL K H a (ns.map V.int) ∧ 0 < b ∧ b < 1073741824) ∧
  ∀ (q : Addr) (H' : Hp) (ms : List Int), H q = none → Stp [] H H' → H' q = some (.lst (ms.map V.int)) → ms.length = 120 → (∀ m ∈ ms, 0 ≤ m ∧ m < b) → Q (.ref q) H'
theorem ok__law_digits {P : Program} {w : World} {K : PySem.W.Frag} {mg : Str → Option Value} {base : Heap} {A : Ad} {f : Addr} {fd : FuncData} (F : Fun K "_law_digits" "_law_digits" s__law_digits f fd) (T : Txt K mg A) (C__law_cell_at : SH.Cal P w K mg base CX0 1 "_law_cell_at" [] (sp__law_cell_at K A)) (C__law_stream : SH.Cal P w K mg base CX0 1 "_law_stream" [] (sp__law_stream K A)) : FnOk P w K mg base CX0 2 f fd ["_law_script", "_law_k", "_law_base"] (sp__law_digits K A) := by
  refine F.ok sc__law_digits (fun vs H Q E h => by obtain ⟨_, _, _, _, rfl, _⟩ := h; rfl) (fun cdv A' outer s H vs Q E hr h => ?_)
  obtain ⟨a, ns, k0, b, rfl, ⟨hS, hb, hb2⟩, k⟩ := h
  refine ⟨_, (pss_cons (ps_set (i := 3) sc__law_digits.nd rfl (Or.inl rfl) (SH.pe_callF C__law_stream hr (by rfl) pass0 (pa_cons (pe_op SH.oAdd (pe_callB (cr_sum rfl) (by rfl) T.z_sum (by decide +kernel) (pa_cons (pv 0) pa_nil)) (pv 1)) (pa_cons pe_int pa_nil))))
        (pss_cons (ps_set (i := 4) sc__law_digits.nd rfl (Or.inl rfl) (pe_lst pa_nil))
        (pss_cons (ps_for PassesOwn.never rfl (pi_list (pe_lst (pa_cons (SH.pe_callF C__law_cell_at hr (by rfl) pass0 (pa_cons (pv 0) (pa_cons (pv 1) pa_nil))) (pa_cons (SH.pe_callF C__law_cell_at hr (by rfl) pass0 (pa_cons (pv 0) (pa_cons (pe_op SH.oAdd (pv 1) pe_int) pa_nil))) pa_nil)))) (pg_name (i := 5) sc__law_digits.nd rfl (Or.inl rfl)) (pss_one (ps_for PassesOwn.never rfl (pi_range1 (by rfl) T.z_range (pa_cons pe_int pa_nil)) (pg_name (i := 6) sc__law_digits.nd rfl (Or.inl rfl)) (pss_cons (ps_if (pt_cmpR (SH.oLt hr.units0) (pv 5) pe_int (nomark _)) (pss_one (ps_set (i := 5) sc__law_digits.nd rfl (Or.inl rfl) (pe_ix SH.ixA (pv 3) (pe_callB SH.cLen (by rfl) T.z_len (by decide +kernel) (pa_cons (pv 4) pa_nil)) (fun _ _ => rfl)))) pss_nil)
        (pss_cons (ps_expr (pe_bm PySem.F.plainAttrs_list PySem.F.slot_list_append PySem.F.type_list_append mt_append (pv 4) (pa_cons (pe_op SH.oMod (pv 5) (pv 2)) pa_nil)))
        (pss_one (ps_set (i := 5) sc__law_digits.nd rfl (Or.inl rfl) (pe_op SH.oDiv (pv 5) (pv 2)))))))))
        (pss_one (ps_ret (pv 4)))))), ?_⟩
  walk_at "begin"
  walk_at "rd"
  refine v_sum hS ?_
  walk_at "rd"
  refine ⟨_, 120, rfl, by omega, fun st H1 ms hst S1 hSt hml hm0 => ?_⟩
  walk_at "rd"
  intro D hD
  have hD0 : H D = none := S1.dom _ hD
  walk_at "rd"
  refine ⟨a, ns, k0, rfl, by walk_at "sq", fun c1 => ?_⟩
  walk_at "rd"
  refine ⟨a, ns, k0 + 1, rfl, by walk_at "sq", fun c2 => ?_⟩
  walk_at "rd"
  intro l hl
  walk_at "rd"
  have hlD : l ≠ D := by rintro rfl; rw [upd_same] at hl; cases hl
  have hst2 : SqL K (upd (upd H1 D (.lst [])) l (.lst [.int c1, .int c2])) st (ms.map V.int) := sql_upd (sql_upd (SqL.of hSt) hD) hl
  have hstD : st ≠ D := by rintro rfl; rw [hSt] at hD; cases hD
  refine for_it (walk_list (xs := [.int c1, .int c2])) (fun j σ H' => Stp [] H H' ∧ SqL K H' l [.int c1, .int c2] ∧ SqL K H' st (ms.map V.int) ∧ (∃ fs : List Int, fs.length = 60 * j ∧ (∀ m ∈ fs, 0 ≤ m ∧ m < b) ∧ H' D = some (.lst (fs.map V.int))) ∧ ∃ v5 v6, σ = [some (.ref a), some (.int k0), some (.int b), some (.ref st), some (.ref D), v5, v6])
    ⟨(S1.new hD).new hl, SqL.of upd_same, hst2, ⟨[], rfl, by simp, upd_old upd_same hl⟩, _, _, rfl⟩ (fun _ _ _ _ z => z.2.1) ?_ ?_
  · rintro j x σ H2 H3 hj ⟨S, hl2, hst2, ⟨fs, hfl, hfb, hL⟩, v5, v6, rfl⟩ ⟨rfl, hx⟩
    have hj2 : j < 2 := hj
    have hxi : ∃ c, x = .int c := by
      rcases j with _ | _ | j
      · cases hx; exact ⟨_, rfl⟩
      · cases hx; exact ⟨_, rfl⟩
      · omega
    obtain ⟨c, rfl⟩ := hxi
    walk_at "rd"
    refine for_it walk_range (fun i σ H' => Stp [] H H' ∧ SqL K H' l [.int c1, .int c2] ∧ SqL K H' st (ms.map V.int) ∧ (∃ fs : List Int, fs.length = 60 * j + i ∧ (∀ m ∈ fs, 0 ≤ m ∧ m < b) ∧ H' D = some (.lst (fs.map V.int))) ∧ ∃ (c : Int) (v6 : Option V), σ = [some (.ref a), some (.int k0), some (.int b), some (.ref st), some (.ref D), some (.int c), v6])
      ⟨S, hl2, hst2, ⟨fs, by omega, hfb, hL⟩, _, _, rfl⟩ (fun _ _ _ _ _ => True.intro) ?_ ?_
    · rintro i x σ H4 H5 hi ⟨S, hl2, hst2, ⟨fs, hfl, hfb, hL⟩, c, v6, rfl⟩ ⟨rfl, rfl⟩
      walk_at "rd"
      refine r_wJ (W := fun σ H' => H' = H5 ∧ ∃ c : Int, σ = [some (.ref a), some (.int k0), some (.int b), some (.ref st), some (.ref D), some (.int c), some (.int (0 + (i : Nat)))]) ?_ (fun hc N hN => ?_) (fun hc N hN => ?_)
      · rintro σ H6 ⟨rfl, c, rfl⟩
        dsimp only
        walk_at "rd"
        refine v_app hL (by rw [List.length_map]; omega) ?_
        walk_at "rd"
        have m0 := Int.emod_nonneg c (show b ≠ 0 by omega)
        have m1 := Int.emod_lt_of_pos c hb
        refine ⟨S.putN hD0, sql_far hl2 hlD, sql_far hst2 hstD, ⟨fs ++ [c % b], by simp [hfl]; omega, fun m hm => ?_, by rw [upd_same, List.map_append]; rfl⟩, _, _, rfl⟩
        rcases List.mem_append.mp hm with hm | hm
        · exact hfb m hm
        · rw [List.mem_singleton] at hm; subst hm; exact ⟨m0, m1⟩
      · walk_at "rd"
        refine v_ixE (n := fs.length) hst2 rfl (by omega) ?_
        walk_at "rd"
        exact hN _ _ ⟨rfl, _, rfl⟩
      · walk_at "rd"
        exact hN _ _ ⟨rfl, _, rfl⟩
    · rintro σ H4 ⟨S, hl2, hst2, ⟨fs, hfl, hfb, hL⟩, c, v6, rfl⟩
      walk_at "rd"
      exact ⟨S, hl2, hst2, ⟨fs, by rw [hfl]; show 60 * j + 60 = _; omega, hfb, hL⟩, _, _, rfl⟩
  · rintro σ H2 ⟨S, hl2, hst2, ⟨fs, hfl, hfb, hL⟩, v5, v6, rfl⟩
    walk_at "rd"
    exact k D _ fs hD0 S hL hfl hfb

def sp__law_blocks (K : PySem.W.Frag) (A : Ad) : Sp := fun vs H Q _ => ∃ (a : Addr) (ns : List Int) (c : Int), vs = [.ref a, .int c] ∧ (SqL K H a (ns.map V.int) ∧ ns.length ≤ 200) ∧
  ∀ (q : Addr) (H' : Hp) (ms : List Int), H q = none → Stp [] H H' → H' q = some (.lst (ms.map V.int)) → ms.length ≤ ns.length → Q (.ref q) H'
theorem ok__law_blocks {P : Program} {w : World} {K : PySem.W.Frag} {mg : Str → Option Value} {base : Heap} {A : Ad} {f : Addr} {fd : FuncData} (F : Fun K "_law_blocks" "_law_blocks" s__law_blocks f fd) (T : Txt K mg A) (C__law_stream : SH.Cal P w K mg base CX0 1 "_law_stream" [] (sp__law_stream K A)) : FnOk P w K mg base CX0 2 f fd ["_law_keys_here", "_law_cell"] (sp__law_blocks K A) := by
  refine F.ok sc__law_blocks (fun vs H Q E h => by obtain ⟨_, _, _, rfl, _⟩ := h; rfl) (fun cdv A' outer s H vs Q E hr h => ?_)
  obtain ⟨a, ns, c, rfl, ⟨hS, hl⟩, k⟩ := h
  refine ⟨_, (pss_cons (ps_set (i := 2) sc__law_blocks.nd rfl (Or.inl rfl) (pe_lst pa_nil))
        (pss_cons (ps_for PassesOwn.never rfl (pi_list (SH.pe_callF C__law_stream hr (by rfl) pass0 (pa_cons (pv 1) (pa_cons (pe_callB SH.cLen (by rfl) T.z_len (by decide +kernel) (pa_cons (pv 0) pa_nil)) pa_nil)))) (pg_name (i := 3) sc__law_blocks.nd rfl (Or.inl rfl)) (pss_cons (ps_set (i := 4) sc__law_blocks.nd rfl (Or.inl rfl) (pe_callB cr_sortedI (by rfl) T.z_sorted (by decide +kernel) (pa_cons (pe_slice sl_list (pv 0) (po_some (pe_callB SH.cLen (by rfl) T.z_len (by decide +kernel) (pa_cons (pv 2) pa_nil))) (po_some (pe_op SH.oAdd (pe_op SH.oAdd (pe_callB SH.cLen (by rfl) T.z_len (by decide +kernel) (pa_cons (pv 2) pa_nil)) pe_int) (pe_op SH.oMod (pv 3) pe_int)))) pa_nil)))
        (pss_cons (ps_if (pt_cmpR (SH.oEq hr.units) (pe_op SH.oMod (pe_op SH.oDiv (pv 3) pe_int) pe_int) pe_int (nomark _)) (pss_one (ps_expr (pe_bm0 PySem.F.plainAttrs_list PySem.F.slot_list_reverse PySem.F.type_list_reverse mt_reverse (pv 4)))) pss_nil)
        (pss_one (ps_set (i := 2) sc__law_blocks.nd rfl (Or.inl rfl) (pe_op SH.oAdd (pv 2) (pv 4)))))))
        (pss_one (ps_ret (pv 2))))), ?_⟩
  walk_at "begin"
  walk_at "rd"
  intro r hr
  walk_at "rd"
  refine ⟨c, ns.length, rfl, by omega, fun st H1 ms hst S1 hSt hml hm0 => ?_⟩
  walk_at "rd"
  refine for_it (walk_list (xs := ms.map V.int)) (fun j σ H' => Stp [] H H' ∧ SqL K H' st (ms.map V.int) ∧ ∃ (r : Addr) (ks : List Int) (v3 v4 : Option V), H r = none ∧ H' r = some (.lst (ks.map V.int)) ∧ ks.length ≤ ns.length ∧ σ = [some (.ref a), some (.int c), some (.ref r), v3, v4])
    ⟨((Stp.refl _ _).new hr).then0 S1, SqL.of hSt, r, [], _, _, hr, S1.keep0 upd_same, Nat.zero_le _, rfl⟩ (fun _ _ _ _ z => z.2.1) ?_ ?_
  · rintro j x σ H2 H3 hj ⟨S, hq, r, ks, v3, v4, hr0, hR, hkl, rfl⟩ ⟨rfl, hx⟩
    obtain ⟨n, hn, rfl⟩ := map_at hx
    have hS3 := S.sql0 hS
    walk_at "rd"
    intro sl hsl
    rw [cut_map]
    have hcl : (cutL ns (some (ks.length : Int)) (some ((ks.length : Int) + 1 + n % 9))).length ≤ ns.length - ks.length := cutL_from_len _ _ _
    generalize cutL ns (some (ks.length : Int)) (some ((ks.length : Int) + 1 + n % 9)) = cs at hcl ⊢
    walk_at "rd"
    refine v_sortI (SqL.of upd_same) fun ps pt hpp _ hpt => ?_
    have hpl := hpp.length_eq
    walk_at "rd"
    refine r_wJ (W := fun σ H' => Stp [] H3 H' ∧ ∃ ps' : List Int, ps'.length = cs.length ∧ H' pt = some (.lst (ps'.map V.int)) ∧ σ = [some (.ref a), some (.int c), some (.ref r), some (.int n), some (.ref pt)]) ?_ (fun hc N hN => ?_) (fun hc N hN => ?_)
    · rintro σ H4 ⟨S4, ps', hpl', hP, rfl⟩
      dsimp only
      have hR4 := S4.keep0 hR
      walk_at "rd"
      refine v_addL hR4 hP (Nat.le_trans (m := 1000) (by rw [List.length_map, List.length_map]; omega) (by decide)) fun nr hnr => ?_
      walk_at "rd"
      exact ⟨(S.trans S4).new hnr, sql_upd (S4.sql0 hq) hnr, nr, ks ++ ps', _, _, (S.trans S4).dom _ hnr, by rw [upd_same, List.map_append], by rw [List.length_append]; omega, rfl⟩
    · walk_at "rd"
      refine v_rev upd_same ?_
      walk_at "rd"
      exact hN _ _ ⟨(((Stp.refl [] H3).new hsl).new hpt).putN (upd_free hpt).1, ps.reverse, by rw [List.length_reverse]; exact hpl, by rw [upd_same, List.map_reverse], rfl⟩
    · walk_at "rd"
      exact hN _ _ ⟨((Stp.refl [] H3).new hsl).new hpt, ps, hpl, upd_same, rfl⟩
  · rintro σ H2 ⟨S, hq, r, ks, v3, v4, hr0, hR, hkl, rfl⟩
    walk_at "rd"
    exact k r _ ks hr0 S hR hkl

def sp__law_nearly (K : PySem.W.Frag) (A : Ad) : Sp := fun vs H Q _ => ∃ (a : Addr) (ns : List Int) (c : Int), vs = [.ref a, .int c] ∧ (SqL K H a (ns.map V.int) ∧ ns.length ≤ 200) ∧
  ∀ (q : Addr) (H' : Hp) (ms : List Int), H q = none → Stp [] H H' → H' q = some (.lst (ms.map V.int)) → ms.length ≤ ns.length → Q (.ref q) H'
theorem ok__law_nearly {P : Program} {w : World} {K : PySem.W.Frag} {mg : Str → Option Value} {base : Heap} {A : Ad} {f : Addr} {fd : FuncData} (F : Fun K "_law_nearly" "_law_nearly" s__law_nearly f fd) (T : Txt K mg A) (C__law_stream : SH.Cal P w K mg base CX0 1 "_law_stream" [] (sp__law_stream K A)) : FnOk P w K mg base CX0 2 f fd ["_law_keys_here", "_law_cell"] (sp__law_nearly K A) := by
  refine F.ok sc__law_nearly (fun vs H Q E h => by obtain ⟨_, _, _, rfl, _⟩ := h; rfl) (fun cdv A' outer s H vs Q E hr h => ?_)
  obtain ⟨a, ns, c, rfl, ⟨hS, hl⟩, k⟩ := h
  refine ⟨_, (pss_cons (ps_set (i := 2) sc__law_nearly.nd rfl (Or.inl rfl) (pe_callB cr_sortedI (by rfl) T.z_sorted (by decide +kernel) (pa_cons (pv 0) pa_nil)))
        (pss_cons (ps_for PassesOwn.never rfl (pi_list (SH.pe_callF C__law_stream hr (by rfl) pass0 (pa_cons (pv 1) (pa_cons (pe_op SH.oMod (pv 1) pe_int) pa_nil)))) (pg_name (i := 3) sc__law_nearly.nd rfl (Or.inl rfl)) (pss_one (ps_if (pt_cmpR (SH.oNe hr.units) (pv 2) (pe_lst pa_nil) (nomark _)) (pss_cons (ps_set (i := 4) sc__law_nearly.nd rfl (Or.inl rfl) (pe_op SH.oMod (pv 3) (pe_callB SH.cLen (by rfl) T.z_len (by decide +kernel) (pa_cons (pv 2) pa_nil))))
        (pss_cons (ps_set (i := 5) sc__law_nearly.nd rfl (Or.inl rfl) (pe_bm PySem.F.plainAttrs_list PySem.F.slot_list_pop PySem.F.type_list_pop mt_popAt (pv 2) (pa_cons (pv 4) pa_nil)))
        (pss_one (ps_expr (pe_bm PySem.F.plainAttrs_list PySem.F.slot_list_insert PySem.F.type_list_insert SH.mIns (pv 2) (pa_cons (pe_callB (SH.cMax2 rfl) (by rfl) T.z_max (by decide +kernel) (pa_cons pe_int (pa_cons (pe_op SH.oSub (pe_op SH.oSub (pv 4) pe_int) (pe_op SH.oMod (pe_op SH.oDiv (pv 3) pe_int) pe_int)) pa_nil))) (pa_cons (pv 5) pa_nil))))))) pss_nil)))
        (pss_one (ps_ret (pv 2))))), ?_⟩
  walk_at "begin"
  walk_at "rd"
  refine v_sortI (by walk_at "sq") fun ps r hpp _ hr => ?_
  have hpl := hpp.length_eq
  walk_at "rd"
  obtain ⟨m, hmm⟩ : ∃ m : Nat, c % 6 = m := ⟨(c % 6).toNat, by omega⟩
  rw [hmm]
  refine ⟨c, m, rfl, by omega, fun st H1 ms hst S1 hSt hml hm0 => ?_⟩
  walk_at "rd"
  have hsr : st ≠ r := fun e => by subst e; rw [upd_same] at hst; cases hst
  refine for_it (walk_list (xs := ms.map V.int)) (fun j σ H' => Stp [] H H' ∧ SqL K H' st (ms.map V.int) ∧ ∃ (ks : List Int) (v3 v4 v5 : Option V), H' r = some (.lst (ks.map V.int)) ∧ ks.length ≤ ns.length ∧ σ = [some (.ref a), some (.int c), some (.ref r), v3, v4, v5])
    ⟨((Stp.refl _ _).new hr).then0 S1, SqL.of hSt, ps, _, _, _, S1.keep0 upd_same, by omega, rfl⟩ (fun _ _ _ _ z => z.2.1) ?_ ?_
  · rintro j x σ H2 H3 hj ⟨S, hq, ks, v3, v4, v5, hR, hkl, rfl⟩ ⟨rfl, hx⟩
    obtain ⟨n, hn, rfl⟩ := map_at hx
    have hn0 := hm0 n (List.mem_of_getElem? hn)
    walk_at "rd"
    intro z hz
    walk_at "rd"
    refine v_neE (x := ks) (y := []) (is_lst (by walk_at "sq") isl_ints) (is_lst (SqL.of upd_same) isl_nil) ?_
    walk_at "rd"
    have hR' : upd H3 z (.lst []) r = some (.lst (ks.map V.int)) := by walk_at "lk"
    refine r_nw (fun hne => ?_) fun he => ?_
    · have hlen : 0 < ks.length := List.length_pos_iff.mpr hne
      walk_at "rd"
      have m0 := Int.emod_nonneg n (show (ks.length : Int) ≠ 0 by omega)
      have m1 := Int.emod_lt_of_pos n (show (0 : Int) < (ks.length : Int) by omega)
      refine v_popAt (n := (n % (ks.length : Int)).toNat) (v := .int (getE ks (n % (ks.length : Int)).toNat)) hR' (by omega) (by omega) (getE_at (by omega)) ?_
      walk_at "rd"
      have hl2 : (ks.eraseIdx (n % (ks.length : Int)).toNat).length = ks.length - 1 := List.length_eraseIdx_of_lt (by omega)
      generalize hmx : (if n % (ks.length : Int) - 1 - n / 997 % 4 > 0 then n % (ks.length : Int) - 1 - n / 997 % 4 else 0) = mx
      have mx0 : 0 ≤ mx ∧ mx < 1000 := by
        rw [← hmx]
        split <;> omega
      refine w_insI upd_same mx0.1 (by omega) (by rw [List.length_eraseIdx_of_lt (by rw [List.length_map]; omega), List.length_map]; omega) ?_
      walk_at "rd"
      refine ⟨((S.new hz).putN hr).putN hr, sql_far (sql_far (sql_upd hq hz) hsr) hsr, (ks.eraseIdx (n % (ks.length : Int)).toNat).take mx.toNat ++ [getE ks (n % (ks.length : Int)).toNat] ++ (ks.eraseIdx (n % (ks.length : Int)).toNat).drop mx.toNat, _, _, _, ?_, ?_, rfl⟩
      · rw [upd_same]
        simp only [List.map_append, List.map_take, List.map_drop, List.eraseIdx_eq_take_drop_succ, List.map_cons, List.map_nil]
      · simp only [List.length_append, List.length_take, List.length_drop, List.length_singleton]; omega
    · walk_at "rd"
      exact ⟨S.new hz, sql_upd hq hz, ks, _, _, _, hR', hkl, rfl⟩
  · rintro σ H2 ⟨S, hq, ks, v3, v4, v5, hR, hkl, rfl⟩
    walk_at "rd"
    exact k r _ ks hr S hR hkl

def sp__law_keys (K : PySem.W.Frag) (A : Ad) : Sp := fun vs H Q _ => ∃ (a : Addr) (ns : List Int) (most : Nat), vs = [.ref a, .int most] ∧ (SqL K H a (ns.map V.int) ∧ ns.length ≤ 63 ∧ 0 < most ∧ most ≤ 100) ∧
  ∀ (q : Addr) (H' : Hp) (ms : List Int), H q = none → Stp [] H H' → H' q = some (.lst (ms.map V.int)) → ms.length < 2 * most → Q (.ref q) H'
theorem ok__law_keys {P : Program} {w : World} {K : PySem.W.Frag} {mg : Str → Option Value} {base : Heap} {A : Ad} {f : Addr} {fd : FuncData} (F : Fun K "_law_keys" "_law_keys" s__law_keys f fd) (T : Txt K mg A) (C__law_blocks : SH.Cal P w K mg base CX0 2 "_law_blocks" [] (sp__law_blocks K A)) (C__law_cell_at : SH.Cal P w K mg base CX0 1 "_law_cell_at" [] (sp__law_cell_at K A)) (C__law_digits : SH.Cal P w K mg base CX0 2 "_law_digits" [] (sp__law_digits K A)) (C__law_nearly : SH.Cal P w K mg base CX0 2 "_law_nearly" [] (sp__law_nearly K A)) (C__law_stream : SH.Cal P w K mg base CX0 1 "_law_stream" [] (sp__law_stream K A)) : FnOk P w K mg base CX0 3 f fd ["_law_script", "_law_most"] (sp__law_keys K A) := by
  refine F.ok sc__law_keys (fun vs H Q E h => by obtain ⟨_, _, _, rfl, _⟩ := h; rfl) (fun cdv A' outer s H vs Q E hr h => ?_)
  obtain ⟨a, ns, most, rfl, ⟨hS, hl, hm0, hm1⟩, k⟩ := h
  refine ⟨_, (pss_cons (ps_set (i := 2) sc__law_keys.nd rfl (Or.inl rfl) (SH.pe_callF C__law_cell_at hr (by rfl) pass0 (pa_cons (pv 0) (pa_cons pe_int pa_nil))))
        (pss_cons (ps_set (i := 3) sc__law_keys.nd rfl (Or.inl rfl) (SH.pe_callF C__law_cell_at hr (by rfl) pass0 (pa_cons (pv 0) (pa_cons pe_int pa_nil))))
        (pss_cons (ps_if (pt_cmpR (SH.oEq hr.units) (pe_op SH.oMod (pe_op SH.oDiv (pv 2) pe_int) pe_int) pe_int (nomark _)) (pss_one (ps_ret (pe_slice sl_list (SH.pe_callF C__law_digits hr (by rfl) pass0 (pa_cons (pv 0) (pa_cons pe_int (pa_cons pe_int pa_nil)))) po_none (po_some (pe_op SH.oMod (pe_op SH.oDiv (pv 2) pe_int) (pe_op SH.oMul pe_int (pv 1))))))) pss_nil)
        (pss_cons (ps_set (i := 4) sc__law_keys.nd rfl (Or.inr rfl) (pe_ix SH.ixA (pe_lst (pa_cons pe_int (pa_cons pe_int (pa_cons pe_int (pa_cons (pe_op SH.oPow pe_int pe_int) pa_nil))))) (pe_op SH.oMod (pv 2) pe_int) (fun _ _ => rfl)))
        (pss_cons (ps_setLc (i := 5) (own := [("_law_cell", 7)]) (g := (gName 7)) (tt := tYes) (by rfl) sc__law_keys.nd rfl rfl (sw_true rfl rfl rfl (by decide +kernel)) (pi_list (pe_slice sl_list (pv 0) (po_some pe_int) (po_some (pe_op SH.oAdd pe_int (pv 1))))) (blkOk_by (own := [("_law_cell", 7)]) (N := ["_law_script", "_law_most", "_law_mode", "_law_mix", "_law_width", "_law_keys_here", "_law_way", "_law_cell", "_law_number"]) (sc := defScope s__law_keys) (by decide +kernel)) (fun _ _ _ _ _ => (pg_name (i := 7) sc__law_keys.nd rfl (Or.inl rfl))) (fun _ _ _ _ _ => pts_nil) (fun _ _ _ _ _ => (pe_op SH.oSub (pe_op SH.oMod (pv 7) (pv 4)) (pe_op SH.oDiv (pv 4) pe_int))))
        (pss_cons (ps_set (i := 6) sc__law_keys.nd rfl (Or.inl rfl) (pe_op SH.oMod (pe_op SH.oDiv (pv 2) pe_int) pe_int))
        (pss_cons (ps_if (PW.pt (pw_or (pt_cmpR (SH.oEq hr.units) (pv 6) pe_int (nomark _)) (pw_or1 (pt_cmpR (SH.oEq hr.units) (pv 6) pe_int (nomark _))))) (pss_one (ps_ret (SH.pe_callF C__law_blocks hr (by rfl) pass0 (pa_cons (pv 5) (pa_cons (pv 3) pa_nil))))) pss_nil)
        (pss_cons (ps_if (pt_cmpR (SH.oEq hr.units) (pv 6) pe_int (nomark _)) (pss_one (ps_ret (pe_callB cr_sortedI (by rfl) T.z_sorted (by decide +kernel) (pa_cons (pv 5) pa_nil)))) pss_nil)
        (pss_cons (ps_if (pt_cmpR (SH.oEq hr.units) (pv 6) pe_int (nomark _)) (pss_one (ps_ret (SH.pe_lstRev (by rfl) T.z_list (by rfl) T.z_reversed (pe_callB cr_sortedI (by rfl) T.z_sorted (by decide +kernel) (pa_cons (pv 5) pa_nil))))) pss_nil)
        (pss_cons (ps_if (pt_cmpR (SH.oEq hr.units) (pv 6) pe_int (nomark _)) (pss_one (ps_ret (pe_lc (own := [("_law_number", 8)]) (g := (gName 8)) (tt := tYes) (by rfl) sc__law_keys.nd (pi_list (SH.pe_callF C__law_stream hr (by rfl) pass0 (pa_cons (pv 3) (pa_cons (pe_op SH.oMod (pv 3) (pe_op SH.oMul pe_int (pv 1))) pa_nil)))) (blkOk_by (own := [("_law_number", 8)]) (N := ["_law_script", "_law_most", "_law_mode", "_law_mix", "_law_width", "_law_keys_here", "_law_way", "_law_cell", "_law_number"]) (sc := defScope s__law_keys) (by decide +kernel)) (fun _ _ _ _ _ => (pg_name (i := 8) sc__law_keys.nd rfl (Or.inl rfl))) (fun _ _ _ _ _ => pts_nil) (fun _ _ _ _ _ => (pe_op SH.oSub (pe_op SH.oMod (pv 8) (pv 4)) (pe_op SH.oDiv (pv 4) pe_int)))))) pss_nil)
        (pss_cons (ps_if (pt_cmpR (SH.oEq hr.units) (pv 6) pe_int (nomark _)) (pss_one (ps_ret (SH.pe_callF C__law_nearly hr (by rfl) pass0 (pa_cons (pv 5) (pa_cons (pv 3) pa_nil))))) pss_nil)
        (pss_one (ps_ret (pv 5)))))))))))))), ?_⟩
  walk_at "begin"
  walk_at "rd"
  refine ⟨a, ns, 0, rfl, hS, fun mode => ?_⟩
  walk_at "rd"
  refine ⟨a, ns, 1, rfl, hS, fun mix => ?_⟩
  walk_at "rd"
  refine r_w (fun hdg => ?_) fun hdg => ?_
  · walk_at "rd"
    refine ⟨a, ns, 4, _, rfl, ⟨hS, by decide, by decide⟩, fun q H1 ms hq S1 hQ hml _ => ?_⟩
    walk_at "rd"
    intro q2 hq2
    rw [cut_map]
    obtain ⟨m, hmm⟩ : ∃ m : Nat, mode / 64 % (2 * (most : Int)) = m := ⟨(mode / 64 % (2 * (most : Int))).toNat, by have := Int.emod_nonneg (mode / 64) (show (2 * (most : Int)) ≠ 0 by omega); omega⟩
    have hmm2 : m < 2 * most := by have := Int.emod_lt_of_pos (mode / 64) (show (0 : Int) < 2 * (most : Int) by omega); omega
    rw [hmm, cutL_upto]
    exact k q2 _ _ (S1.dom _ hq2) (S1.new hq2) upd_same (by rw [List.length_take]; omega)
  walk_at "rd"
  intro wl hwl
  walk_at "rd"
  refine v_ixMod (m := 4) (by walk_at "sq") rfl (by decide) fun v hv => ?_
  have hv' : ∃ m : Int, v = .int m ∧ 0 < m := by
    rcases List.mem_cons.mp hv with rfl | hv
    · exact ⟨_, rfl, by decide⟩
    rcases List.mem_cons.mp hv with rfl | hv
    · exact ⟨_, rfl, by decide⟩
    rcases List.mem_cons.mp hv with rfl | hv
    · exact ⟨_, rfl, by decide⟩
    rw [List.mem_singleton] at hv
    exact ⟨_, hv, big60_pos⟩
  obtain ⟨width, rfl, hw⟩ := hv'
  clear hv
  walk_at "rd"
  intro sl hsl
  rw [cut_map]
  have hcl : (cutL ns (some 4) (some (4 + (most : Int)))).length ≤ most := by
    have e : (4 : Int) + (most : Int) = ((4 + most : Nat) : Int) := by omega
    rw [e, show (4 : Int) = ((4 : Nat) : Int) from rfl, cutL_span, List.length_take]
    omega
  generalize cutL ns (some 4) (some (4 + (most : Int))) = cs at hcl ⊢
  walk_at "rd"
  intro D hD
  refine lc_it (walk_list (xs := cs.map V.int)) (fun j H' => Stp [] H H' ∧ SqL K H' sl (cs.map V.int) ∧ ∃ ms : List Int, ms.length = j ∧ H' D = some (.lst (ms.map V.int))) ⟨((((Stp.refl [] H).new hwl).new hsl).new hD), by walk_at "sq", [], rfl, upd_same⟩ (fun j H' _ z => z.2.1) ?_ ?_
  · rintro j x H2 H3 hj ⟨S, hq, ms, hml, hL⟩ ⟨rfl, hx⟩
    obtain ⟨n, hn, rfl⟩ := map_at hx
    walk_at "rd"
    exact ⟨_, hL, Nat.lt_of_le_of_lt (m := 100) (by rw [List.length_map] at hj ⊢; omega) (by decide), S.putN ((upd_free (upd_free hD).1).1), sql_far hq (by rintro rfl; rw [upd_same] at hD; cases hD), ms ++ [_], by simp [hml], by rw [upd_same, List.map_append]; rfl⟩
  rintro H1 ⟨S1, _, ks, hkl, hL⟩
  have hD0 : H D = none := (upd_free (upd_free hD).1).1
  rw [List.length_map] at hkl
  clear hD hsl hwl
  walk_at "rd"
  refine r_b (fun hc => ?_) fun hc => ?_
  · walk_at "rd"
    refine ⟨D, ks, mix, rfl, ⟨SqL.of hL, by omega⟩, fun q H' ms hq S hQ hml => ?_⟩
    walk_at "rd"
    exact k q _ ms (S1.dom _ hq) (S1.trans S) hQ (by omega)
  walk_at "rd"
  refine r_w (fun hc => ?_) fun hc => ?_
  · walk_at "rd"
    refine ⟨D, ks, mix, rfl, ⟨SqL.of hL, by omega⟩, fun q H' ms hq S hQ hml => ?_⟩
    walk_at "rd"
    exact k q _ ms (S1.dom _ hq) (S1.trans S) hQ (by omega)
  walk_at "rd"
  refine r_w (fun hc => ?_) fun hc => ?_
  · walk_at "rd"
    refine v_sortI (SqL.of hL) fun ps q hpp _ hq => ?_
    have hpl := hpp.length_eq
    exact k q _ ps (S1.dom _ hq) (S1.new hq) upd_same (by omega)
  walk_at "rd"
  refine r_w (fun hc => ?_) fun hc => ?_
  · walk_at "rd"
    refine v_sortI (SqL.of hL) fun ps q hpp _ hq => ?_
    have hpl := hpp.length_eq
    walk_at "rd"
    intro q2 hq2
    exact k q2 _ ps.reverse (S1.dom _ (upd_free hq2).1) ((S1.new hq).new hq2) (by rw [upd_same, List.map_reverse]) (by rw [List.length_reverse]; omega)
  walk_at "rd"
  refine r_w (fun hc => ?_) fun hc => ?_
  · walk_at "rd"
    obtain ⟨m, hmm⟩ : ∃ m : Nat, mix % (2 * (most : Int)) = m := ⟨(mix % (2 * (most : Int))).toNat, by have := Int.emod_nonneg mix (show (2 * (most : Int)) ≠ 0 by omega); omega⟩
    have hmm2 : m < 2 * most := by have := Int.emod_lt_of_pos mix (show (0 : Int) < 2 * (most : Int) by omega); omega
    rw [hmm]
    refine ⟨mix, m, rfl, by omega, fun st H2 ms hst S2 hSt hml hm0' => ?_⟩
    walk_at "rd"
    intro D2 hD2
    have hD20 : H D2 = none := S1.dom _ (S2.dom _ hD2)
    refine lc_it (walk_list (xs := ms.map V.int)) (fun j H' => Stp [] H H' ∧ SqL K H' st (ms.map V.int) ∧ ∃ us : List Int, us.length = j ∧ H' D2 = some (.lst (us.map V.int))) ⟨(S1.trans S2).new hD2, by walk_at "sq", [], rfl, upd_same⟩ (fun j H' _ z => z.2.1) ?_ ?_
    · rintro j x H3 H4 hj ⟨S, hq, us, hul, hL⟩ ⟨rfl, hx⟩
      obtain ⟨n, hn, rfl⟩ := map_at hx
      walk_at "rd"
      exact ⟨_, hL, Nat.lt_of_le_of_lt (m := 200) (by rw [List.length_map] at hj ⊢; omega) (by decide), S.putN hD20, sql_far hq (by rintro rfl; rw [hSt] at hD2; cases hD2), us ++ [_], by simp [hul], by rw [upd_same, List.map_append]; rfl⟩
    rintro H3 ⟨S3, _, us, hul, hL⟩
    walk_at "rd"
    exact k D2 _ us hD20 S3 hL (by rw [List.length_map] at hul; omega)
  walk_at "rd"
  refine r_w (fun hc => ?_) fun hc => ?_
  · walk_at "rd"
    refine ⟨D, ks, mix, rfl, ⟨SqL.of hL, by omega⟩, fun q H' ms hq S hQ hml => ?_⟩
    walk_at "rd"
    exact k q _ ms (S1.dom _ hq) (S1.trans S) hQ (by omega)
  walk_at "rd"
  exact k D _ ks hD0 S1 hL (by omega)
/-! ### orders by keys -/
/-- o stands ahead of p -/
def Ahd (ks : List Int) (o p : Nat) : Prop := getE ks o < getE ks p ∨ (getE ks o = getE ks p ∧ o < p)
instance (ks : List Int) (o p : Nat) : Decidable (Ahd ks o p) := inferInstanceAs (Decidable (_ ∨ _))
theorem ahd_told {ks : List Int} {o p : Nat} (h : o ≠ p) : (decide (getE ks (max o p) < getE ks (min o p)) = decide (p < o)) ↔ Ahd ks o p := by
  unfold Ahd
  by_cases e : p < o
  · rw [Nat.max_eq_left (by omega), Nat.min_eq_right (by omega), decide_eq_true e]
    simp only [decide_eq_true_eq]
    omega
  · rw [Nat.max_eq_right (by omega), Nat.min_eq_left (by omega), decide_eq_false e]
    simp only [decide_eq_false_iff_not]
    omega
theorem Ahd.trans {ks : List Int} {a b c : Nat} (h : Ahd ks a b) (k : Ahd ks b c) : Ahd ks a c := by unfold Ahd at *; omega
theorem Ahd.asym {ks : List Int} {a b : Nat} (h : Ahd ks a b) : ¬ Ahd ks b a := by unfold Ahd at *; omega
theorem Ahd.tot {ks : List Int} {a b : Nat} (h : a ≠ b) : Ahd ks a b ∨ Ahd ks b a := by unfold Ahd; omega
theorem not_eq_ite {a b : Bool} (h : a = !b) : ¬ a = b := by cases a <;> cases b <;> simp_all
/-! ### odds and ends of laws with pairs -/
theorem tabs_stp {T : List NTab} {H H' : Hp} (h : TabsN T H) (S : Stp [] H H') : TabsN T H' := fun p hp => (h p hp).ext fun b o e => S.keep0 e
theorem ext_lst {H H' : Hp} {b : Addr} {xs : List V} (e : ExtN H H') (h : H b = some (.lst xs)) : H' b = some (.lst xs) := e _ _ h (by intro ps z; cases z)
theorem ext_tup {H H' : Hp} {b : Addr} {xs : List V} (e : ExtN H H') (h : H b = some (.tup xs)) : H' b = some (.tup xs) := e _ _ h (by intro ps z; cases z)
theorem RowP.ext {H H' : Hp} {row : List V} {ks : List Int} (h : RowP H row ks) (e : ExtN H H') : RowP H' row ks := ⟨h.1, fun i v z => by obtain ⟨t, h1, h2⟩ := h.2 i v z; exact ⟨t, h1, ext_tup e h2⟩⟩
def kOf (H : Hp) (x : V) : Int × Int := match x with
  | .ref t => (match H t with
    | some (.tup [.int a, .int b]) => (a, b)
    | _ => (0, 0))
  | _ => (0, 0)
theorem kOf_at {H : Hp} {t : Addr} {a b : Int} (h : H t = some (.tup [.int a, .int b])) : kOf H (.ref t) = (a, b) := by simp [kOf, h]
theorem lexB_false {a b c d : Int} (h : SrtO.lexB (a, b) (c, d) = false) : c < a ∨ (c = a ∧ d ≤ b) := by
  have : ¬ (a < c ∨ (a = c ∧ b < d)) := fun z => by
    rw [SrtO.lexB_iff.mpr z] at h
    cases h
  omega
/-- an order that was sorted: what stands ahead of a place is what stands ahead in it -/
theorem sorted_mono {ks : List Int} {H : Hp} {zs : List V} {ord : List Nat} {place : Nat} (hs : SrtO.Srtd (ltP (kOf H)) zs) (ho : ∀ (i o : Nat), ord[i]? = some o → ∃ t, zs[i]? = some (.ref t) ∧ H t = some (.tup [.int (getE ks o), .int (o : Nat)])) :
    ∀ (i j : Nat) (a b : Nat), i < j → ord[i]? = some a → ord[j]? = some b → Ahd ks b place → Ahd ks a place := by
  intro i j a b hij ha hb h
  obtain ⟨t, e1, h1⟩ := ho i a ha
  obtain ⟨u, e2, h2⟩ := ho j b hb
  obtain ⟨hi, e1⟩ := List.getElem?_eq_some_iff.mp e1
  obtain ⟨hj, e2⟩ := List.getElem?_eq_some_iff.mp e2
  have := List.pairwise_iff_getElem.mp hs i j hi hj hij
  rw [e1, e2] at this
  unfold ltP at this
  rw [kOf_at h1, kOf_at h2] at this
  have := lexB_false this
  unfold Ahd at h ⊢
  omega
theorem lexLt2 {a b c d : Int} : HT.lexLt [a, b] [c, d] = decide (a < c ∨ (a = c ∧ b < d)) := by
  simp only [HT.lexLt]
  by_cases e : a = c
  · rw [if_pos e]
    by_cases e2 : b = d
    · rw [if_pos e2]; simp [e, e2]
    · rw [if_neg e2]; simp [e]
  · rw [if_neg e]; simp [e]
theorem rd_extN {H H' : Hp} {a : Addr} {u : HO} (s : ExtN H H') (h : Rd H a u) (n : ∀ ps, u ≠ .tbl ps) : Rd H' a u := by
  rcases h with h | ⟨o, h⟩
  · exact .inl (s _ _ h n)
  · exact .inr ⟨o, s _ _ h (by intro ps z; cases z)⟩
theorem sql_extN {K : PySem.W.Frag} {H H' : Hp} {a : Addr} {xs : List V} (s : ExtN H H') (h : SqL K H a xs) : SqL K H' a xs := by
  rcases h with h | h
  · exact .inl (rd_extN s h (by intro ps z; cases z))
  · exact .inr h
theorem sqt_extN {K : PySem.W.Frag} {H H' : Hp} {a : Addr} {xs : List V} (s : ExtN H H') (h : SqT K H a xs) : SqT K H' a xs := by
  rcases h with h | h
  · exact .inl (rd_extN s h (by intro ps z; cases z))
  · exact .inr h
mutual
theorem dp_extN {K : PySem.W.Frag} {H H' : Hp} (S : ExtN H H') : ∀ (d : PyData) (v : V), Dp K H v d → Dp K H' v d
  | .none, _, h => by cases h; exact .non
  | .bool _, _, h => by cases h; exact .bl _
  | .int _, _, h => by cases h; exact .int _
  | .str _, _, h => by cases h; exact .str _
  | .list ds, _, h => by
    cases h with
    | lst hs ha => exact .lst (sql_extN S hs) (dp_extNs S ds _ ha)
  | .tuple ds, _, h => by
    cases h with
    | tup hs ha => exact .tup (sqt_extN S hs) (dp_extNs S ds _ ha)
  | .dict _, _, h => by cases h
theorem dp_extNs {K : PySem.W.Frag} {H H' : Hp} (S : ExtN H H') : ∀ (ds : List PyData) (vs : List V), DpAll K H vs ds → DpAll K H' vs ds
  | [], _, h => by cases h; exact .nil
  | d :: ds, _, h => by
    cases h with
    | cons h1 h2 => exact .cons (dp_extN S d _ h1) (dp_extNs S ds _ h2)
end
theorem isl_extN {K : PySem.W.Frag} {H H' : Hp} {α : Type} [Enc α] {vs : List V} {xs : List α} (S : ExtN H H') (h : IsL K H vs xs) : IsL K H' vs xs := dp_extNs S _ _ h
theorem sql_or {K : PySem.W.Frag} {H : Hp} {a : Addr} {xs : List V} (h : SqL K H a xs) : ∃ ax : List Addr, (∀ x ∈ ax, H x ≠ none) ∧ (a ∈ ax ∨ ∀ H', SqL K H' a xs) := by
  rcases h with (h | ⟨o, h⟩) | h
  · exact ⟨[a], fun x hx => by rw [List.mem_singleton] at hx; subst hx; rw [h]; simp, .inl (by simp)⟩
  · exact ⟨[a], fun x hx => by rw [List.mem_singleton] at hx; subst hx; rw [h]; simp, .inl (by simp)⟩
  · exact ⟨[], by simp, .inr fun H' => .inr h⟩
/-! ### a row of pairs, sorted: its places in order -/
/-- ord is all places, each one ahead of the next ones -/
structure OrdOf (ks : List Int) (ord : List Nat) : Prop where
  perm : ord.Perm (List.range ks.length)
  pw : ord.Pairwise (Ahd ks)
theorem OrdOf.len {ks : List Int} {ord : List Nat} (h : OrdOf ks ord) : ord.length = ks.length := by simpa using h.perm.length_eq
theorem OrdOf.lt {ks : List Int} {ord : List Nat} (h : OrdOf ks ord) {o : Nat} (ho : o ∈ ord) : o < ks.length := by simpa using h.perm.mem_iff.mp ho
theorem OrdOf.nodup {ks : List Int} {ord : List Nat} (h : OrdOf ks ord) : ord.Nodup := h.perm.nodup_iff.mpr List.nodup_range
theorem sorted_ord {ks : List Int} {H : Hp} {row zs : List V} {ord : List Nat} (hr : RowP H row ks) (hs : SrtO.Srtd (ltP (kOf H)) zs) (hp : zs.Perm row) (hl : ord.length = zs.length)
    (ho : ∀ (i o : Nat), ord[i]? = some o → ∃ t, zs[i]? = some (.ref t) ∧ H t = some (.tup [.int (getE ks o), .int (o : Nat)])) : OrdOf ks ord := by
  let g : V → Nat := fun x => (kOf H x).2.toNat
  have e1 : ord = zs.map g := by
    apply List.ext_getElem? ; intro i
    by_cases hi : i < ord.length
    · obtain ⟨t, h1, h2⟩ := ho i _ (List.getElem?_eq_getElem hi)
      rw [List.getElem?_eq_getElem hi, List.getElem?_map, h1, Option.map_some]
      show some _ = some (kOf H (.ref t)).2.toNat
      rw [kOf_at h2]
      simp
    · rw [List.getElem?_eq_none (by omega), List.getElem?_eq_none (by rw [List.length_map]; omega)]
  have e2 : row.map g = List.range ks.length := by
    apply List.ext_getElem? ; intro i
    by_cases hi : i < row.length
    · obtain ⟨t, h1, h2⟩ := hr.2 i _ (List.getElem?_eq_getElem hi)
      rw [List.getElem?_map, List.getElem?_eq_getElem hi, Option.map_some, h1, List.getElem?_range (by rw [← hr.1]; exact hi)]
      show some (kOf H (.ref t)).2.toNat = some i
      rw [kOf_at h2]
      simp
    · rw [List.getElem?_eq_none (by rw [List.length_map]; omega), List.getElem?_eq_none (by rw [List.length_range, ← hr.1]; omega)]
  have hpm : ord.Perm (List.range ks.length) := by rw [e1, ← e2]; exact hp.map g
  refine ⟨hpm, ?_⟩
  have hnd : ord.Nodup := hpm.nodup_iff.mpr List.nodup_range
  refine List.pairwise_iff_getElem.mpr fun i j hi hj hij => ?_
  obtain ⟨t, h1, h2⟩ := ho i _ (List.getElem?_eq_getElem hi)
  obtain ⟨u, h3, h4⟩ := ho j _ (List.getElem?_eq_getElem hj)
  obtain ⟨hi', h1⟩ := List.getElem?_eq_some_iff.mp h1
  obtain ⟨hj', h3⟩ := List.getElem?_eq_some_iff.mp h3
  have := List.pairwise_iff_getElem.mp hs i j hi' hj' hij
  rw [h1, h3] at this
  unfold ltP at this
  rw [kOf_at h2, kOf_at h4] at this
  have hb := lexB_false this
  have hne : ord[i] ≠ ord[j] := List.pairwise_iff_getElem.mp hnd i j hi hj hij
  unfold Ahd
  omega
theorem OrdOf.others {ks : List Int} {ord : List Nat} {spot place : Nat} (h : OrdOf ks ord) (hp : ord[spot]? = some place) :
    (ord.take spot ++ ord.drop (spot + 1)).length + 1 = ks.length ∧ (∀ o ∈ ord.take spot ++ ord.drop (spot + 1), o < ks.length ∧ o ≠ place) ∧ (∀ (i o : Nat), (ord.take spot ++ ord.drop (spot + 1))[i]? = some o → (Ahd ks o place ↔ i < spot)) := by
  have hl := h.len
  obtain ⟨hs, hp'⟩ := List.getElem?_eq_some_iff.mp hp
  have hlen : (ord.take spot ++ ord.drop (spot + 1)).length + 1 = ks.length := by rw [List.length_append, List.length_take, List.length_drop]; omega
  have key : ∀ (i o : Nat), (ord.take spot ++ ord.drop (spot + 1))[i]? = some o → (i < spot ∧ ord[i]? = some o) ∨ (spot ≤ i ∧ ord[i + 1]? = some o) := fun i o e => by
    by_cases hi : i < spot
    · rw [List.getElem?_append_left (by rw [List.length_take]; omega), List.getElem?_take_of_lt hi] at e
      exact .inl ⟨hi, e⟩
    · rw [List.getElem?_append_right (by rw [List.length_take]; omega), List.length_take, Nat.min_eq_left (by omega), List.getElem?_drop] at e
      exact .inr ⟨by omega, by rw [← e]; congr 1; omega⟩
  have key2 : ∀ (i o : Nat), (ord.take spot ++ ord.drop (spot + 1))[i]? = some o → (i < spot ∧ Ahd ks o place) ∨ (spot ≤ i ∧ Ahd ks place o) := fun i o e => by
    rcases key i o e with ⟨a, b⟩ | ⟨a, b⟩
    · obtain ⟨hi, b'⟩ := List.getElem?_eq_some_iff.mp b
      have := List.pairwise_iff_getElem.mp h.pw i spot hi hs a
      rw [b', hp'] at this
      exact .inl ⟨a, this⟩
    · obtain ⟨hi, b'⟩ := List.getElem?_eq_some_iff.mp b
      have := List.pairwise_iff_getElem.mp h.pw spot (i + 1) hs hi (by omega)
      rw [b', hp'] at this
      exact .inr ⟨a, this⟩
  refine ⟨hlen, fun o ho => ?_, fun i o e => ?_⟩
  · obtain ⟨i, hi, e⟩ := List.getElem_of_mem ho
    have e' : (ord.take spot ++ ord.drop (spot + 1))[i]? = some o := by rw [← e]; exact List.getElem?_eq_getElem hi
    refine ⟨?_, ?_⟩
    · rcases key i o e' with ⟨_, b⟩ | ⟨_, b⟩
      · exact h.lt (List.mem_of_getElem? b)
      · exact h.lt (List.mem_of_getElem? b)
    · rintro rfl
      rcases key2 i o e' with ⟨_, b⟩ | ⟨_, b⟩
      · exact b.asym b
      · exact b.asym b
  · rcases key2 i o e with ⟨a, b⟩ | ⟨a, b⟩
    · exact ⟨fun _ => a, fun _ => b⟩
    · exact ⟨fun z => (b.asym z).elim, fun z => by omega⟩
def sp__law_whole (K : PySem.W.Frag) (A : Ad) : Sp := fun vs H Q _ => ∃ (c : Int), vs = [.int c] ∧ Q (.bl true) H
theorem ok__law_whole {P : Program} {w : World} {K : PySem.W.Frag} {mg : Str → Option Value} {base : Heap} {A : Ad} {f : Addr} {fd : FuncData} (F : Fun K "_law_whole" "_law_whole" s__law_whole f fd) (T : Txt K mg A)  : FnOk P w K mg base CX0 1 f fd ["_law_found"] (sp__law_whole K A) := by
  refine F.ok sc__law_whole (fun vs H Q E h => by obtain ⟨_, rfl, _⟩ := h; rfl) (fun cdv A' outer s H vs Q E hr h => ?_)
  obtain ⟨c, rfl, k⟩ := h
  refine ⟨_, (pss_one (ps_ret (pe_and (pe_callB call_isi (by rfl) T.z_isinstance (by decide +kernel) (pa_cons (pv 0) (pa_cons (pe_bltn (v := .ty "int") (by rfl) T.z_int (by decide +kernel) rfl) pa_nil))) (pe_one (pe_not (pe_callB call_isi (by rfl) T.z_isinstance (by decide +kernel) (pa_cons (pv 0) (pa_cons (pe_bltn (v := .ty "bool") (by rfl) T.z_bool (by decide +kernel) rfl) pa_nil)))))))), ?_⟩
  walk_at "begin"
  walk_at "rd"
  exact k
/-! ### an asker made: Asker(row, AskedRule(_law_teller(said))) -/
structure Mk (K : PySem.W.Frag) (A : Ad) (H : Hp) (row : List V) (ks : List Int) (tl : Addr) (pre : List Ent) (m : Option Nat) (I : Ask) (H' : Hp) : Prop where
  at_ : I.At K A H' []
  e1 : I.tl = tl
  e2 : I.ks = ks
  e3 : I.pre = pre
  e4 : I.row = row
  e5 : I.m = m
  ext : ExtN H H'
  dom : ∀ b, H' b = none → H b = none
  tab : TabsN (Tb A) H'
  far : ∀ b o, H b = some o → b ≠ tl → b ∉ I.M
  far2 : ∀ b o, H b = some o → b ≠ tl → b ∉ I.own
theorem Mk.n {K : PySem.W.Frag} {A : Ad} {H : Hp} {row : List V} {ks : List Int} {tl : Addr} {pre : List Ent} {m : Option Nat} {I : Ask} {H' : Hp} (h : Mk K A H row ks tl pre m I H') : I.n = ks.length := by unfold Ask.n; rw [h.e2]
theorem Mk.lt {K : PySem.W.Frag} {A : Ad} {H : Hp} {row : List V} {ks : List Int} {tl : Addr} {pre : List Ent} {m : Option Nat} {I : Ask} {H' : Hp} (h : Mk K A H row ks tl pre m I H') : I.or = fun _ p q => decide (getE ks p < getE ks q) := by unfold Ask.or Ask.lt; rw [h.e2]
theorem askmake {K : PySem.W.Frag} {A : Ad} {σ : L2.St} {H : Hp} {Q : VK} {i j : Nat} {rq tl : Addr} {row : List V} {ks : List Int} {pre : List Ent} {tvs : List V} {m : Option Nat} {us dvs : List V} {ta : TA}
    (hi : σ[i]? = some (some (.ref rq))) (hj : σ[j]? = some (some (.ref tl))) (hR : H rq = some (.lst row)) (hrow : RowP H row ks) (hTb : TabsN (Tb A) H) (htl : H tl = some (.lst tvs)) (htv : IsL K H tvs pre) (few : row.length ≤ 100000) (fewp : pre.length ≤ 100000) (hta : ∀ (H : Hp) (Q : List V → Hp → Prop), Q us H → ta σ H Q) (e : us ++ dvs = [mV m])
    (k : ∀ H' I, Mk K A H row ks tl pre m I H' → Q (.ref I.s) H') :
    tMake A.Asker (sp_Asker___init__ K A) dvs L2.E0 (tCons (tVar i) (tCons (tMake A.AskedRule (sp_AskedRule___init__ K A) [] L2.E0 (tCons (tCall (sp__law_teller K A) [] L2.E0 (tCons (tVar j) tNil)) tNil)) ta)) σ H Q := by
  walk_at "rd"
  refine SH.r_var hi ?_
  walk_at "rd"
  refine SH.r_var hj ?_
  walk_at "rd"
  refine ⟨.ref tl, rfl, hTb, fun f' H6 cl c' hE hdom hTb6 hf6 hC => ?_⟩
  have hR6 := ext_lst hE hR
  have htl6 := ext_lst hE htl
  have hrow6 := hrow.ext hE
  walk_at "rd"
  intro u du hu hdu hne
  refine ⟨u, .ref f', rfl, ⟨du, upd_same⟩, fun dx => ⟨rfl, ?_⟩⟩
  rw [upd_upd]
  have S7 : Stp [] H6 (upd (upd H6 du (.own u)) u (.ins A.AskedRule dx [("teller", .ref f')])) := ((Stp.refl [] H6).new hdu).putN hu
  have hu7 : upd (upd H6 du (.own u)) u (.ins A.AskedRule dx [("teller", .ref f')]) u = some (.ins A.AskedRule dx [("teller", .ref f')]) := upd_same
  generalize upd (upd H6 du (.own u)) u (.ins A.AskedRule dx [("teller", .ref f')]) = H7 at S7 hu7 ⊢
  have hR7 := S7.keep0 hR6
  have htl7 := S7.keep0 htl6
  have hrow7 := hrow6.stp S7
  have hC7 := hC.step S7
  walk_at "rd"
  refine hta _ _ ?_
  intro s dx' hs hdx hne
  have S8 : Stp [] H7 (upd (upd H7 dx' (.own s)) s (.ins A.Asker dx' [])) := ((Stp.refl [] H7).new hdx).new (by rw [upd_ne hne.symm]; exact hs)
  refine ⟨s, rq, .ref u, row, m, by rw [← e]; rfl, ⟨dx', upd_same⟩, ⟨S8.sql0 (SqL.of hR7), few⟩, fun dx2 r l H9 hr hl hlr hsr hsl S9 hs9 hr9 hl9 => ⟨rfl, ?_⟩⟩
  have S79 : Stp [] H7 H9 := S8.then S9 (by simp; exact hs)
  have hl0 : H7 l = none := S8.dom l hl
  have hr0 : H7 r = none := S8.dom r hr
  have hE2 : ExtN H H9 := hE.trans (ExtN.of fun b o e => S79.keep0 (S7.keep0 e))
  have d0 : ∀ b, H9 b = none → H b = none := fun b e => hdom b (S7.dom b (S79.dom b e))
  have ht9 : IsL K H9 tvs pre := by
    have : ∀ (vs : List V) (ps : List Ent), IsL K H vs ps → IsL K H9 vs ps := fun vs ps h => isl_extN hE2 h
    exact this _ _ htv
  have hA : Ask.At ⟨s, r, l, dx2, u, dx, f', tl, cl, c', ks, row, pre, m⟩ K A H9 [] :=
    ⟨hs9, hr9, ⟨[], hl9, isl_nil⟩, S79.keep0 hu7, ⟨tvs, S79.keep0 htl7, by rw [List.append_nil]; exact ht9⟩, hC7.step S79, hrow7.stp S79, (ne_of_none hu7 hs).symm, hlr, ne_of_none htl7 hr0, (ne_of_none htl7 hl0).symm, by simp; omega, few, fun _ _ => Nat.zero_le _⟩
  refine k H9 ⟨s, r, l, dx2, u, dx, f', tl, cl, c', ks, row, pre, m⟩ ⟨hA, rfl, rfl, rfl, rfl, rfl, hE2, d0, tabs_stp (tabs_stp hTb6 S7) S79, fun b o e n => ?_, fun b o e n => ?_⟩
  rotate_left
  · have hb6 : H b ≠ none := by rw [e]; simp
    have n1 : ∀ c, H7 c = none → b ≠ c := fun c hc z => hb6 (by subst z; exact hdom b (S7.dom b hc))
    have n2 : b ≠ u := fun z => hb6 (by subst z; exact hdom b hu)
    simp only [Ask.own, List.mem_cons, List.not_mem_nil, or_false, not_or]
    exact ⟨n1 _ hs, n1 _ hl0, n, n1 _ hr0, n2⟩
  have hb6 : H b ≠ none := by rw [e]; simp
  have n1 : ∀ c, H7 c = none → b ≠ c := fun c hc z => hb6 (by subst z; exact hdom b (S7.dom b hc))
  simp only [Ask.M, List.mem_cons, List.not_mem_nil, or_false, not_or]
  exact ⟨n1 _ hs, n1 _ hl0, n⟩
theorem isl_gather {α : Type} [Enc α] {K : PySem.W.Frag} {D : Addr} {H1 H2 : Hp} {us : List V} {xs : List α} {v : V} {x : α} {o : HO} (S : Stp [] H1 H2) (h : IsL K (wo D H1) us xs) (k : Is K (wo D H2) v x) : IsL K (wo D (upd H2 D o)) (us ++ [v]) (xs ++ [x]) := by
  unfold SH.IsL
  rw [List.map_append]
  exact dp_gather S h k
theorem tabs_M {A : Ad} {M : List Addr} {H H' : Hp} (h : TabsN (Tb A) H) (S : Stp M H H') (hM : A.P ∉ M) : TabsN (Tb A) H' := fun p hp => by
  rw [List.mem_singleton] at hp
  subst hp
  obtain ⟨ps, h1, h2, h3⟩ := h _ (List.mem_singleton.mpr rfl)
  exact ⟨ps, S.keep h1 hM, h2, fun pos cv hc => by obtain ⟨c, e, q⟩ := h3 pos cv hc; exact ⟨c, e, S.fix q True.intro⟩⟩
theorem tabs_at {A : Ad} {H : Hp} (h : TabsN (Tb A) H) : ∃ ps, H A.P = some (.tbl ps) := by
  obtain ⟨ps, h1, _⟩ := h _ (List.mem_singleton.mpr rfl)
  exact ⟨ps, h1⟩
theorem tabs_ask {I : Ask} {K : PySem.W.Frag} {A : Ad} {H H' : Hp} {log : List Ent} (h : TabsN (Tb A) H) (hA : I.At K A H log) (S : Stp I.M H H') : TabsN (Tb A) H' := by
  refine tabs_M h S fun z => ?_
  obtain ⟨ps, hp⟩ := tabs_at h
  obtain ⟨evs, h2, _⟩ := hA.hl
  obtain ⟨tvs, h3, _⟩ := hA.ht
  simp only [Ask.M, List.mem_cons, List.not_mem_nil, or_false] at z
  rcases z with z | z | z
  · rw [z, hA.hs] at hp; cases hp
  · rw [z, h2] at hp; cases hp
  · rw [z, h3] at hp; cases hp
theorem clo_ext {H H' : Hp} {f : Addr} {ws : List V} {cl : List (Str × Addr)} {c' : Addr} (c : Clo1 H f ws cl c') (e : ExtN H H') : Clo1 H' f ws cl c' := by
  have nt : ∀ {q : Heap → Prop} (ps : Array Value), HO.ext q ≠ HO.tbl ps := fun ps z => by cases z
  refine ⟨e _ _ c.fn (fun ps z => by cases z), e _ _ c.code (fun ps z => by cases z), c.len, fun y a h => ?_, c.inj, fun i y h => ?_⟩
  · obtain ⟨v, hv⟩ := c.cells y a h
    exact ⟨v, e _ _ hv (fun ps z => by cases z)⟩
  · obtain ⟨a, v, h1, h2, h3⟩ := c.has i y h
    exact ⟨a, v, h1, h2, e _ _ h3 (fun ps z => by cases z)⟩
theorem Ask.At.ext {I : Ask} {K : PySem.W.Frag} {A : Ad} {H H' : Hp} {log : List Ent} (h : I.At K A H log) (e : ExtN H H') : I.At K A H' log := by
  obtain ⟨evs, h1, h2⟩ := h.hl
  obtain ⟨tvs, h3, h4⟩ := h.ht
  exact ⟨e _ _ h.hs (fun ps z => by cases z), ext_lst e h.hr, ⟨evs, ext_lst e h1, isl_extN e h2⟩, e _ _ h.hu (fun ps z => by cases z), ⟨tvs, ext_lst e h3, isl_extN e h4⟩, clo_ext h.hf e, h.rk.ext e, h.d1, h.d2, h.d3, h.d4, h.few, h.rows, h.bd⟩
/-! ### places in order, dealt out -/
structure Dl (ks : List Int) (P : List (List Nat)) : Prop where
  few : P.length ≤ 40
  pw : ∀ ps ∈ P, ps.Pairwise (Ahd ks)
  nd : P.flatten.Nodup
  lt : ∀ ps ∈ P, ∀ p ∈ ps, p < ks.length
/-- one more place dealt out -/
theorem flat_set {P : List (List Nat)} {i x : Nat} {ps : List Nat} (h : P[i]? = some ps) : (P.set i (ps ++ [x])).flatten.Perm (x :: P.flatten) := by
  induction P generalizing i with
  | nil => cases h
  | cons a P ih =>
    cases i with
    | zero =>
      cases h
      simp only [List.set_cons_zero, List.flatten_cons]
      rw [List.append_assoc]
      exact List.perm_middle
    | succ i =>
      rw [List.getElem?_cons_succ] at h
      simp only [List.set_cons_succ, List.flatten_cons]
      exact (List.Perm.append_left a (ih h)).trans List.perm_middle
structure Dld (ks : List Int) (ord : List Nat) (j : Nat) (P : List (List Nat)) : Prop where
  sub : ∀ ps ∈ P, ∀ p ∈ ps, p ∈ ord.take j
  pw : ∀ ps ∈ P, ps.Pairwise (Ahd ks)
  nd : P.flatten.Nodup
theorem Dld.put {ks : List Int} {ord : List Nat} {j i x : Nat} {P : List (List Nat)} {ps : List Nat} (hO : OrdOf ks ord) (h : Dld ks ord j P) (hx : ord[j]? = some x) (hi : P[i]? = some ps) : Dld ks ord (j + 1) (P.set i (ps ++ [x])) := by
  have hpm := List.mem_of_getElem? hi
  obtain ⟨hj, hx'⟩ := List.getElem?_eq_some_iff.mp hx
  have bef : ∀ p ∈ ord.take j, Ahd ks p x ∧ p ≠ x := fun p hp => by
    obtain ⟨a, ha, e⟩ := List.getElem_of_mem hp
    rw [List.length_take] at ha
    rw [List.getElem_take] at e
    have := List.pairwise_iff_getElem.mp hO.pw a j (by omega) hj (by omega)
    rw [e, hx'] at this
    exact ⟨this, fun z => by subst z; exact Ahd.asym this this⟩
  have tk : ord.take (j + 1) = ord.take j ++ [x] := by rw [List.take_succ, hx]; rfl
  refine ⟨fun qs hq p hp => ?_, fun qs hq => ?_, (flat_set hi).nodup_iff.mpr (List.nodup_cons.mpr ⟨fun z => ?_, h.nd⟩)⟩
  · rw [tk]
    rcases List.mem_or_eq_of_mem_set hq with hq | rfl
    · exact List.mem_append_left _ (h.sub qs hq p hp)
    · rcases List.mem_append.mp hp with hp | hp
      · exact List.mem_append_left _ (h.sub ps hpm p hp)
      · exact List.mem_append_right _ hp
  · rcases List.mem_or_eq_of_mem_set hq with hq | rfl
    · exact h.pw qs hq
    · refine List.pairwise_append.mpr ⟨h.pw ps hpm, List.pairwise_singleton _ _, fun a ha b hb => ?_⟩
      rw [List.mem_singleton] at hb
      subst hb
      exact (bef a (h.sub ps hpm a ha)).1
  · obtain ⟨qs, hq, hp⟩ := List.mem_flatten.mp z
    exact (bef x (h.sub qs hq x hp)).2 rfl
theorem Dld.skip {ks : List Int} {ord : List Nat} {j : Nat} {P : List (List Nat)} (h : Dld ks ord j P) : Dld ks ord (j + 1) P := ⟨fun ps hp p hq => by
  have := h.sub ps hp p hq
  rw [List.take_succ]
  exact List.mem_append_left _ this, h.pw, h.nd⟩
theorem Dld.done {ks : List Int} {ord : List Nat} {j : Nat} {P : List (List Nat)} (hO : OrdOf ks ord) (h : Dld ks ord j P) (hf : P.length ≤ 40) : Dl ks P := ⟨hf, h.pw, h.nd, fun ps hp p hq => hO.lt (List.mem_of_mem_take (h.sub ps hp p hq))⟩
theorem Dld.nil {ks : List Int} {ord : List Nat} {m : Nat} : Dld ks ord 0 (List.replicate m []) := by
  have e : (List.replicate m ([] : List Nat)).flatten = [] := by induction m with | zero => rfl | succ m ih => rw [List.replicate_succ, List.flatten_cons, ih]; rfl
  exact ⟨(fun ps hp p hq => by rw [List.eq_of_mem_replicate hp] at hq; cases hq), (fun ps hp => by rw [List.eq_of_mem_replicate hp]; exact .nil), (by rw [e]; exact .nil)⟩
theorem nodup_len : ∀ {n : Nat} {l : List Nat}, l.Nodup → (∀ x ∈ l, x < n) → l.length ≤ n
  | 0, l, _, h => by cases l with | nil => exact Nat.le_refl _ | cons x l => exact absurd (h x (by simp)) (Nat.not_lt_zero _)
  | n + 1, l, hn, h => by
    have h1 := nodup_len (n := n) (hn.erase n) fun x hx => by
      have := hn.mem_erase_iff.mp hx
      have := h x this.2
      omega
    have h2 := List.length_erase (a := n) (l := l)
    split at h2 <;> omega
theorem Dl.sum {ks : List Int} {P : List (List Nat)} (h : Dl ks P) : (P.map List.length).sum ≤ ks.length := by
  have e : (P.map List.length).sum = P.flatten.length := by rw [List.length_flatten]
  rw [e]
  exact nodup_len h.nd fun p hp => by
    obtain ⟨ps, h1, h2⟩ := List.mem_flatten.mp hp
    exact h.lt ps h1 p h2
theorem Pls.set {H : Hp} {pa : List Addr} {P : List (List Nat)} {i : Nat} {a : Addr} {ps : List Nat} (h : Pls H pa P) (hn : pa.Nodup) (ha : pa[i]? = some a) : Pls (upd H a (.lst (nv ps))) pa (P.set i ps) := by
  refine ⟨by rw [List.length_set]; exact h.1, fun k b e => ?_⟩
  obtain ⟨qs, h1, h2⟩ := h.2 k b e
  by_cases z : k = i
  · subst z
    rw [ha] at e
    cases e
    exact ⟨ps, by rw [List.getElem?_set_self (List.getElem?_eq_some_iff.mp h1).1], upd_same⟩
  · refine ⟨qs, by rw [List.getElem?_set_ne (fun q => z q.symm)]; exact h1, upd_far (fun q => z ?_) h2⟩
    subst q
    exact (List.getElem?_inj (List.getElem?_eq_some_iff.mp e).1 hn).mp (e.trans ha.symm)
/-! ### pours by keys -/
/-- p goes on from q -/
def Ahb (b : Bool) (ks : List Int) (p q : Nat) : Prop := match b with
  | false => Ahd ks p q
  | true => Ahd ks q p
theorem Ahb.trans {b : Bool} {ks : List Int} {p q r : Nat} (h : Ahb b ks p q) (k : Ahb b ks q r) : Ahb b ks p r := by
  cases b
  · exact Ahd.trans h k
  · exact Ahd.trans k h
theorem Ahb.asym {b : Bool} {ks : List Int} {p q : Nat} (h : Ahb b ks p q) : ¬ Ahb b ks q p := by
  cases b
  · exact Ahd.asym h
  · exact Ahd.asym h
theorem goes_ahb {b : Bool} {ks : List Int} {p q : Nat} (h : p ≠ q) : goes b (decide (getE ks (max p q) < getE ks (min p q))) p q = true ↔ Ahb b ks p q := by
  cases b
  · show decide (_ = _) = true ↔ _
    rw [decide_eq_true_iff]
    exact ahd_told h
  · show (!decide (_ = _)) = true ↔ Ahd ks q p
    rw [Bool.not_eq_true', decide_eq_false_iff_not]
    have := ahd_told (ks := ks) h
    constructor
    · intro n
      exact ((Ahd.tot h).resolve_left fun z => n (this.mpr z))
    · intro a z
      exact a.asym (this.mp z)
theorem Meet.min {b : Bool} {ks : List Int} {x y : Nat × Nat} {es : List Ent} {z : Fr} (h : Meet b (some x) (some y) es z) (hT : ∀ e ∈ es, e.c = decide (getE ks e.a < getE ks e.b)) (hne : x.1 ≠ y.1) : (z = some x ∧ Ahb b ks x.1 y.1) ∨ (z = some y ∧ Ahb b ks y.1 x.1) := by
  cases h with
  | m said =>
    have e := hT _ (List.mem_cons_self ..)
    dsimp only at e
    have hg := goes_ahb (b := b) (ks := ks) hne
    rw [← e] at hg
    by_cases c : goes b said x.1 y.1 = true
    · rw [if_pos c]; exact .inl ⟨rfl, hg.mp c⟩
    · rw [if_neg c]
      refine .inr ⟨rfl, ?_⟩
      have n : ¬ Ahb b ks x.1 y.1 := fun z => c (hg.mpr z)
      cases b
      · exact (Ahd.tot hne).resolve_left n
      · exact (Ahd.tot hne).resolve_right n
theorem Tre.min {b : Bool} {ks : List Int} {F : Nat → Fr} {W : Wt} {log : List Ent} {lo hi : Nat} {z : Fr} (h : Tre b F W log lo hi z) (hT : ∀ e ∈ log, e.c = decide (getE ks e.a < getE ks e.b))
    (hd : ∀ i j x y, F i = some x → F j = some y → i ≠ j → x.1 ≠ y.1) : ∀ x, z = some x → ∀ i y, lo ≤ i → i < hi → F i = some y → y = x ∨ Ahb b ks x.1 y.1 := by
  induction h with
  | nil h => intro x e; cases e
  | @one lo h =>
    intro x e i y h1 h2 h3
    rw [show i = lo by omega, e] at h3
    exact .inl (Option.some.inj h3).symm
  | @node lo hi es x y z h hw h1 h2 h3 he i1 i2 =>
    intro u eu i v hi1 hi2 hv
    have hc := cutB_lt h
    cases x with
    | none =>
      have hn := (h1.none.mp rfl)
      have hzy : z = y := by cases h3; rfl
      by_cases q : i < cutB lo hi
      · rw [hn i hi1 q] at hv; cases hv
      · exact i2 u (hzy ▸ eu) i v (by omega) hi2 hv
    | some x =>
      cases y with
      | none =>
        have hn := (h2.none.mp rfl)
        have hzx : z = some x := by cases h3; rfl
        by_cases q : i < cutB lo hi
        · exact i1 u (hzx ▸ eu) i v hi1 q hv
        · rw [hn i (by omega) hi2] at hv; cases hv
      | some y =>
        obtain ⟨a, a1, a2, a3⟩ := h1.from.resolve_left (by simp)
        obtain ⟨c, c1, c2, c3⟩ := h2.from.resolve_left (by simp)
        have hne := hd a c x y a3.symm c3.symm (by omega)
        rcases h3.min (fun e h => hT e (he e h)) hne with ⟨e1, e2⟩ | ⟨e1, e2⟩
        · rw [eu] at e1; cases e1
          by_cases q : i < cutB lo hi
          · exact i1 u rfl i v hi1 q hv
          · rcases i2 y rfl i v (by omega) hi2 hv with w | w
            · subst w; exact .inr e2
            · exact .inr (e2.trans w)
        · rw [eu] at e1; cases e1
          by_cases q : i < cutB lo hi
          · rcases i1 x rfl i v hi1 q hv with w | w
            · subst w; exact .inr e2
            · exact .inr (e2.trans w)
          · exact i2 u rfl i v (by omega) hi2 hv
theorem Pcs.dis {I : Ask} {b : Bool} {P : List (List Nat)} {g : List Nat} (hP : Pcs I P) : ∀ i j x y, frts b P g i = some x → frts b P g j = some y → i ≠ j → x.1 ≠ y.1 := by
  intro i j x y hx hy hij e
  obtain ⟨x1, x2⟩ := x
  obtain ⟨y1, y2⟩ := y
  obtain ⟨_, ps, h1, h2, _⟩ := frts_mem hx
  obtain ⟨_, qs, h3, h4, _⟩ := frts_mem hy
  dsimp only at e
  subst e
  exact hij (flat_uniq hP.nd h1 h3 h2 h4)
/-- how many fronts there are -/
def cntF (F : Nat → Fr) (lo n : Nat) : Nat := ((List.range' lo n).filter fun i => (F i).isSome).length
theorem cntF_add {F : Nat → Fr} {lo m n : Nat} : cntF F lo (m + n) = cntF F lo m + cntF F (lo + m) n := by
  unfold cntF
  rw [← List.range'_append_1, List.filter_append, List.length_append]
theorem Hold.count {b : Bool} {F : Nat → Fr} {lo hi : Nat} {W W' : Wt} {es : List Ent} {z : Fr} (h : Hold b F lo hi W es W' z) : es.length + (if z = none then 0 else 1) = cntF F lo (hi - lo) := by
  induction h with
  | nil => simp [cntF]
  | @one lo W =>
    rw [show lo + 1 - lo = 1 by omega]
    unfold cntF
    rw [List.range'_one]
    cases e : F lo <;> simp [e]
  | @node lo hi W W1 W2 e1 e2 e3 x y z h h1 h2 h3 i1 i2 =>
    have hc := cutB_lt h
    have hf := h3.few.2
    rw [show hi - lo = (cutB lo hi - lo) + (hi - cutB lo hi) by omega, cntF_add, show lo + (cutB lo hi - lo) = cutB lo hi by omega, ← i1, ← i2]
    simp only [List.length_append]
    omega
/-- each ask is of two fronts -/
theorem Hold.ent {b : Bool} {F : Nat → Fr} {lo hi : Nat} {W W' : Wt} {es : List Ent} {z : Fr} (h : Hold b F lo hi W es W' z) : ∀ e ∈ es, ∃ i j x y, lo ≤ i ∧ i < j ∧ j < hi ∧ F i = some x ∧ F j = some y ∧ e.a = max x.1 y.1 ∧ e.b = min x.1 y.1 := by
  induction h with
  | nil => intro e he; cases he
  | one => intro e he; cases he
  | @node lo hi W W1 W2 e1 e2 e3 x y z h h1 h2 h3 i1 i2 =>
    have hc := cutB_lt h
    intro e he
    rcases List.mem_append.mp he with he | he
    · obtain ⟨i, j, x, y, a1, a2, a3, a4⟩ := i1 e he
      exact ⟨i, j, x, y, a1, a2, by omega, a4⟩
    rcases List.mem_append.mp he with he | he
    · obtain ⟨i, j, x, y, a1, a2, a3, a4⟩ := i2 e he
      exact ⟨i, j, x, y, by omega, a2, a3, a4⟩
    · have t1 := (h1.tre (log := e1) fun _ h => h).from
      have t2 := (h2.tre (log := e2) fun _ h => h).from
      cases h3 with
      | l => cases he
      | r => cases he
      | @m x y said =>
        rw [List.mem_singleton] at he
        subst he
        obtain ⟨i, a1, a2, a3⟩ := t1.resolve_left (by simp)
        obtain ⟨j, c1, c2, c3⟩ := t2.resolve_left (by simp)
        exact ⟨i, j, x, y, a1, by omega, c2, a3.symm, c3.symm, rfl, rfl⟩
theorem frts0 {P : List (List Nat)} {i m : Nat} : frts false P (List.replicate m 0) i = ((P.getD i []).head?).map fun p => (p, i) := by
  unfold frts frt
  rw [rep_get, if_neg (by decide), List.head?_eq_getElem?]
theorem cntF_head {P : List (List Nat)} {m : Nat} : cntF (frts false P (List.replicate m 0)) 0 P.length = (P.filterMap List.head?).length := by
  have key : ∀ (Q : List (List Nat)) (F : Nat → Fr) (lo : Nat), (∀ i, i < Q.length → (F (lo + i)).isSome = (Q.getD i []).head?.isSome) → cntF F lo Q.length = (Q.filterMap List.head?).length := by
    intro Q
    induction Q with
    | nil => intro F lo h; simp [cntF]
    | cons q Q ih =>
      intro F lo h
      have h0 := h 0 (by simp)
      rw [List.length_cons, Nat.add_comm, cntF_add, ih F (lo + 1) fun i hi => by have := h (i + 1) (by simp; omega); rw [show lo + 1 + i = lo + (i + 1) by omega, this]; simp]
      unfold cntF
      rw [List.range'_one]
      rw [Nat.add_zero] at h0
      simp only [List.getD_cons_zero] at h0
      cases e : q.head? with
      | none => rw [e] at h0; simp [h0, List.filterMap_cons, e]
      | some p => rw [e] at h0; simp [h0, List.filterMap_cons, e]; omega
  exact key P _ 0 fun i hi => by rw [Nat.zero_add, frts0, Option.isSome_map]
theorem heads_mem {P : List (List Nat)} {p : Nat} : p ∈ P.filterMap List.head? ↔ ∃ i, (P.getD i []).head? = some p := by
  rw [List.mem_filterMap]
  constructor
  · rintro ⟨ps, h1, h2⟩
    obtain ⟨i, hi⟩ := List.mem_iff_getElem?.mp h1
    exact ⟨i, by rw [List.getD_eq_getElem?_getD, hi]; exact h2⟩
  · rintro ⟨i, h⟩
    rw [List.getD_eq_getElem?_getD] at h
    cases e : P[i]? with
    | none => rw [e] at h; cases h
    | some ps => rw [e] at h; exact ⟨ps, List.mem_of_getElem? e, h⟩
theorem Hold.zero {b : Bool} {F : Nat → Fr} {lo hi : Nat} {W W' : Wt} {es : List Ent} {z : Fr} (h : Hold b F lo hi W es W' z) (hz : z = none) : es.length = 0 := by
  have hc := h.count
  have hn := (h.tre (log := es) fun _ h => h).none.mp hz
  have hl := h.le
  have : cntF F lo (hi - lo) = 0 := by
    unfold cntF
    rw [List.length_eq_zero_iff, List.filter_eq_nil_iff]
    intro i hi
    rw [List.mem_range'_1] at hi
    rw [hn i hi.1 (by omega)]
    simp
  rw [if_pos hz] at hc
  omega
/-! ### what is left of the pieces, and what was taken -/
def remi (b : Bool) (P : List (List Nat)) (g : List Nat) (i : Nat) : List Nat := (if b = true then (P.getD i []).reverse else P.getD i []).drop (g.getD i 0)
def rems (b : Bool) (P : List (List Nat)) (g : List Nat) : List (List Nat) := (List.range P.length).map (remi b P g)
theorem rems_len {b : Bool} {P : List (List Nat)} {g : List Nat} : (rems b P g).length = P.length := by simp [rems]
theorem rems_at {b : Bool} {P : List (List Nat)} {g : List Nat} {i : Nat} (h : i < P.length) : (rems b P g)[i]? = some (remi b P g i) := by simp [rems, h]
theorem rems_zero {P : List (List Nat)} : rems false P (List.replicate P.length 0) = P := by
  apply List.ext_getElem?
  intro i
  by_cases h : i < P.length
  · rw [rems_at h]
    unfold remi
    rw [rep_get, if_neg (by decide), List.drop_zero, List.getD_eq_getElem?_getD, List.getElem?_eq_getElem h]
    rfl
  · rw [List.getElem?_eq_none (by rw [rems_len]; omega), List.getElem?_eq_none (by omega)]
theorem frts_head {b : Bool} {P : List (List Nat)} {g : List Nat} {i : Nat} : frts b P g i = ((remi b P g i).head?).map fun p => (p, i) := by
  unfold frts frt remi
  rw [List.head?_drop]
theorem remi_len {b : Bool} {P : List (List Nat)} {g : List Nat} {i : Nat} : (remi b P g i).length = (P.getD i []).length - g.getD i 0 := by
  unfold remi
  rw [List.length_drop]
  cases b <;> simp
theorem rems_sum {b : Bool} {P : List (List Nat)} {g : List Nat} (hl : g.length = P.length) (h : ∀ i, g.getD i 0 ≤ (P.getD i []).length) : ((rems b P g).map List.length).sum + g.sum = (P.map List.length).sum := by
  have e : (rems b P g).map List.length = (List.range P.length).map fun i => (P.getD i []).length - g.getD i 0 := by
    unfold rems
    rw [List.map_map]
    exact List.map_congr_left fun i _ => remi_len
  rw [e]
  clear e
  induction P generalizing g with
  | nil => cases g with
    | nil => rfl
    | cons x g => simp at hl
  | cons ps P ih =>
    cases g with
    | nil => simp at hl
    | cons x g =>
      have h0 := h 0
      have := ih (g := g) (by simpa using hl) fun i => by have := h (i + 1); simpa using this
      rw [List.length_cons, List.range_succ_eq_map, List.map_cons, List.map_map, List.sum_cons, List.sum_cons, List.map_cons, List.sum_cons]
      simp only [List.getD_cons_zero] at h0 ⊢
      have e2 : ((fun i => ((ps :: P).getD i []).length - (x :: g).getD i 0) ∘ Nat.succ) = fun i => (P.getD i []).length - g.getD i 0 := by
        funext i; simp
      rw [e2]
      omega
theorem flat_pop {P : List (List Nat)} {i x : Nat} {t : List Nat} (h : P[i]? = some (x :: t)) : P.flatten.Perm (x :: (P.set i t).flatten) := by
  induction P generalizing i with
  | nil => cases h
  | cons a P ih =>
    cases i with
    | zero => cases h; exact List.Perm.refl _
    | succ i =>
      rw [List.getElem?_cons_succ] at h
      simp only [List.set_cons_succ, List.flatten_cons]
      exact (List.Perm.append_left a (ih h)).trans List.perm_middle
theorem remi_set {b : Bool} {P : List (List Nat)} {g : List Nat} {n i : Nat} (hn : n < g.length) : remi b P (g.set n (g.getD n 0 + 1)) i = if i = n then (remi b P g n).tail else remi b P g i := by
  unfold remi
  rw [getD_set hn]
  by_cases e : i = n
  · subst e; rw [if_pos rfl, if_pos rfl, List.tail_drop]
  · rw [if_neg e, if_neg e]
theorem rems_set {b : Bool} {P : List (List Nat)} {g : List Nat} {n : Nat} (hn : n < g.length) : rems b P (g.set n (g.getD n 0 + 1)) = (rems b P g).set n (remi b P g n).tail := by
  apply List.ext_getElem?
  intro i
  by_cases h : i < P.length
  · rw [rems_at h, remi_set hn]
    by_cases e : i = n
    · subst e; rw [if_pos rfl, List.getElem?_set_self (by rw [rems_len]; exact h)]
    · rw [if_neg e, List.getElem?_set_ne (fun z => e z.symm), rems_at h]
  · rw [List.getElem?_eq_none (by rw [rems_len]; omega), List.getElem?_eq_none (by rw [List.length_set, rems_len]; omega)]
theorem remi_pw {b : Bool} {ks : List Int} {P : List (List Nat)} {g : List Nat} (h : ∀ ps ∈ P, ps.Pairwise (Ahd ks)) (i : Nat) : (remi b P g i).Pairwise (Ahb b ks) := by
  unfold remi
  refine List.Pairwise.sublist (List.drop_sublist _ _) ?_
  have hp : (P.getD i []).Pairwise (Ahd ks) := by
    rw [List.getD_eq_getElem?_getD]
    cases e : P[i]? with
    | none => exact .nil
    | some ps => exact h ps (List.mem_of_getElem? e)
  cases b
  · rw [if_neg (by decide)]; exact hp
  · rw [if_pos rfl]; exact List.pairwise_reverse.mpr hp
/-- what was taken so far -/
structure Tkn (b : Bool) (ks : List Int) (P : List (List Nat)) (g : List Nat) (ord : List Nat) : Prop where
  pw : ord.Pairwise (Ahb b ks)
  bef : ∀ p ∈ ord, ∀ qs ∈ rems b P g, ∀ q ∈ qs, Ahb b ks p q
  perm : (ord ++ (rems b P g).flatten).Perm (rems b P (List.replicate P.length 0)).flatten
theorem Tkn.zero {b : Bool} {ks : List Int} {P : List (List Nat)} : Tkn b ks P (List.replicate P.length 0) [] := ⟨.nil, by simp, .refl _⟩
/-- the top is foremost of all that is left -/
theorem Tre.fore {b : Bool} {ks : List Int} {P : List (List Nat)} {g : List Nat} {W : Wt} {log : List Ent} {x : Nat × Nat} (h : Tre b (frts b P g) W log 0 P.length (some x)) (hT : ∀ e ∈ log, e.c = decide (getE ks e.a < getE ks e.b)) (hd : ∀ i j x y, frts b P g i = some x → frts b P g j = some y → i ≠ j → x.1 ≠ y.1) (hs : ∀ ps ∈ P, ps.Pairwise (Ahd ks)) :
    x.2 < P.length ∧ ∃ t, remi b P g x.2 = x.1 :: t ∧ (∀ q ∈ t, Ahb b ks x.1 q) ∧ ∀ i, i < P.length → i ≠ x.2 → ∀ q ∈ remi b P g i, Ahb b ks x.1 q := by
  obtain ⟨n, _, hn, hf⟩ := h.from.resolve_left (by simp)
  rw [frts_head] at hf
  obtain ⟨p, hp, e⟩ := Option.map_eq_some_iff.mp hf.symm
  subst e
  obtain ⟨t, ht⟩ : ∃ t, remi b P g n = p :: t := by
    cases e : remi b P g n with
    | nil => rw [e] at hp; cases hp
    | cons a t => rw [e] at hp; cases hp; exact ⟨t, rfl⟩
  have hpw := remi_pw (b := b) (g := g) hs n
  rw [ht, List.pairwise_cons] at hpw
  refine ⟨hn, t, ht, hpw.1, fun i hi hne q hq => ?_⟩
  cases e : remi b P g i with
  | nil => rw [e] at hq; cases hq
  | cons a t2 =>
    have hfi : frts b P g i = some (a, i) := by rw [frts_head, e]; rfl
    have hfn : frts b P g n = some (p, n) := by rw [frts_head, ht]; rfl
    have hpw2 := remi_pw (b := b) (g := g) hs i
    rw [e, List.pairwise_cons] at hpw2
    have h1 : Ahb b ks p a := (h.min hT hd (p, n) rfl i (a, i) (Nat.zero_le _) hi hfi).resolve_left fun z => hne (by cases z; rfl)
    rw [e] at hq
    rcases List.mem_cons.mp hq with rfl | hq
    · exact h1
    · exact h1.trans (hpw2.1 q hq)
theorem Tkn.take {b : Bool} {ks : List Int} {P : List (List Nat)} {g : List Nat} {ord t : List Nat} {x : Nat × Nat} (h : Tkn b ks P g ord) (hg : g.length = P.length) (hn : x.2 < P.length) (ht : remi b P g x.2 = x.1 :: t) (h1 : ∀ q ∈ t, Ahb b ks x.1 q) (h2 : ∀ i, i < P.length → i ≠ x.2 → ∀ q ∈ remi b P g i, Ahb b ks x.1 q) :
    Tkn b ks P (g.set x.2 (g.getD x.2 0 + 1)) (ord ++ [x.1]) := by
  have hx : (rems b P g)[x.2]? = some (x.1 :: t) := by rw [rems_at hn, ht]
  have es : rems b P (g.set x.2 (g.getD x.2 0 + 1)) = (rems b P g).set x.2 t := by rw [rems_set (by omega), ht]; rfl
  have sub : ∀ qs ∈ rems b P (g.set x.2 (g.getD x.2 0 + 1)), ∀ q ∈ qs, (∃ rs ∈ rems b P g, q ∈ rs) ∧ Ahb b ks x.1 q := fun qs hqs q hq => by
    rw [es] at hqs
    obtain ⟨i, hi⟩ := List.mem_iff_getElem?.mp hqs
    have hil : i < P.length := by have := (List.getElem?_eq_some_iff.mp hi).1; rwa [List.length_set, rems_len] at this
    by_cases e : i = x.2
    · subst e
      rw [List.getElem?_set_self (by rw [rems_len]; exact hn)] at hi
      cases hi
      exact ⟨⟨_, List.mem_of_getElem? hx, by simp [hq]⟩, h1 q hq⟩
    · rw [List.getElem?_set_ne (fun z => e z.symm), rems_at hil] at hi
      cases hi
      exact ⟨⟨_, List.mem_of_getElem? (rems_at hil), hq⟩, h2 i hil e q hq⟩
  refine ⟨List.pairwise_append.mpr ⟨h.pw, List.pairwise_singleton _ _, fun a ha c hc => ?_⟩, fun p hp qs hqs q hq => ?_, ?_⟩
  · rw [List.mem_singleton] at hc
    subst hc
    exact h.bef a ha _ (List.mem_of_getElem? hx) _ (by simp)
  · obtain ⟨⟨rs, hr1, hr2⟩, hA⟩ := sub qs hqs q hq
    rcases List.mem_append.mp hp with hp | hp
    · exact h.bef p hp rs hr1 q hr2
    · rw [List.mem_singleton] at hp; subst hp; exact hA
  · rw [es, List.append_assoc, List.singleton_append]
    exact (List.Perm.append_left ord (flat_pop hx).symm).trans h.perm
/-- there is a top while something is left -/
theorem Tre.left0 {b : Bool} {P : List (List Nat)} {g : List Nat} {W : Wt} {log : List Ent} {z : Fr} (h : Tre b (frts b P g) W log 0 P.length z) (hl : g.length = P.length) (hg : ∀ i, g.getD i 0 ≤ (P.getD i []).length) : z = Option.none ↔ ((rems b P g).map List.length).sum = 0 := by
  rw [h.none]
  have key : ∀ L : List (List Nat), (L.map List.length).sum = 0 ↔ ∀ ps ∈ L, ps = [] := fun L => by
    induction L with
    | nil => simp
    | cons ps L ih => simp only [List.map_cons, List.sum_cons, Nat.add_eq_zero_iff, ih, List.length_eq_zero_iff, List.forall_mem_cons]
  rw [key]
  constructor
  · intro h1 ps hps
    obtain ⟨i, hi, e⟩ := List.mem_map.mp hps
    have := h1 i (Nat.zero_le _) (List.mem_range.mp hi)
    rw [frts_head, Option.map_eq_none_iff, List.head?_eq_none_iff] at this
    rw [← e, this]
  · intro h1 i _ hi
    rw [frts_head, h1 _ (List.mem_of_getElem? (rems_at hi))]
    rfl
theorem TakeR.ent {b : Bool} {F : Nat → Fr} {W W' : Wt} {n : Nat} {x z w : Fr} {lo hi : Nat} {es log : List Ent} (h : TakeR b W n x lo hi es W' z) (t : Tre b F W log lo hi w) : ∀ e ∈ es, ∃ i j u v, i ≠ j ∧ i < hi ∧ j < hi ∧ (if i = n then x else F i) = some u ∧ (if j = n then x else F j) = some v ∧ e.a = max u.1 v.1 ∧ e.b = min u.1 v.1 := by
  induction h generalizing w with
  | one => intro e he; cases he
  | @left lo hi e1 e2 W1 h y z hl hn k hy hm ih =>
    intro e he
    have hc := cutB_lt hl
    have hk := k.in
    cases t with
    | nil => omega
    | one => omega
    | @node _ _ es' x' y' z' _ hw h1 h2 h3 he' =>
      rcases List.mem_append.mp he with he | he
      · obtain ⟨i, j, u, v, a1, a2, a3, a4⟩ := ih h1 e he
        exact ⟨i, j, u, v, a1, by omega, by omega, a4⟩
      · have t1 := (k.tre0 h1).from
        have ey : y' = y := by have := h2.at; rw [hy] at this; exact (Option.some.inj this).symm
        subst ey
        have t2 := h2.from
        cases hm with
        | l => cases he
        | r => cases he
        | @m u v said =>
          rw [List.mem_singleton] at he
          subst he
          obtain ⟨i, a1, a2, a3⟩ := t1.resolve_left (by simp)
          obtain ⟨j, c1, c2, c3⟩ := t2.resolve_left (by simp)
          exact ⟨i, j, u, v, by omega, by omega, c2, a3.symm, by rw [if_neg (by omega)]; exact c3.symm, rfl, rfl⟩
  | @right lo hi e1 e2 W1 h y z hl hn k hy hm ih =>
    intro e he
    have hc := cutB_lt hl
    have hk := k.in
    cases t with
    | nil => omega
    | one => omega
    | @node _ _ es' x' y' z' _ hw h1 h2 h3 he' =>
      rcases List.mem_append.mp he with he | he
      · obtain ⟨i, j, u, v, a1, a2, a3, a4⟩ := ih h2 e he
        exact ⟨i, j, u, v, a1, a2, a3, a4⟩
      · have t1 := (k.tre0 h2).from
        have ey : x' = y := by have := h1.at; rw [hy] at this; exact (Option.some.inj this).symm
        subst ey
        have t2 := h1.from
        cases hm with
        | l => cases he
        | r => cases he
        | @m u v said =>
          rw [List.mem_singleton] at he
          subst he
          obtain ⟨i, a1, a2, a3⟩ := t1.resolve_left (by simp)
          obtain ⟨j, c1, c2, c3⟩ := t2.resolve_left (by simp)
          exact ⟨j, i, u, v, by omega, by omega, a2, by rw [if_neg (by omega)]; exact c3.symm, a3.symm, rfl, rfl⟩
theorem TakeR.deep {b : Bool} {W W' : Wt} {n : Nat} {x z : Fr} {lo hi : Nat} {es : List Ent} (h : TakeR b W n x lo hi es W' z) : ∀ d, hi - lo ≤ 2 ^ d → es.length ≤ d := by
  induction h with
  | one => intro d _; exact Nat.zero_le _
  | @left lo hi e1 e2 W1 h y z hl hn k hy hm ih =>
    intro d hd
    have hf := hm.few.1
    cases d with
    | zero => simp at hd; omega
    | succ d =>
      rw [Nat.pow_succ] at hd
      have := ih d (by unfold cutB; omega)
      rw [List.length_append]; omega
  | @right lo hi e1 e2 W1 h y z hl hn k hy hm ih =>
    intro d hd
    have hf := hm.few.1
    cases d with
    | zero => simp at hd; omega
    | succ d =>
      rw [Nat.pow_succ] at hd
      have := ih d (by unfold cutB; omega)
      rw [List.length_append]; omega
theorem isl_ofat {α : Type} [Enc α] {K : PySem.W.Frag} {H : Hp} : ∀ {vs : List V} {xs : List α}, vs.length = xs.length → (∀ (i : Nat) (v : V) (x : α), vs[i]? = some v → xs[i]? = some x → SH.Is K H v x) → SH.IsL K H vs xs
  | [], [], _, _ => isl_nil
  | [], _ :: _, h, _ => by simp at h
  | _ :: _, [], h, _ => by simp at h
  | v :: vs, x :: xs, h, k => isl_cons (k 0 v x rfl rfl) (isl_ofat (by simpa using h) fun i v' x' hv hx => k (i + 1) v' x' (by rw [List.getElem?_cons_succ]; exact hv) (by rw [List.getElem?_cons_succ]; exact hx))
theorem isl_take {K : PySem.W.Frag} {H : Hp} {α : Type} [Enc α] {vs : List V} {xs : List α} {n : Nat} (h : IsL K H vs xs) : IsL K H (vs.take n) (xs.take n) :=
  isl_ofat (by rw [List.length_take, List.length_take, isl_len h]) fun i v x hv hx => by
    have hi : i < n := by have := (List.getElem?_eq_some_iff.mp hv).1; rw [List.length_take] at this; omega
    rw [List.getElem?_take_of_lt hi] at hv hx
    obtain ⟨x', hx', r⟩ := isl_at h hv
    rw [hx] at hx'
    cases hx'
    exact r
theorem isl_drop {K : PySem.W.Frag} {H : Hp} {α : Type} [Enc α] {vs : List V} {xs : List α} {n : Nat} (h : IsL K H vs xs) : IsL K H (vs.drop n) (xs.drop n) :=
  isl_ofat (by rw [List.length_drop, List.length_drop, isl_len h]) fun i v x hv hx => by
    rw [List.getElem?_drop] at hv hx
    obtain ⟨x', hx', r⟩ := isl_at h hv
    rw [hx] at hx'
    cases hx'
    exact r
/-! ### bits -/
theorem bits_lt {n : Int} (h : 1 ≤ n) : n < 2 ^ Builtin.Int.intBits n := by
  unfold Builtin.Int.intBits
  rw [if_neg (by simp; omega)]
  have h1 : n.natAbs < 2 ^ (n.natAbs.log2 + 1) := Nat.lt_log2_self
  have h2 : n = (n.natAbs : Int) := by omega
  rw [h2]
  have h3 : ((n.natAbs : Nat) : Int) < ((2 ^ (n.natAbs.log2 + 1) : Nat) : Int) := by exact_mod_cast h1
  simpa using h3
theorem bits_le {n : Int} {k : Nat} (h : n < 2 ^ k) (h0 : 0 ≤ n) : Builtin.Int.intBits n ≤ k := by
  unfold Builtin.Int.intBits
  by_cases e : n = 0
  · subst e; simp
  · rw [if_neg (by simp; omega)]
    have h2 : n = (n.natAbs : Int) := by omega
    have h3 : n.natAbs < 2 ^ k := by
      rw [h2] at h
      exact_mod_cast h
    have h4 : n.natAbs ≠ 0 := by omega
    exact (Nat.log2_lt h4).mpr h3
theorem bits_half {d : Nat} (h : 0 < d) : Builtin.Int.intBits (d : Int) = Builtin.Int.intBits ((d / 2 : Nat) : Int) + 1 := by
  unfold Builtin.Int.intBits
  rw [if_neg (by simp; omega)]
  have e1 : ((d : Nat) : Int).natAbs = d := by omega
  have e2 : ((d / 2 : Nat) : Int).natAbs = d / 2 := by omega
  rw [e1, e2]
  by_cases h2 : d / 2 = 0
  · have : d = 1 := by omega
    subst this
    rfl
  · rw [if_neg (by simp; omega), Nat.log2_def d, if_pos (by omega)]
theorem bits_mono {a b : Nat} (h : a ≤ b) : Builtin.Int.intBits (a : Int) ≤ Builtin.Int.intBits (b : Int) := by
  induction b using Nat.strongRecOn generalizing a with
  | _ b ih =>
    by_cases ha : a = 0
    · subst ha; simp [Builtin.Int.intBits]
    · rw [bits_half (by omega : 0 < a), bits_half (by omega : 0 < b)]
      have := ih (b / 2) (by omega) (a := a / 2) (by omega)
      omega
def sp__law_dealt (K : PySem.W.Frag) (A : Ad) : Sp := fun vs H Q _ => ∃ (kl a0 : Addr) (ks ns : List Int), vs = [.ref kl, .ref a0] ∧ (H kl = some (.lst (ks.map V.int)) ∧ SqL K H a0 (ns.map V.int) ∧ ks.length < 120) ∧
  ∀ q H' pa P, H q = none → Stp [] H H' → H' q = some (.lst (pa.map V.ref)) → Pls H' pa P → (∀ a ∈ pa, H a = none ∧ a ≠ q) → pa.Nodup → Dl ks P → Q (.ref q) H'
theorem ok__law_dealt {P : Program} {w : World} {K : PySem.W.Frag} {mg : Str → Option Value} {base : Heap} {A : Ad} {f : Addr} {fd : FuncData} (F : Fun K "_law_dealt" "_law_dealt" s__law_dealt f fd) (T : Txt K mg A) (C__law_cell_at : SH.Cal P w K mg base CX0 1 "_law_cell_at" [] (sp__law_cell_at K A)) (C__law_digits : SH.Cal P w K mg base CX0 2 "_law_digits" [] (sp__law_digits K A)) (C__law_stream : SH.Cal P w K mg base CX0 1 "_law_stream" [] (sp__law_stream K A)) : FnOk P w K mg base CX0 3 f fd ["_law_keys_here", "_law_script"] (sp__law_dealt K A) := by
  refine F.ok sc__law_dealt (fun vs H Q E h => by obtain ⟨_, _, _, _, rfl, _⟩ := h; rfl) (fun cdv A' outer s H vs Q E hr h => ?_)
  obtain ⟨kl, a0, ks, ns, rfl, ⟨hK, hS, hkl⟩, k⟩ := h
  refine ⟨_, (pss_cons (ps_set (i := 2) sc__law_dealt.nd rfl (Or.inl rfl) (SH.pe_callF C__law_cell_at hr (by rfl) pass0 (pa_cons (pv 1) (pa_cons pe_int pa_nil))))
        (pss_cons (ps_set (i := 3) sc__law_dealt.nd rfl (Or.inl rfl) (SH.pe_callF C__law_cell_at hr (by rfl) pass0 (pa_cons (pv 1) (pa_cons pe_int pa_nil))))
        (pss_cons (ps_set (i := 4) sc__law_dealt.nd rfl (Or.inl rfl) (pe_cmpR (SH.oEq hr.units) (pe_op SH.oMod (pe_op SH.oDiv (SH.pe_callF C__law_cell_at hr (by rfl) pass0 (pa_cons (pv 1) (pa_cons pe_int pa_nil))) pe_int) pe_int) pe_int (nomark _)))
        (pss_cons (ps_set (i := 5) sc__law_dealt.nd rfl (Or.inl rfl) (pe_op SH.oMod (pv 2) pe_int))
        (pss_cons (ps_if (pt_cmpR (SH.oEq hr.units) (pe_op SH.oMod (pe_op SH.oDiv (pv 2) pe_int) pe_int) pe_int (nomark _)) (pss_one (ps_set (i := 5) sc__law_dealt.nd rfl (Or.inl rfl) (pe_op SH.oMod (pe_op SH.oDiv (pv 2) pe_int) pe_int))) pss_nil)
        (pss_cons (ps_setLc (i := 7) (own := [("_law_number", 6)]) (g := (gName 6)) (tt := tYes) (by rfl) sc__law_dealt.nd rfl rfl (sw_true rfl rfl rfl (by decide +kernel)) (pi_range1 (by rfl) T.z_range (pa_cons (pv 5) pa_nil)) (blkOk_by (own := [("_law_number", 6)]) (N := ["_law_keys_here", "_law_script", "_law_cell", "_law_mix", "_law_digits_here", "_law_many", "_law_number", "_law_pieces", "_law_some", "_law_place", "_law_pair", "_law_p"]) (sc := defScope s__law_dealt) (by decide +kernel)) (fun _ _ _ _ _ => (pg_name (i := 6) sc__law_dealt.nd rfl (Or.inl rfl))) (fun _ _ _ _ _ => pts_nil) (fun _ _ _ _ _ => (pe_lst pa_nil)))
        (pss_cons (ps_setLc (i := 8) (own := [("_law_number", 6)]) (g := (gName 6)) (tt := tYes) (by rfl) sc__law_dealt.nd rfl rfl (sw_true rfl rfl rfl (by decide +kernel)) (pi_list (SH.pe_callF C__law_stream hr (by rfl) pass0 (pa_cons (pe_op SH.oDiv (pv 3) pe_int) (pa_cons (pe_callB SH.cLen (by rfl) T.z_len (by decide +kernel) (pa_cons (pv 0) pa_nil)) pa_nil)))) (blkOk_by (own := [("_law_number", 6)]) (N := ["_law_keys_here", "_law_script", "_law_cell", "_law_mix", "_law_digits_here", "_law_many", "_law_number", "_law_pieces", "_law_some", "_law_place", "_law_pair", "_law_p"]) (sc := defScope s__law_dealt) (by decide +kernel)) (fun _ _ _ _ _ => (pg_name (i := 6) sc__law_dealt.nd rfl (Or.inl rfl))) (fun _ _ _ _ _ => pts_nil) (fun _ _ _ _ _ => (pe_op SH.oDiv (pv 6) pe_int)))
        (pss_cons (ps_if (pt_val (pv 4)) (pss_one (ps_set (i := 8) sc__law_dealt.nd rfl (Or.inl rfl) (SH.pe_callF C__law_digits hr (by rfl) pass0 (pa_cons (pv 1) (pa_cons pe_int (pa_cons pe_int pa_nil)))))) pss_nil)
        (pss_cons (ps_for PassesOwn.never rfl (pi_list (pe_lc (own := [("_law_pair", 10)]) (g := (gName 10)) (tt := tYes) (by rfl) sc__law_dealt.nd (pi_list (pe_callB cr_sortedPO (by rfl) T.z_sorted (by decide +kernel) (pa_cons (pe_lc (own := [("_law_p", 11)]) (g := (gName 11)) (tt := tYes) (by rfl) sc__law_dealt.nd (pi_range1 (by rfl) T.z_range (pa_cons (pe_callB SH.cLen (by rfl) T.z_len (by decide +kernel) (pa_cons (pv 0) pa_nil)) pa_nil)) (blkOk_by (own := [("_law_p", 11)]) (N := ["_law_keys_here", "_law_script", "_law_cell", "_law_mix", "_law_digits_here", "_law_many", "_law_number", "_law_pieces", "_law_some", "_law_place", "_law_pair", "_law_p"]) (sc := defScope s__law_dealt) (by decide +kernel)) (fun _ _ _ _ _ => (pg_name (i := 11) sc__law_dealt.nd rfl (Or.inl rfl))) (fun _ _ _ _ _ => pts_nil) (fun _ _ _ _ _ => (pe_tup (pa_cons (pe_ix (SH.ixK SH.aIx K SH.ixA) (pv 0) (pv 11) (fun _ _ => rfl)) (pa_cons (pv 11) pa_nil))))) pa_nil))) (blkOk_by (own := [("_law_pair", 10)]) (N := ["_law_keys_here", "_law_script", "_law_cell", "_law_mix", "_law_digits_here", "_law_many", "_law_number", "_law_pieces", "_law_some", "_law_place", "_law_pair", "_law_p"]) (sc := defScope s__law_dealt) (by decide +kernel)) (fun _ _ _ _ _ => (pg_name (i := 10) sc__law_dealt.nd rfl (Or.inl rfl))) (fun _ _ _ _ _ => pts_nil) (fun _ _ _ _ _ => (pe_ix (SH.ixK SH.aIx K SH.ixA) (pv 10) pe_int (fun _ _ => rfl))))) (pg_name (i := 9) sc__law_dealt.nd rfl (Or.inl rfl)) (pss_cons (ps_set (i := 6) sc__law_dealt.nd rfl (Or.inl rfl) (pe_op SH.oMod (pe_ix SH.ixA (pv 8) (pv 9) (fun _ _ => rfl)) (pe_op SH.oAdd (pv 5) pe_int)))
        (pss_cons (ps_if (PW.pt (pw_and (pt_cmpR SH.oGt (pv 5) pe_int (nomark _)) (pw_and (pt_cmpR (SH.oEq hr.units) (pe_op SH.oMod (pv 3) pe_int) pe_int (nomark _)) (pw_and1 (pt_not (pt_val (pv 4))))))) (pss_one (ps_set (i := 6) sc__law_dealt.nd rfl (Or.inl rfl) (pe_op SH.oDiv (pe_op SH.oMul (pv 9) (pv 5)) (pe_callB SH.cLen (by rfl) T.z_len (by decide +kernel) (pa_cons (pv 0) pa_nil))))) pss_nil)
        (pss_one (ps_if (pt_cmpR (SH.oLt hr.units0) (pv 6) (pv 5) (nomark _)) (pss_one (ps_expr (pe_bm PySem.F.plainAttrs_list PySem.F.slot_list_append PySem.F.type_list_append mt_append (pe_ix SH.ixA (pv 7) (pv 6) (fun _ _ => rfl)) (pa_cons (pv 9) pa_nil)))) pss_nil)))))
        (pss_one (ps_ret (pv 7)))))))))))), ?_⟩
  walk_at "begin"
  walk_at "rd"
  refine ⟨a0, ns, 2, rfl, hS, fun cell => ?_⟩
  walk_at "rd"
  refine ⟨a0, ns, 3, rfl, hS, fun mix => ?_⟩
  walk_at "rd"
  refine ⟨a0, ns, 0, rfl, hS, fun c0 => ?_⟩
  walk_at "rd"
  generalize hdg : decide (c0 / 32 % 2 = 1) = dg
  refine r_wJ (W := fun σ' H' => H = H' ∧ ∃ m : Nat, m ≤ 40 ∧ σ' = [some (.ref kl), some (.ref a0), some (.int cell), some (.int mix), some (.bl dg), some (.int m), none, none, none, none, none, none]) ?_ (fun hc N hN => ?_) (fun hc N hN => ?_)
  rotate_left
  · walk_at "rd"
    obtain ⟨m, hm⟩ : ∃ m : Nat, cell / 36 % 41 = m := ⟨(cell / 36 % 41).toNat, by omega⟩
    rw [hm]
    exact hN _ _ ⟨rfl, m, by omega, rfl⟩
  · walk_at "rd"
    obtain ⟨m, hm⟩ : ∃ m : Nat, cell % 9 = m := ⟨(cell % 9).toNat, by omega⟩
    rw [hm]
    exact hN _ _ ⟨rfl, m, by omega, rfl⟩
  rintro σ' H0 ⟨rfl, m, hm, rfl⟩
  dsimp only
  walk_at "rd"
  intro D hDf
  refine lc_it walk_range (fun j H' => Stp [] H H' ∧ ∃ pa : List Addr, pa.length = j ∧ pa.Nodup ∧ (∀ a ∈ pa, H a = none ∧ a ≠ D ∧ H' a = some (.lst [])) ∧ H' D = some (.lst (pa.map V.ref))) ⟨(Stp.refl _ _).new hDf, [], rfl, .nil, (by simp), upd_same⟩ (fun _ _ _ _ => True.intro) ?_ ?_
  · rintro j x H3 H4 hj ⟨S, pa, hpal, hpn, hpa, hL⟩ ⟨rfl, rfl⟩
    walk_at "rd"
    intro l hl
    have hlD : l ≠ D := (ne_of_none hL hl).symm
    refine ⟨_, upd_old hL hl, Nat.lt_of_le_of_lt (m := 1000) (by rw [List.length_map]; omega) (by decide), (S.new hl).putN hDf, pa ++ [l], by simp [hpal], ?_, fun b hb => ?_, by rw [upd_same, List.map_append]; rfl⟩
    · refine List.nodup_append.mpr ⟨hpn, by simp, fun a ha b hb z => ?_⟩
      rw [List.mem_singleton] at hb
      subst z
      subst hb
      rw [(hpa a ha).2.2] at hl
      cases hl
    · rcases List.mem_append.mp hb with hb | hb
      · obtain ⟨q1, q2, q3⟩ := hpa b hb
        exact ⟨q1, q2, upd_far q2 (upd_old q3 hl)⟩
      · rw [List.mem_singleton] at hb
        subst hb
        exact ⟨S.dom _ hl, hlD, upd_far hlD upd_same⟩
  rintro H1 ⟨S1, pa, hpal, hpn, hpa, hD1⟩
  rw [show ((m : Nat) : Int).toNat = m by omega] at hpal
  have hK1 := S1.keep0 hK
  have hpls1 : Pls H1 pa (List.replicate m []) := ⟨by simp [hpal], fun i a e => ⟨[], by rw [List.getElem?_replicate, if_pos (by have := (List.getElem?_eq_some_iff.mp e).1; omega)], (hpa a (List.mem_of_getElem? e)).2.2⟩⟩
  have hpf : ∀ a ∈ pa, H a = none ∧ a ≠ D := fun a ha => ⟨(hpa a ha).1, (hpa a ha).2.1⟩
  clear hpa
  walk_at "rd"
  refine ⟨mix / 2, ks.length, rfl, by omega, fun st0 H1b ms0 hst0 S1b hSt0 hml0 hm00 => ?_⟩
  walk_at "rd"
  intro D9 hD9
  refine lc_it (walk_list (xs := ms0.map V.int)) (fun j H' => Stp [] H1b H' ∧ ∃ us : List Int, us.length = j ∧ (∀ u ∈ us, 0 ≤ u) ∧ H' D9 = some (.lst (us.map V.int))) ⟨(Stp.refl _ _).new hD9, [], rfl, by simp, upd_same⟩ (fun j H' _ z => z.1.sql0 (SqL.of hSt0)) ?_ ?_
  · rintro j x H3 H4 hj ⟨S, us, hul, hu0, hL⟩ ⟨rfl, hx⟩
    obtain ⟨n, hn, rfl⟩ := map_at hx
    have hn0 := hm00 n (List.mem_of_getElem? hn)
    rw [List.length_map] at hj
    walk_at "rd"
    refine ⟨_, hL, Nat.lt_of_le_of_lt (m := 1000) (by rw [List.length_map]; omega) (by decide), S.putN hD9, us ++ [n / 7], by simp [hul], fun u hu => ?_, by rw [upd_same, List.map_append]; rfl⟩
    rcases List.mem_append.mp hu with hu | hu
    · exact hu0 u hu
    · rw [List.mem_singleton] at hu; omega
  rintro H1c ⟨S1c, us, hul, hu0, hus⟩
  rw [List.length_map, hml0] at hul
  have S1bc := S1b.trans S1c
  have hK1c := S1bc.keep0 hK1
  have hS1c := (S1.trans S1bc).sql0 hS
  have hD1c := S1bc.keep0 hD1
  walk_at "rd"
  subst hdg
  refine r_wJ (W := fun σ' H' => Stp [] H1 H' ∧ ∃ (st : Addr) (ms : List Int), H1 st = none ∧ H' st = some (.lst (ms.map V.int)) ∧ ks.length ≤ ms.length ∧ (∀ m ∈ ms, 0 ≤ m) ∧ σ' = [some (.ref kl), some (.ref a0), some (.int cell), some (.int mix), some (.bl (decide (c0 / 32 % 2 = 1))), some (.int m), none, some (.ref D), some (.ref st), none, none, none]) ?_ (fun hc N hN => ?_) (fun hc N hN => ?_)
  rotate_left
  · walk_at "rd"
    refine ⟨a0, ns, 6, 41, rfl, ⟨hS1c, by decide, by decide⟩, fun q H2 ms hq S2 hQ hml hmb => ?_⟩
    walk_at "rd"
    exact hN _ _ ⟨S1bc.trans S2, q, ms, S1bc.dom _ hq, hQ, by omega, fun m hm => (hmb m hm).1, rfl⟩
  · walk_at "rd"
    exact hN _ _ ⟨S1bc, D9, us, S1b.dom _ hD9, hus, by omega, hu0, rfl⟩
  generalize hdg : decide (c0 / 32 % 2 = 1) = dg
  rintro σ' H2 ⟨S2, st, ms, hst, hSt, hml, hm0, rfl⟩
  dsimp only
  clear S1bc hK1c hS1c hD1c S1b S1c hSt0 hst0 hD9 hus
  have hK2 := S2.keep0 hK1
  have hD2 := S2.keep0 hD1
  have hpls2 := hpls1.stp S2 (by simp)
  have S02 := S1.trans S2
  have hstD : st ≠ D := (ne_of_none hD1 hst).symm
  have hstp : ∀ a ∈ pa, st ≠ a := fun a ha z => by subst z; exact hpls1.there ha hst
  clear S1 S2 hK1 hD1 hpls1 hst
  walk_at "rd"
  intro D2 hD3
  refine lc_it walk_range (fun j H' => Stp [] H2 H' ∧ ∃ row : List V, row.length = j ∧ RowP H' row (ks.take j) ∧ H' D2 = some (.lst row)) ⟨(Stp.refl _ _).new hD3, [], rfl, ⟨rfl, fun i v e => by cases e⟩, upd_same⟩ (fun _ _ _ _ => True.intro) ?_ ?_
  · rintro j x H6 H5 hj ⟨S, row, hrl, hrow, hL⟩ ⟨rfl, rfl⟩
    have hj' : j < ks.length := by have : j < ((ks.length : Nat) : Int).toNat := hj; omega
    have hK5 := S.keep0 hK2
    simp only [Int.zero_add]
    walk_at "rd"
    refine v_ixE (n := j) (SqL.of hK5) rfl hj' ?_
    walk_at "rd"
    intro t ht
    have htD : t ≠ D2 := (ne_of_none hL ht).symm
    have S5 : Stp [D2] H5 (upd (upd H5 t (.tup [.int (getE ks j), .int (j : Nat)])) D2 (.lst (row ++ [.ref t]))) := ((Stp.refl [D2] H5).new ht).putL (by simp) (upd_old hL ht)
    refine ⟨_, upd_old hL ht, Nat.lt_of_le_of_lt (m := 1000) (by omega) (by decide), (S.new ht).putN hD3, row ++ [.ref t], by simp [hrl], ?_, upd_same⟩
    rw [List.take_succ, List.getElem?_eq_getElem hj']
    have eg : getE ks j = ks[j] := by unfold getE; rw [List.getD_eq_getElem?_getD, List.getElem?_eq_getElem hj']; rfl
    refine RowP.app (k := ks[j]) (hrow.stp S5) ?_
    rw [upd_ne htD, upd_same, hrl, eg]
  rintro H3 ⟨S3, row, hrl, hrow, hR3⟩
  rw [show ((ks.length : Nat) : Int).toNat = ks.length by omega] at hrl hrow
  rw [List.take_length] at hrow
  walk_at "rd"
  refine ⟨D2, row, kOf H3, rfl, SqL.of hR3, fun x hx => ?_, fun zs zl hsrt hstb hzl => ?_⟩
  · obtain ⟨i, hi, e⟩ := List.getElem_of_mem hx
    obtain ⟨t, h1, h2⟩ := hrow.2 i x (by rw [← e]; exact List.getElem?_eq_getElem hi)
    exact ⟨t, h1, by rw [h1, kOf_at h2]; exact h2⟩
  have hzs : ∀ x ∈ zs, ∃ (t : Addr) (p : Nat), x = .ref t ∧ H3 t = some (.tup [.int (getE ks p), .int (p : Nat)]) ∧ p < ks.length := fun x hx => by
    obtain ⟨i, hi, e⟩ := List.getElem_of_mem (hstb.perm.mem_iff.mp hx)
    obtain ⟨t, h1, h2⟩ := hrow.2 i x (by rw [← e]; exact List.getElem?_eq_getElem hi)
    exact ⟨t, i, h1, h2, by omega⟩
  have hzl2 := hstb.len
  walk_at "rd"
  intro D3 hD4
  refine lc_it (walk_list (xs := zs)) (fun j H' => Stp [] (upd H3 zl (.lst zs)) H' ∧ ∃ ord : List Nat, ord.length = j ∧ (∀ (i o : Nat), ord[i]? = some o → ∃ t, zs[i]? = some (.ref t) ∧ H3 t = some (.tup [.int (getE ks o), .int (o : Nat)])) ∧ H' D3 = some (.lst (nv ord))) ⟨(Stp.refl _ _).new hD4, [], rfl, (by intro i o e; simp at e), upd_same⟩ (fun j H' _ z => z.1.sql0 (SqL.of upd_same)) ?_ ?_
  · rintro j x H4 H5 hj ⟨S, ord, hol, hord, hL⟩ ⟨rfl, hx⟩
    obtain ⟨t, p, rfl, ht, hp1⟩ := hzs x (List.mem_of_getElem? hx)
    have ht5 := S.tup (upd_old (u := .lst zs) ht hzl)
    walk_at "rd"
    refine v_ixTn (n := 1) (SqT.of ht5) rfl rfl ?_
    refine ⟨_, hL, Nat.lt_of_le_of_lt (m := 1000) (by rw [List.length_map]; omega) (by decide), S.putN hD4, ord ++ [p], by simp [hol], fun i o e => ?_, by rw [upd_same]; simp [nv]⟩
    by_cases hi : i < ord.length
    · rw [List.getElem?_append_left hi] at e; exact hord i o e
    · rw [List.getElem?_append_right (by omega)] at e
      have hz : i = ord.length := by
        have := (List.getElem?_eq_some_iff.mp e).1
        simp at this; omega
      subst hz
      simp at e
      subst e
      exact ⟨t, by rw [hol]; exact hx, ht⟩
  rintro H4 ⟨S4, ord, hol, hord, hO4⟩
  have hOrd := sorted_ord hrow hsrt hstb.perm hol hord
  have S24 : Stp [] H2 H4 := (S3.new hzl).trans S4
  have holn := hOrd.len
  have hK4 := S24.keep0 hK2
  have hD4' := S24.keep0 hD2
  have hSt4 := S24.keep0 hSt
  have hpls4 := hpls2.stp S24 (by simp)
  have S04 := S02.trans S24
  have nO : ∀ a ∈ D :: pa, a ≠ D3 := fun a ha z => by
    subst z
    rcases List.mem_cons.mp ha with e | ha
    · rw [e] at hD4
      rw [(S3.new hzl).keep0 hD2] at hD4; cases hD4
    · obtain ⟨i, hi⟩ := List.mem_iff_getElem?.mp ha
      obtain ⟨ps, _, h2⟩ := hpls2.2 i _ hi
      rw [(S3.new hzl).keep0 h2] at hD4; cases hD4
  clear S4 hD4 hzl hsrt hstb hzl2 hord hol hzs hrow hR3 S3 hD3 S24 S02 hSt hpls2 hK2 hD2
  walk_at "rd"
  refine for_it (walk_list (xs := nv ord)) (fun j σ H' => ∃ (P : List (List Nat)) (v4 v7 : Option V), Dld ks ord j P ∧ Pls H' pa P ∧ P.length = m ∧ Stp [] H H' ∧ H' D = some (.lst (pa.map V.ref)) ∧ H' st = some (.lst (ms.map V.int)) ∧ H' D3 = some (.lst (nv ord)) ∧
      σ = [some (.ref kl), some (.ref a0), some (.int cell), some (.int mix), some (.bl dg), some (.int m), v4, some (.ref D), some (.ref st), v7, none, none])
    ⟨_, _, _, .nil, hpls4, List.length_replicate, S04, hD4', hSt4, hO4, rfl⟩ (fun _ _ _ _ ⟨_, _, _, _, _, _, _, _, _, h, _⟩ => SqL.of h) ?_ ?_
  · rintro j x σ H5 H6 hj ⟨P, v4, v7, hDl, hpl5, hPl, S5, hD5, hSt5, hO5, rfl⟩ ⟨rfl, hx⟩
    obtain ⟨o, ho, rfl⟩ := map_at hx
    have hol : o < ks.length := hOrd.lt (List.mem_of_getElem? ho)
    walk_at "rd"
    refine v_ixE (n := o) (SqL.of hSt5) rfl (by omega) ?_
    walk_at "rd"
    have hmod : ∃ r : Nat, getE ms o % ((m : Int) + 1) = r ∧ r ≤ m := by
      have h0 := Int.emod_nonneg (getE ms o) (show ((m : Int) + 1) ≠ 0 by omega)
      have h1 := Int.emod_lt_of_pos (getE ms o) (show (0 : Int) < (m : Int) + 1 by omega)
      exact ⟨(getE ms o % ((m : Int) + 1)).toNat, by omega, by omega⟩
    obtain ⟨r, hr, hrm⟩ := hmod
    rw [hr]
    refine r_waJ (W := fun σ' H' => H6 = H' ∧ ∃ r : Int, 0 ≤ r ∧ σ' = [some (.ref kl), some (.ref a0), some (.int cell), some (.int mix), some (.bl dg), some (.int m), some (.int r), some (.ref D), some (.ref st), some (.int o), none, none]) ?_ (fun hc N hN => ?_) (fun hc N hN => ?_)
    · rintro σ' H7 ⟨rfl, r, hr0, rfl⟩
      dsimp only
      walk_at "rd"
      refine r_w (fun hc => ?_) fun hc => ?_
      · have hrl : r.toNat < pa.length := by rw [hpl5.1, hPl]; omega
        have hra : pa[r.toNat]? = some pa[r.toNat] := List.getElem?_eq_getElem hrl
        obtain ⟨ps, hps, hps2⟩ := hpl5.2 _ _ hra
        have hmem := List.mem_of_getElem? hra
        walk_at "rd"
        refine v_ixLn (n := r.toNat) (v := .ref pa[r.toNat]) (SqL.of hD5) (by omega) (by rw [List.getElem?_map, hra]; rfl) ?_
        have hfl := hDl.done hOrd (by omega)
        have hpsl : ps.length ≤ ks.length := nodup_len ((hfl.pw ps (List.mem_of_getElem? hps)).imp fun h z => by subst z; exact Ahd.asym h h) (hfl.lt ps (List.mem_of_getElem? hps))
        walk_at "rd"
        refine v_app hps2 (by rw [List.length_map]; omega) ?_
        walk_at "rd"
        have S7 : Stp [pa[r.toNat]] H6 (upd H6 pa[r.toNat] (.lst (nv (ps ++ [o])))) := (Stp.refl _ _).putL (by simp) hps2
        rw [show (nv ps ++ [V.int (o : Nat)]) = nv (ps ++ [o]) by simp [nv]]
        have hn3 := hpf _ hmem
        refine ⟨P.set r.toNat (ps ++ [o]), _, _, hDl.put hOrd ho hps, hpl5.set hpn hra, by rw [List.length_set]; exact hPl, (S5.mono (by simp)).putN hn3.1, S7.keep1 hD5 hn3.2.symm, S7.keep1 hSt5 (hstp _ hmem), S7.keep1 hO5 (nO _ (List.mem_cons_of_mem _ hmem)).symm, rfl⟩
      · walk_at "rd"
        exact ⟨P, _, _, hDl.skip, hpl5, hPl, S5, hD5, hSt5, hO5, rfl⟩
    · walk_at "rd"
      refine r_w (fun hc2 => ?_) fun hc2 => ?_
      · walk_at "rd"
        refine r_nb (fun hc3 => ?_) fun hc3 => ?_
        · walk_at "rd"
          refine hN _ _ ⟨rfl, _, ?_, rfl⟩
          exact Int.ediv_nonneg (Int.mul_nonneg (by omega) (by omega)) (by omega)
        · walk_at "rd"
          exact hN _ _ ⟨rfl, r, by omega, rfl⟩
      · walk_at "rd"
        exact hN _ _ ⟨rfl, r, by omega, rfl⟩
    · walk_at "rd"
      exact hN _ _ ⟨rfl, r, by omega, rfl⟩
  · rintro σ H5 ⟨P, v4, v7, hDl, hpl5, hPl, S5, hD5, hSt5, hO5, rfl⟩
    walk_at "rd"
    exact k D H5 pa P hDf S5 hD5 hpl5 hpf hpn (hDl.done hOrd (by omega))
/-! ### takes, one behind the other -/
inductive Takes (b : Bool) (P : List (List Nat)) : List Nat → Wt → List Ent → List Nat → List Nat → Wt → Prop
  | nil {g : List Nat} {W : Wt} : Takes b P g W [] [] g W
  | cons {g g' : List Nat} {W W1 W' : Wt} {e1 es : List Ent} {ord : List Nat} {x : Nat × Nat} {z : Fr} (h : W 0 P.length = some (some x)) (ht : TakeR b W x.2 (frt b (P.getD x.2 []) (g.getD x.2 0 + 1) x.2) 0 P.length e1 W1 z) (k : Takes b P (g.set x.2 (g.getD x.2 0 + 1)) W1 es ord g' W') : Takes b P g W (e1 ++ es) (x.1 :: ord) g' W'
theorem Takes.snoc {b : Bool} {P : List (List Nat)} {g g' : List Nat} {W W' W1 : Wt} {es e1 : List Ent} {ord : List Nat} {x : Nat × Nat} {z : Fr} (h : Takes b P g W es ord g' W') (hx : W' 0 P.length = some (some x)) (ht : TakeR b W' x.2 (frt b (P.getD x.2 []) (g'.getD x.2 0 + 1) x.2) 0 P.length e1 W1 z) : Takes b P g W (es ++ e1) (ord ++ [x.1]) (g'.set x.2 (g'.getD x.2 0 + 1)) W1 := by
  induction h with
  | nil => have := Takes.cons (es := []) (ord := []) hx ht .nil; rw [List.append_nil] at this; exact this
  | cons h' ht' k ih => rw [List.append_assoc]; exact .cons h' ht' (ih hx ht)
theorem Meet.uniq {b : Bool} {f : Nat → Nat → Bool} {x y z z' : Fr} {es es' : List Ent} (h : Meet b x y es z) (h' : Meet b x y es' z') (hT : ∀ e ∈ es, e.c = f e.a e.b) (hT' : ∀ e ∈ es', e.c = f e.a e.b) : es = es' ∧ z = z' := by
  cases h with
  | l => cases h' with
    | l => exact ⟨rfl, rfl⟩
  | r => cases h' with
    | r => exact ⟨rfl, rfl⟩
  | m said => cases h' with
    | m said' =>
      have e1 := hT _ (List.mem_singleton.mpr rfl)
      have e2 := hT' _ (List.mem_singleton.mpr rfl)
      dsimp only at e1 e2
      subst e1
      subst e2
      exact ⟨rfl, rfl⟩
theorem TakeR.uniq {b : Bool} {f : Nat → Nat → Bool} {W W' W2 : Wt} {n : Nat} {x z z2 : Fr} {lo hi : Nat} {es es2 : List Ent} (h : TakeR b W n x lo hi es W' z) (h' : TakeR b W n x lo hi es2 W2 z2) (hT : ∀ e ∈ es, e.c = f e.a e.b) (hT' : ∀ e ∈ es2, e.c = f e.a e.b) : es = es2 ∧ W' = W2 ∧ z = z2 := by
  induction h generalizing es2 W2 z2 with
  | one => cases h' with
    | one => exact ⟨rfl, rfl, rfl⟩
    | left hl => omega
    | right hl => omega
  | @left lo hi e1 e2 W1 h y z hl hn k hy hm ih =>
    cases h' with
    | one => omega
    | @left _ _ e1' e2' W1' h' y' z' hl' hn' k' hy' hm' =>
      obtain ⟨rfl, rfl, rfl⟩ := ih k' (fun e he => hT e (List.mem_append_left _ he)) fun e he => hT' e (List.mem_append_left _ he)
      rw [hy] at hy'; cases hy'
      obtain ⟨rfl, rfl⟩ := hm.uniq hm' (fun e he => hT e (List.mem_append_right _ he)) fun e he => hT' e (List.mem_append_right _ he)
      exact ⟨rfl, rfl, rfl⟩
    | right hl' hn' => exact (hn' hn).elim
  | @right lo hi e1 e2 W1 h y z hl hn k hy hm ih =>
    cases h' with
    | one => omega
    | left hl' hn' => exact (hn hn').elim
    | @right _ _ e1' e2' W1' h' y' z' hl' hn' k' hy' hm' =>
      obtain ⟨rfl, rfl, rfl⟩ := ih k' (fun e he => hT e (List.mem_append_left _ he)) fun e he => hT' e (List.mem_append_left _ he)
      rw [hy] at hy'; cases hy'
      obtain ⟨rfl, rfl⟩ := hm.uniq hm' (fun e he => hT e (List.mem_append_right _ he)) fun e he => hT' e (List.mem_append_right _ he)
      exact ⟨rfl, rfl, rfl⟩
theorem Hold.uniq {b : Bool} {f : Nat → Nat → Bool} {F : Nat → Fr} {W W' W2 : Wt} {z z2 : Fr} {lo hi : Nat} {es es2 : List Ent} (h : Hold b F lo hi W es W' z) (h' : Hold b F lo hi W es2 W2 z2) (hT : ∀ e ∈ es, e.c = f e.a e.b) (hT' : ∀ e ∈ es2, e.c = f e.a e.b) : es = es2 ∧ W' = W2 ∧ z = z2 := by
  induction h generalizing es2 W2 z2 with
  | nil => cases h' with
    | nil => exact ⟨rfl, rfl, rfl⟩
    | node h => omega
  | one => cases h' with
    | one => exact ⟨rfl, rfl, rfl⟩
    | node h => omega
  | @node lo hi W W1 W2' e1 e2 e3 x y z h h1 h2 h3 i1 i2 =>
    cases h' with
    | nil => omega
    | one => omega
    | node h' h1' h2' h3' =>
      obtain ⟨rfl, rfl, rfl⟩ := i1 h1' (fun e he => hT e (by simp [he])) fun e he => hT' e (by simp [he])
      obtain ⟨rfl, rfl, rfl⟩ := i2 h2' (fun e he => hT e (by simp [he])) fun e he => hT' e (by simp [he])
      obtain ⟨rfl, rfl⟩ := h3.uniq h3' (fun e he => hT e (by simp [he])) fun e he => hT' e (by simp [he])
      exact ⟨rfl, rfl, rfl⟩
theorem Takes.uniq {b : Bool} {f : Nat → Nat → Bool} {P : List (List Nat)} {g g' g2 : List Nat} {W W' W2 : Wt} {es es2 : List Ent} {ord ord2 : List Nat} (h : Takes b P g W es ord g' W') (h' : Takes b P g W es2 ord2 g2 W2) (hl : ord.length = ord2.length) (hT : ∀ e ∈ es, e.c = f e.a e.b) (hT' : ∀ e ∈ es2, e.c = f e.a e.b) : es = es2 ∧ ord = ord2 := by
  induction h generalizing es2 ord2 g2 W2 with
  | nil => cases h' with
    | nil => exact ⟨rfl, rfl⟩
    | cons => simp at hl
  | cons hx ht k ih => cases h' with
    | nil => simp at hl
    | cons hx' ht' k' =>
      rw [hx] at hx'
      cases hx'
      obtain ⟨rfl, rfl, _⟩ := ht.uniq ht' (fun e he => hT e (List.mem_append_left _ he)) fun e he => hT' e (List.mem_append_left _ he)
      obtain ⟨rfl, rfl⟩ := ih k' (by simpa using hl) (fun e he => hT e (List.mem_append_right _ he)) fun e he => hT' e (List.mem_append_right _ he)
      exact ⟨rfl, rfl⟩
theorem Takes.few {b : Bool} {P : List (List Nat)} {g g' : List Nat} {W W' : Wt} {es : List Ent} {ord : List Nat} (h : Takes b P g W es ord g' W') {d : Nat} (hd : ∀ (n : Nat) (x z : Fr) (W W' : Wt) (es : List Ent), TakeR b W n x 0 P.length es W' z → es.length ≤ d) : es.length ≤ ord.length * d := by
  induction h with
  | nil => simp
  | cons hx ht k ih => have := hd _ _ _ _ _ _ ht; rw [List.length_append, List.length_cons, Nat.add_mul]; omega
/-- the state before a take, and behind it -/
structure TSt (b : Bool) (P : List (List Nat)) (g : List Nat) (W : Wt) (log : List Ent) : Prop where
  gl : g.length = P.length
  gle : ∀ i, g.getD i 0 ≤ (P.getD i []).length
  tre : ∃ z, Tre b (frts b P g) W log 0 P.length z
theorem TSt.take {b : Bool} {P : List (List Nat)} {g : List Nat} {W W1 : Wt} {log e1 : List Ent} {x : Nat × Nat} {z : Fr} (h : TSt b P g W log) (hx : W 0 P.length = some (some x)) (ht : TakeR b W x.2 (frt b (P.getD x.2 []) (g.getD x.2 0 + 1) x.2) 0 P.length e1 W1 z) : TSt b P (g.set x.2 (g.getD x.2 0 + 1)) W1 (log ++ e1) ∧ x.2 < P.length := by
  obtain ⟨z0, t⟩ := h.tre
  obtain rfl : z0 = some x := by have := t.at; rw [hx] at this; exact (Option.some.inj this).symm
  obtain ⟨i, _, hi, hf⟩ := t.from.resolve_left (by simp)
  obtain ⟨x1, n⟩ := x
  obtain ⟨rfl, ps, hps, hpm, hgl⟩ := frts_mem hf.symm
  have hgn : n < g.length := by rw [h.gl]; exact hi
  have hpd : P.getD n [] = ps := by rw [List.getD_eq_getElem?_getD, hps]; rfl
  refine ⟨⟨by rw [List.length_set]; exact h.gl, fun i => ?_, z, ?_⟩, hi⟩
  · dsimp only
    rw [getD_set hgn]
    split
    · rename_i e; subst e; rw [hpd]; exact hgl
    · exact h.gle i
  · have := ht.tre0 t
    dsimp only at this ⊢
    rw [frts_set hgn]
    exact this
theorem Takes.tkn {b : Bool} {ks : List Int} {P : List (List Nat)} {g g' : List Nat} {W W' : Wt} {es : List Ent} {ord : List Nat} (h : Takes b P g W es ord g' W') {log : List Ent} {ord0 : List Nat} (hs : TSt b P g W log) (hP : P.flatten.Nodup) (hpw : ∀ ps ∈ P, ps.Pairwise (Ahd ks)) (hT : ∀ e ∈ log, e.c = decide (getE ks e.a < getE ks e.b)) (hT' : ∀ e ∈ es, e.c = decide (getE ks e.a < getE ks e.b)) (hk : Tkn b ks P g ord0) :
    TSt b P g' W' (log ++ es) ∧ Tkn b ks P g' (ord0 ++ ord) := by
  induction h generalizing log ord0 with
  | nil => rw [List.append_nil, List.append_nil]; exact ⟨hs, hk⟩
  | @cons g g' W W1 W' e1 es ord x z hx ht k ih =>
    obtain ⟨z0, t⟩ := hs.tre
    obtain rfl : z0 = some x := by have := t.at; rw [hx] at this; exact (Option.some.inj this).symm
    have hdis : ∀ i j x y, frts b P g i = some x → frts b P g j = some y → i ≠ j → x.1 ≠ y.1 := by
      intro i j x y hx hy hij e
      obtain ⟨x1, x2⟩ := x
      obtain ⟨y1, y2⟩ := y
      obtain ⟨_, ps, h1, h2, _⟩ := frts_mem hx
      obtain ⟨_, qs, h3, h4, _⟩ := frts_mem hy
      dsimp only at e
      subst e
      exact hij (flat_uniq hP h1 h3 h2 h4)
    obtain ⟨hn, t1, ht1, h1, h2⟩ := t.fore hT hdis hpw
    obtain ⟨hs2, _⟩ := hs.take hx ht
    have := ih hs2 (fun e he => by rcases List.mem_append.mp he with he | he; exact hT e he; exact hT' e (List.mem_append_left _ he)) (fun e he => hT' e (List.mem_append_right _ he)) (hk.take hs.gl hn ht1 h1 h2)
    rw [List.append_assoc, List.append_assoc] at this
    exact this
/-- the top and the foremost of the other pieces were asked about -/
theorem Tre.met {b : Bool} {ks : List Int} {F : Nat → Fr} {W : Wt} {log : List Ent} {lo hi : Nat} {z : Fr} (h : Tre b F W log lo hi z) (hT : ∀ e ∈ log, e.c = decide (getE ks e.a < getE ks e.b)) (hd : ∀ i j x y, F i = some x → F j = some y → i ≠ j → x.1 ≠ y.1) (hF : ∀ i x, F i = some x → x.2 = i) :
    ∀ x, z = some x → ∀ m v, lo ≤ m → m < hi → m ≠ x.2 → F m = some v → (∀ j u, j ≠ x.2 → lo ≤ j → j < hi → F j = some u → u = v ∨ Ahb b ks v.1 u.1) → ∃ e ∈ log, e.a = max x.1 v.1 ∧ e.b = Min.min x.1 v.1 := by
  induction h with
  | nil h => intro x e; cases e
  | @one lo h =>
    intro x e m v h1 h2 h3 _ _
    have := hF lo x e
    omega
  | @node lo hi es x y z h hw h1 h2 h3 he i1 i2 =>
    intro u eu m v hm1 hm2 hmn hv hmin
    have hc := cutB_lt h
    have fin : ∀ (p q : Nat × Nat), Meet b (some p) (some q) es z → ∃ e ∈ log, e.a = max p.1 q.1 ∧ e.b = Min.min p.1 q.1 := fun p q hm => by
      cases hm with
      | m said => exact ⟨_, he _ (List.mem_singleton.mpr rfl), rfl, rfl⟩
    have t1 := h1.from
    have t2 := h2.from
    -- the top is from the one side
    rcases h3.or with e | e
    · subst e
      subst eu
      obtain ⟨n, n1, n2, n3⟩ := t1.resolve_left (by simp)
      have hn := hF n u n3.symm
      by_cases q : m < cutB lo hi
      · exact i1 u rfl m v hm1 q hmn hv fun j w a1 a2 a3 a4 => hmin j w a1 a2 (by omega) a4
      · cases y with
        | none => rw [h2.none.mp rfl m (by omega) hm2] at hv; cases hv
        | some y =>
          obtain ⟨j, j1, j2, j3⟩ := t2.resolve_left (by simp)
          have e1 := h2.min hT hd y rfl m v (by omega) hm2 hv
          have e2 := hmin j y (by omega) (by omega) j2 j3.symm
          have : y = v := by
            rcases e1 with e1 | e1
            · exact e1.symm
            · rcases e2 with e2 | e2
              · exact e2
              · exact (Ahb.asym e1 e2).elim
          subst this
          exact fin u y h3
    · subst e
      subst eu
      obtain ⟨n, n1, n2, n3⟩ := t2.resolve_left (by simp)
      have hn := hF n u n3.symm
      by_cases q : cutB lo hi ≤ m
      · exact i2 u rfl m v q hm2 hmn hv fun j w a1 a2 a3 a4 => hmin j w a1 (by omega) a3 a4
      · cases x with
        | none => rw [h1.none.mp rfl m hm1 (by omega)] at hv; cases hv
        | some x =>
          obtain ⟨j, j1, j2, j3⟩ := t1.resolve_left (by simp)
          have e1 := h1.min hT hd x rfl m v hm1 (by omega) hv
          have e2 := hmin j x (by omega) j1 (by omega) j3.symm
          have : x = v := by
            rcases e1 with e1 | e1
            · exact e1.symm
            · rcases e2 with e2 | e2
              · exact e2
              · exact (Ahb.asym e1 e2).elim
          subst this
          obtain ⟨e, a1, a2, a3⟩ := fin x u h3
          exact ⟨e, a1, by rw [a2]; omega, by rw [a3]; omega⟩
/-- neighbours of unlike pieces were asked about -/
def NbA (P : List (List Nat)) (log : List Ent) (ord : List Nat) : Prop := ∀ (i u v a c : Nat), ord[i]? = some u → ord[i + 1]? = some v → u ∈ P.getD a [] → v ∈ P.getD c [] → a ≠ c → ∃ e ∈ log, e.a = max u v ∧ e.b = min u v
theorem Takes.met {b : Bool} {ks : List Int} {P : List (List Nat)} {g g' : List Nat} {W W' : Wt} {es : List Ent} {ord : List Nat} (h : Takes b P g W es ord g' W') {log : List Ent} (hs : TSt b P g W log) (hP : P.flatten.Nodup) (hT : ∀ e ∈ log, e.c = decide (getE ks e.a < getE ks e.b)) (hT' : ∀ e ∈ es, e.c = decide (getE ks e.a < getE ks e.b)) : NbA P (log ++ es) ord := by
  induction h generalizing log with
  | nil => intro i u v a c hu; simp at hu
  | @cons g g' W W1 W' e1 es ord x z hx ht k ih =>
    obtain ⟨z0, t⟩ := hs.tre
    obtain rfl : z0 = some x := by have := t.at; rw [hx] at this; exact (Option.some.inj this).symm
    have hdis : ∀ g i j x y, frts b P g i = some x → frts b P g j = some y → i ≠ j → x.1 ≠ y.1 := by
      intro g i j x y hx hy hij e
      obtain ⟨x1, x2⟩ := x
      obtain ⟨y1, y2⟩ := y
      obtain ⟨_, ps, h1, h2, _⟩ := frts_mem hx
      obtain ⟨_, qs, h3, h4, _⟩ := frts_mem hy
      dsimp only at e
      subst e
      exact hij (flat_uniq hP h1 h3 h2 h4)
    have hT2 : ∀ e ∈ log ++ e1, e.c = decide (getE ks e.a < getE ks e.b) := fun e he => by rcases List.mem_append.mp he with he | he; exact hT e he; exact hT' e (List.mem_append_left _ he)
    obtain ⟨hs2, hn⟩ := hs.take hx ht
    have rest := ih hs2 hT2 fun e he => hT' e (List.mem_append_right _ he)
    rw [List.append_assoc] at rest
    intro i u v a c hu hv hua hvc hac
    cases i with
    | succ i =>
      rw [List.getElem?_cons_succ] at hu hv
      exact rest i u v a c hu hv hua hvc hac
    | zero =>
      rw [List.getElem?_cons_zero] at hu
      cases hu
      rw [Nat.zero_add, List.getElem?_cons_succ] at hv
      cases k with
      | nil => simp at hv
      | @cons _ _ _ _ _ _ _ _ x' _ hx' ht' k' =>
        rw [List.getElem?_cons_zero] at hv
        cases hv
        obtain ⟨z1, t1⟩ := hs2.tre
        obtain rfl : z1 = some x' := by have := t1.at; rw [hx'] at this; exact (Option.some.inj this).symm
        obtain ⟨m, _, hm, hfm⟩ := t1.from.resolve_left (by simp)
        obtain ⟨n, _, hn2, hfn⟩ := t.from.resolve_left (by simp)
        obtain ⟨x1, x2⟩ := x
        obtain ⟨y1, y2⟩ := x'
        obtain ⟨rfl, ps, hps, hpm, _⟩ := frts_mem hfn.symm
        obtain ⟨rfl, qs, hqs, hqm, _⟩ := frts_mem hfm.symm
        have pd : ∀ {i p : Nat}, p ∈ P.getD i [] → ∃ ps, P[i]? = some ps ∧ p ∈ ps := fun {i p} hp => by
          rw [List.getD_eq_getElem?_getD] at hp
          cases e : P[i]? with
          | none => rw [e] at hp; cases hp
          | some ps => rw [e] at hp; exact ⟨ps, rfl, hp⟩
        obtain ⟨as, has, hua⟩ := pd hua
        obtain ⟨cs, hcs, hvc⟩ := pd hvc
        have ea := flat_uniq hP hps has hpm hua
        have ec := flat_uniq hP hqs hcs hqm hvc
        have hne : y2 ≠ x2 := by omega
        have hgn : x2 < g.length := by rw [hs.gl]; exact hn2
        have same : ∀ j, j ≠ x2 → frts b P (g.set x2 (g.getD x2 0 + 1)) j = frts b P g j := fun j hj => by rw [frts_set hgn]; exact if_neg hj
        dsimp only at hfm t1 ⊢
        have hfm' : frts b P g y2 = some (y1, y2) := by rw [← same y2 hne]; exact hfm.symm
        have := t.met hT (hdis g) (fun i x h => by obtain ⟨x1, x2⟩ := x; exact (frts_mem h).1) (x1, x2) rfl y2 (y1, y2) (Nat.zero_le _) hm hne hfm' fun j w h1 _ h3 h4 => by
          rw [← same j h1] at h4
          exact t1.min hT2 (hdis _) (y1, y2) rfl j w (Nat.zero_le _) h3 h4
        obtain ⟨e, h1, h2, h3⟩ := this
        exact ⟨e, List.mem_append_left _ h1, h2, h3⟩
/-- a list of pairs (key, place) -/
def TupL (H : Hp) (ks : List Int) (ts : List V) (L : List Nat) : Prop := ts.length = L.length ∧ ∀ (i : Nat) (v : V), ts[i]? = some v → ∃ (t : Addr) (p : Nat), v = .ref t ∧ L[i]? = some p ∧ H t = some (.tup [.int (getE ks p), .int (p : Nat)])
theorem TupL.stp {M : List Addr} {H H' : Hp} {ks : List Int} {ts : List V} {L : List Nat} (h : TupL H ks ts L) (S : Stp M H H') : TupL H' ks ts L := ⟨h.1, fun i v e => by obtain ⟨t, p, h1, h2, h3⟩ := h.2 i v e; exact ⟨t, p, h1, h2, S.tup h3⟩⟩
theorem TupL.nil {H : Hp} {ks : List Int} : TupL H ks [] [] := ⟨rfl, by intro i v e; simp at e⟩
theorem TupL.app {H : Hp} {ks : List Int} {ts us : List V} {L M : List Nat} (h : TupL H ks ts L) (k : TupL H ks us M) : TupL H ks (ts ++ us) (L ++ M) := by
  refine ⟨by rw [List.length_append, List.length_append, h.1, k.1], fun i v e => ?_⟩
  by_cases hi : i < ts.length
  · rw [List.getElem?_append_left hi] at e
    obtain ⟨t, p, h1, h2, h3⟩ := h.2 i v e
    exact ⟨t, p, h1, by rw [List.getElem?_append_left (by rw [← h.1]; exact hi)]; exact h2, h3⟩
  · rw [List.getElem?_append_right (by omega)] at e
    obtain ⟨t, p, h1, h2, h3⟩ := k.2 _ v e
    exact ⟨t, p, h1, by rw [List.getElem?_append_right (by rw [← h.1]; omega), ← h.1]; exact h2, h3⟩
theorem TupL.one {H : Hp} {ks : List Int} {t : Addr} {p : Nat} (h : H t = some (.tup [.int (getE ks p), .int (p : Nat)])) : TupL H ks [.ref t] [p] := ⟨rfl, fun i v e => by
  cases i with
  | zero => cases e; exact ⟨t, p, rfl, rfl, h⟩
  | succ i => simp at e⟩
theorem sorted_ordL {ks : List Int} {H : Hp} {ts zs : List V} {L ord : List Nat} (hr : TupL H ks ts L) (hn : L.Nodup) (hs : SrtO.Srtd (ltP (kOf H)) zs) (hp : zs.Perm ts) (hl : ord.length = zs.length)
    (ho : ∀ (i o : Nat), ord[i]? = some o → ∃ t, zs[i]? = some (.ref t) ∧ H t = some (.tup [.int (getE ks o), .int (o : Nat)])) : ord.Perm L ∧ ord.Pairwise (Ahd ks) := by
  let g : V → Nat := fun x => (kOf H x).2.toNat
  have e1 : ord = zs.map g := by
    apply List.ext_getElem? ; intro i
    by_cases hi : i < ord.length
    · obtain ⟨t, h1, h2⟩ := ho i _ (List.getElem?_eq_getElem hi)
      rw [List.getElem?_eq_getElem hi, List.getElem?_map, h1, Option.map_some]
      show some _ = some (kOf H (.ref t)).2.toNat
      rw [kOf_at h2]
      simp
    · rw [List.getElem?_eq_none (by omega), List.getElem?_eq_none (by rw [List.length_map]; omega)]
  have e2 : ts.map g = L := by
    apply List.ext_getElem? ; intro i
    by_cases hi : i < ts.length
    · obtain ⟨t, p, h1, h2, h3⟩ := hr.2 i _ (List.getElem?_eq_getElem hi)
      rw [List.getElem?_map, List.getElem?_eq_getElem hi, Option.map_some, h1, h2]
      show some (kOf H (.ref t)).2.toNat = some p
      rw [kOf_at h3]
      simp
    · rw [List.getElem?_eq_none (by rw [List.length_map]; omega), List.getElem?_eq_none (by rw [← hr.1]; omega)]
  have hpm : ord.Perm L := by rw [e1, ← e2]; exact hp.map g
  refine ⟨hpm, ?_⟩
  have hnd : ord.Nodup := hpm.nodup_iff.mpr hn
  refine List.pairwise_iff_getElem.mpr fun i j hi hj hij => ?_
  obtain ⟨t, h1, h2⟩ := ho i _ (List.getElem?_eq_getElem hi)
  obtain ⟨u, h3, h4⟩ := ho j _ (List.getElem?_eq_getElem hj)
  obtain ⟨hi', h1⟩ := List.getElem?_eq_some_iff.mp h1
  obtain ⟨hj', h3⟩ := List.getElem?_eq_some_iff.mp h3
  have := List.pairwise_iff_getElem.mp hs i j hi' hj' hij
  rw [h1, h3] at this
  unfold ltP at this
  rw [kOf_at h2, kOf_at h4] at this
  have hb := lexB_false this
  have hne : ord[i] ≠ ord[j] := List.pairwise_iff_getElem.mp hnd i j hi hj hij
  unfold Ahd
  omega
theorem PR.At.moreM {R : PR} {b : Bool} {K : PySem.W.Frag} {A : Ad} {C : Addr} {I : Ask} {M : List Addr} {H H' : Hp} {log log' : List Ent} {g : List Nat} {W : Wt} (h : R.At b K A C I H log g W) (S : Stp M H H') (hM : ∀ m ∈ M, m ∉ R.base) (hA : I.At K A H' log') (hl : ∀ e ∈ log, e ∈ log') : R.At b K A C I H' log' g W := by
  obtain ⟨kvs, h1, h2, h3, h4⟩ := h.dw
  obtain ⟨z, hz⟩ := h.tre
  refine ⟨h.st.stp S fun m hm z => hM m hm ?_, hA, h.pcs, h.gle, ⟨kvs, S.keep h1 (fun z => hM _ z (by simp [PR.base])), h2.stp S, h3, h4⟩, ⟨z, hz.mono (fun _ _ _ => rfl) (fun _ _ _ _ _ => rfl) hl⟩⟩
  simp only [PR.base, List.mem_cons] at z ⊢
  rcases z with z | z | z | z
  · exact .inl z
  · exact .inr (.inl z)
  · exact .inr (.inr (.inl z))
  · exact .inr (.inr (.inr (.inr z)))
/-- the order in which a pour goes -/
def fullB (b : Bool) (ord : List Nat) : List Nat := if b = true then ord.reverse else ord
theorem Tkn.at {b : Bool} {ks : List Int} {P : List (List Nat)} {g : List Nat} {od ord t : List Nat} {x : Nat × Nat} (h : Tkn b ks P g od) (hn : P.flatten.Nodup) (hp : ord.Perm P.flatten) (hpw : ord.Pairwise (Ahd ks)) (hx : x.2 < P.length) (ht : remi b P g x.2 = x.1 :: t) (h1 : ∀ q ∈ t, Ahb b ks x.1 q) (h2 : ∀ i, i < P.length → i ≠ x.2 → ∀ q ∈ remi b P g i, Ahb b ks x.1 q) : (fullB b ord)[od.length]? = some x.1 := by
  have hz : (rems b P (List.replicate P.length 0)).flatten.Perm P.flatten := by
    cases b with
    | false => rw [rems_zero]
    | true =>
      have e : rems true P (List.replicate P.length 0) = P.map List.reverse := by
        apply List.ext_getElem?
        intro i
        by_cases h : i < P.length
        · rw [rems_at h, List.getElem?_map, List.getElem?_eq_getElem h]
          unfold remi
          rw [rep_get, if_pos rfl, List.drop_zero, List.getD_eq_getElem?_getD, List.getElem?_eq_getElem h]
          rfl
        · rw [List.getElem?_eq_none (by rw [rems_len]; omega), List.getElem?_eq_none (by rw [List.length_map]; omega)]
      rw [e]
      clear e h hp hn ht h1 h2 hx
      induction P with
      | nil => exact .refl _
      | cons ps P ih => rw [List.map_cons, List.flatten_cons, List.flatten_cons]; exact (List.reverse_perm ps).append ih
  have hfp : (fullB b ord).Perm P.flatten := by
    unfold fullB
    cases b with
    | false => rw [if_neg (by decide)]; exact hp
    | true => rw [if_pos rfl]; exact (List.reverse_perm ord).trans hp
  have hfw : (fullB b ord).Pairwise (Ahb b ks) := by
    unfold fullB
    cases b with
    | false => rw [if_neg (by decide)]; exact hpw
    | true => rw [if_pos rfl]; exact List.pairwise_reverse.mpr hpw
  have hpm := h.perm.trans hz
  have hxm : x.1 ∈ (rems b P g).flatten := List.mem_flatten.mpr ⟨_, List.mem_of_getElem? (rems_at hx), by rw [ht]; simp⟩
  have hpe := List.perm_cons_erase hxm
  have hnd0 : (od ++ (rems b P g).flatten).Nodup := hpm.nodup_iff.mpr hn
  have hndr : (rems b P g).flatten.Nodup := (List.nodup_append.mp hnd0).2.1
  generalize hrest : (rems b P g).flatten.erase x.1 = rest at hpe
  have hra : ∀ r ∈ rest, Ahb b ks x.1 r := fun r hr => by
    subst hrest
    have hne : r ≠ x.1 := ((hndr.mem_erase_iff).mp hr).1
    obtain ⟨qs, h3, h4⟩ := List.mem_flatten.mp (List.mem_of_mem_erase hr)
    obtain ⟨i, hi⟩ := List.mem_iff_getElem?.mp h3
    have hil := (List.getElem?_eq_some_iff.mp hi).1
    rw [rems_len] at hil
    rw [rems_at hil] at hi
    cases hi
    by_cases e : i = x.2
    · subst e
      rw [ht] at h4
      exact h1 r ((List.mem_cons.mp h4).resolve_left hne)
    · exact h2 i hil e r h4
  have hall : (od ++ x.1 :: rest).Perm P.flatten := (List.Perm.append_left _ hpe.symm).trans hpm
  have hnd := hall.nodup_iff.mpr hn
  have hr : ((fullB b ord).filter fun v => decide (v ∈ rest)).Perm rest := by
    refine (List.perm_ext_iff_of_nodup (List.Pairwise.filter _ (hfp.nodup_iff.mpr hn)) (List.nodup_cons.mp (List.nodup_append.mp hnd).2.1).2).mpr fun v => ?_
    rw [List.mem_filter, decide_eq_true_eq, hfp.mem_iff, ← hall.mem_iff]
    exact ⟨fun z => z.2, fun z => ⟨by simp [z], z⟩⟩
  have hrp : ((fullB b ord).filter fun v => decide (v ∈ rest)).Pairwise (Ahb b ks) := List.Pairwise.filter _ hfw
  generalize (fullB b ord).filter (fun v => decide (v ∈ rest)) = r2 at hr hrp
  have e : fullB b ord = od ++ x.1 :: r2 := by
    refine List.Perm.eq_of_pairwise (fun _ _ _ _ x y => (Ahb.asym x y).elim) hfw ?_ (hfp.trans (hall.symm.trans (List.Perm.append_left _ (List.Perm.cons _ hr.symm))))
    refine List.pairwise_append.mpr ⟨h.pw, List.pairwise_cons.mpr ⟨fun r z => hra r (hr.mem_iff.mp z), hrp⟩, fun a ha c hc => ?_⟩
    have bef : ∀ v ∈ (rems b P g).flatten, Ahb b ks a v := fun v hv => by
      obtain ⟨qs, h3, h4⟩ := List.mem_flatten.mp hv
      exact h.bef a ha qs h3 v h4
    rcases List.mem_cons.mp hc with rfl | hc
    · exact bef _ hxm
    · exact bef c (by have := hr.mem_iff.mp hc; rw [← hrest] at this; exact List.mem_of_mem_erase this)
  rw [e, List.getElem?_append_right (Nat.le_refl _), Nat.sub_self]
  rfl
theorem fullF {ord : List Nat} {i : Nat} : (fullB false ord)[i]? = ord[i]? := rfl
theorem fullT {ord : List Nat} {i x : Nat} (h : (fullB true ord)[i]? = some x) : i < ord.length ∧ ord[ord.length - 1 - i]? = some x := by
  unfold fullB at h
  rw [if_pos rfl] at h
  have hl := (List.getElem?_eq_some_iff.mp h).1
  rw [List.length_reverse] at hl
  rw [List.getElem?_reverse hl] at h
  exact ⟨hl, h⟩
theorem cntF_ne {b : Bool} {P : List (List Nat)} : cntF (frts b P (List.replicate P.length 0)) 0 P.length = (P.filter fun ps => !decide (ps = [])).length := by
  have key : ∀ (Q : List (List Nat)) (F : Nat → Fr) (lo : Nat), (∀ i, i < Q.length → (F (lo + i)).isSome = !decide (Q.getD i [] = [])) → cntF F lo Q.length = (Q.filter fun ps => !decide (ps = [])).length := by
    intro Q
    induction Q with
    | nil => intro F lo h; simp [cntF]
    | cons q Q ih =>
      intro F lo h
      have h0 := h 0 (by simp)
      rw [List.length_cons, Nat.add_comm, cntF_add, ih F (lo + 1) fun i hi => by have := h (i + 1) (by simp; omega); rw [show lo + 1 + i = lo + (i + 1) by omega, this]; simp]
      unfold cntF
      rw [List.range'_one]
      rw [Nat.add_zero] at h0
      simp only [List.getD_cons_zero] at h0
      by_cases e : q = []
      · rw [List.filter_cons_of_neg (by rw [h0]; simp [e]), List.filter_nil, List.filter_cons_of_neg (by simp [e])]; simp
      · rw [List.filter_cons_of_pos (by rw [h0]; simp [e]), List.filter_nil, List.filter_cons_of_pos (by simp [e]), List.length_cons]; simp; omega
  refine key P _ 0 fun i hi => ?_
  rw [Nat.zero_add]
  unfold frts frt
  rw [rep_get]
  cases b with
  | false => rw [if_neg (by decide), Option.isSome_map]; cases P.getD i [] <;> simp
  | true => rw [if_pos rfl, Option.isSome_map]; cases e : P.getD i [] <;> simp
theorem cutV_fr {xs : List V} {k : Nat} : cutV xs (some (k : Int)) none = xs.drop k := cutL_from xs k
theorem cutV_up {xs : List V} {k : Nat} : cutV xs none (some (k : Int)) = xs.take k := cutL_upto xs k
def poC (A : Ad) (b : Bool) : Addr := if b = true then A.LastPour else A.Pour
theorem poF {A : Ad} : poC A false = A.Pour := rfl
theorem poT {A : Ad} : poC A true = A.LastPour := rfl
def sp__law_made (K : PySem.W.Frag) (A : Ad) : Sp := fun vs H Q _ => ∃ (b : Bool) (I : Ask) (log : List Ent) (pq : Addr) (pa : List Addr) (P : List (List Nat)), vs = [.ref I.s, .ref pq, .bl b] ∧ (I.At K A H log ∧ H pq = some (.lst (pa.map V.ref)) ∧ Pls H pa P ∧ Pcs I P ∧ (P.map List.length).sum ≤ 2000 ∧ log.length + I.pre.length + 400 ≤ 100000) ∧
  (∀ H' es es' W z, Hold b (frts b P (List.replicate P.length 0)) 0 P.length (fun _ _ => none) (es ++ es') W z → es' ≠ [] → Told I.or log (es ++ es') → I.m = some (log.length + es.length) → Stp I.M H H' → I.At K A H' (log ++ es) → Q .non H') ∧
  ∀ (R : PR) H' es W z, R.P = P → (∀ a ∈ R.base, H a = none) → Hold b (frts b P (List.replicate P.length 0)) 0 P.length (fun _ _ => none) es W z → Told I.or log es → Stp I.M H H' → R.At b K A (poC A b) I H' (log ++ es) (List.replicate P.length 0) W → Q (.ref R.o) H'
theorem ok__law_made {P : Program} {w : World} {K : PySem.W.Frag} {mg : Str → Option Value} {base : Heap} {A : Ad} {f : Addr} {fd : FuncData} (F : Fun K "_law_made" "_law_made" s__law_made f fd) (T : Txt K mg A) (N_LastPour : SH.CalC P w K mg base (L2N.CX P w) 16 "LastPour" A.LastPour [] (sp_LastPour___init__ K A)) (N_Pour : SH.CalC P w K mg base (L2N.CX P w) 16 "Pour" A.Pour [] (sp_Pour___init__ K A)) : FnOk P w K mg base CX0 18 f fd ["_law_asker", "_law_pieces", "_law_last"] (sp__law_made K A) := by
  refine F.ok sc__law_made (fun vs H Q E h => by obtain ⟨_, _, _, _, _, _, rfl, _⟩ := h; rfl) (fun cdv A' outer s H vs Q E hr h => ?_)
  obtain ⟨b, I, log, pq, pa, P, rfl, ⟨hA, hpq, hpl, hP, htot, hlog⟩, kx, k⟩ := h
  refine ⟨_, (pss_cons (ps_set (i := 3) sc__law_made.nd rfl (Or.inl rfl) pe_non)
        (pss_cons (L2N.ps_try_many rfl rfl SH.takes0N (fun W pn xe tk po => (pss_one (ps_if (pt_val (pv 2)) (pss_one (ps_set (i := 3) sc__law_made.nd rfl (Or.inl rfl) (SH.pe_makeX N_LastPour hr (by rfl) (fun σ => L2N.passAt tk σ) (pa_cons (pv 0) (pa_cons (pe_lc (own := [("_law_piece", 4)]) (g := (gName 4)) (tt := tYes) (by rfl) sc__law_made.nd (SH.pi_listK K (pv 1)) (blkOk_by (own := [("_law_piece", 4)]) (N := ["_law_asker", "_law_pieces", "_law_last", "_law_told", "_law_piece"]) (sc := defScope s__law_made) (by decide +kernel)) (fun _ _ _ _ _ => (pg_name (i := 4) sc__law_made.nd rfl (Or.inl rfl))) (fun _ _ _ _ _ => pts_nil) (fun _ _ _ _ _ => (pe_callTy (SH.crK SH.rListOf K SH.cListOf) (by rfl) T.z_list (by decide +kernel) (pa_cons (pv 4) pa_nil)))) pa_nil))))) (pss_one (ps_set (i := 3) sc__law_made.nd rfl (Or.inl rfl) (SH.pe_makeX N_Pour hr (by rfl) (fun σ => L2N.passAt tk σ) (pa_cons (pv 0) (pa_cons (pe_lc (own := [("_law_piece", 4)]) (g := (gName 4)) (tt := tYes) (by rfl) sc__law_made.nd (SH.pi_listK K (pv 1)) (blkOk_by (own := [("_law_piece", 4)]) (N := ["_law_asker", "_law_pieces", "_law_last", "_law_told", "_law_piece"]) (sc := defScope s__law_made) (by decide +kernel)) (fun _ _ _ _ _ => (pg_name (i := 4) sc__law_made.nd rfl (Or.inl rfl))) (fun _ _ _ _ _ => pts_nil) (fun _ _ _ _ _ => (pe_callTy (SH.crK SH.rListOf K SH.cListOf) (by rfl) T.z_list (by decide +kernel) (pa_cons (pv 4) pa_nil)))) pa_nil)))))))) (.cons ⟨rfl, by decide, .inl T.g_Spent⟩ (fun a oe cls d pn hz hf => (pss_one (ps_set (i := 3) sc__law_made.nd rfl (Or.inl rfl) pe_non))) .nil))
        (pss_one (ps_ret (pv 3))))), ?_⟩
  walk_at "begin"
  have hfew := hP.few
  cases b with
  | true =>
    walk_at "rd"
    intro D hD
    refine lc_copy (by simp) hD hpq hpl (by omega) fun H1 pb S1 hD1 hpb hpbf hpbn => ?_
    have hA1 := hA.stp S1 (by simp)
    walk_at "rd"
    refine SH.v_makeX fun o dx ho hdx hne => ?_
    have S2 : Stp [] H1 (upd (upd H1 dx (.own o)) o (.ins A.LastPour dx [])) := ((Stp.refl [] H1).new hdx).putN ho
    have S02 : Stp [] H (upd (upd H1 dx (.own o)) o (.ins A.LastPour dx [])) := S1.trans S2
    refine ⟨o, D, I, log, pb, P, rfl, ⟨⟨dx, upd_same⟩, hA1.stp S2 (by simp), S2.keep0 hD1, hpb.stp S2 (by simp), hP, hA1.freshO ho, by omega, by omega⟩, fun H' d es es' hR hne2 hT hm S hA' hd hx => ?_, fun R H2 es W z hRo hRP hRf hH hT S3 hR => ⟨rfl, ?_⟩⟩
    · obtain ⟨W, z, hH⟩ := hR
      refine SH.r_catchM T.exm_Spent_Spent fun e he => ?_
      walk_at "rd"
      exact kx H' es es' W z hH hne2 hT hm ((S02.mono (M' := I.M) (by simp)).then S fun m hm => by
        rcases List.mem_cons.mp hm with rfl | hm
        · exact .inr (S1.dom _ ho)
        · exact .inl hm) hA'
    · subst hRo
      walk_at "rd"
      refine k R H2 es W z hRP (fun a ha => ?_) hH hT ((S02.mono (M' := I.M) (by simp)).then S3 fun m hm => by
        rcases List.mem_cons.mp hm with rfl | hm
        · exact .inr (S1.dom _ ho)
        · exact .inl hm) hR
      by_cases e : a = R.o
      · rw [e]; exact S1.dom _ ho
      · exact S02.dom _ (hRf a ha e)
  | false =>
    walk_at "rd"
    intro D hD
    refine lc_copy (by simp) hD hpq hpl (by omega) fun H1 pb S1 hD1 hpb hpbf hpbn => ?_
    have hA1 := hA.stp S1 (by simp)
    walk_at "rd"
    refine SH.v_makeX fun o dx ho hdx hne => ?_
    have S2 : Stp [] H1 (upd (upd H1 dx (.own o)) o (.ins A.Pour dx [])) := ((Stp.refl [] H1).new hdx).putN ho
    have S02 : Stp [] H (upd (upd H1 dx (.own o)) o (.ins A.Pour dx [])) := S1.trans S2
    refine ⟨o, D, I, log, pb, P, rfl, ⟨⟨dx, upd_same⟩, hA1.stp S2 (by simp), S2.keep0 hD1, hpb.stp S2 (by simp), hP, hA1.freshO ho, by omega, by omega⟩, fun H' d es es' hR hne2 hT hm S hA' hd hx => ?_, fun R H2 es W z hRo hRP hRf hH hT S3 hR => ⟨rfl, ?_⟩⟩
    · obtain ⟨W, z, hH⟩ := hR
      refine SH.r_catchM T.exm_Spent_Spent fun e he => ?_
      walk_at "rd"
      exact kx H' es es' W z hH hne2 hT hm ((S02.mono (M' := I.M) (by simp)).then S fun m hm => by
        rcases List.mem_cons.mp hm with rfl | hm
        · exact .inr (S1.dom _ ho)
        · exact .inl hm) hA'
    · subst hRo
      walk_at "rd"
      refine k R H2 es W z hRP (fun a ha => ?_) hH hT ((S02.mono (M' := I.M) (by simp)).then S3 fun m hm => by
        rcases List.mem_cons.mp hm with rfl | hm
        · exact .inr (S1.dom _ ho)
        · exact .inl hm) hR
      by_cases e : a = R.o
      · rw [e]; exact S1.dom _ ho
      · exact S02.dom _ (hRf a ha e)
def sp__law_taken (K : PySem.W.Frag) (A : Ad) : Sp := fun vs H Q _ => ∃ (b : Bool) (R : PR) (I : Ask) (log : List Ent) (g : List Nat) (W : Wt) (x : Nat × Nat), vs = [.ref R.o] ∧ (R.At b K A (poC A b) I H log g W ∧ W 0 R.P.length = some (some x) ∧ log.length + I.pre.length + 400 ≤ 100000) ∧
  (∀ H' t e d es es' W' z, TakeR b W x.2 (frt b (R.P.getD x.2 []) (g.getD x.2 0 + 1) x.2) 0 R.P.length (es ++ es') W' z → es' ≠ [] → Told I.or log (es ++ es') → I.m = some (log.length + es.length) → Stp I.M H H' → I.At K A H' (log ++ es) → H' t = some (.tup [.str "refused", .ref e]) → H' e = some (exK e (.ref A.Spent) (some d)) → H' d = some (.xd [("asked", .int ((log.length + es.length : Nat) : Int))]) → Q (.ref t) H') ∧
  ∀ H' t es W' z, TakeR b W x.2 (frt b (R.P.getD x.2 []) (g.getD x.2 0 + 1) x.2) 0 R.P.length es W' z → Told I.or log es → Stp (R.M I) H H' → R.At b K A (poC A b) I H' (log ++ es) (g.set x.2 (g.getD x.2 0 + 1)) W' → H' t = some (.tup [.str "told", .int (x.1 : Nat)]) → Q (.ref t) H'
theorem ok__law_taken {P : Program} {w : World} {K : PySem.W.Frag} {mg : Str → Option Value} {base : Heap} {A : Ad} {f : Addr} {fd : FuncData} (F : Fun K "_law_taken" "_law_taken" s__law_taken f fd) (T : Txt K mg A) (M_LastPour_take : SH.CalM P w K mg base (L2N.CX P w) 6 A.LastPour "take" [] (sp_LastPour_take K A)) (M_Pour_take : SH.CalM P w K mg base (L2N.CX P w) 6 A.Pour "take" [] (sp_Pour_take K A)) : FnOk P w K mg base CX0 7 f fd ["_law_pour"] (sp__law_taken K A) := by
  refine F.ok sc__law_taken (fun vs H Q E h => by obtain ⟨_, _, _, _, _, _, _, rfl, _⟩ := h; rfl) (fun cdv A' outer s H vs Q E hr h => ?_)
  obtain ⟨b, R, I, log, g, W, x, rfl, ⟨hR, hx, hlog⟩, kx, k⟩ := h
  refine ⟨_, (pss_cons (ps_set (i := 1) sc__law_taken.nd rfl (Or.inl rfl) pe_non)
        (pss_cons (SH.ps_try_asK (i := 2) rfl rfl rfl sc__law_taken.nd rfl rfl ⟨rfl, by decide, .inl T.g_HallError⟩ SH.takes0N (fun W pn xe tk po => (pss_one (ps_set (i := 1) sc__law_taken.nd rfl (Or.inl rfl) (pe_tup (pa_cons pe_str (pa_cons (SH.peOrE (SH.pe_methX0 (pv 0) M_Pour_take hr (fun σ => L2N.passAt tk σ)) (SH.pe_methX0 (pv 0) M_LastPour_take hr (fun σ => L2N.passAt tk σ))) pa_nil)))))) (fun a pn => (pss_one (ps_set (i := 1) sc__law_taken.nd rfl (Or.inl rfl) (pe_tup (pa_cons pe_str (pa_cons (pv 2) pa_nil)))))))
        (pss_one (ps_ret (pv 1))))), ?_⟩
  walk_at "begin"
  walk_at "rd"
  cases b with
  | true =>
    have ho := hR.st.ho
    rw [poT] at ho
    refine SH.r_orR ?_
    walk_at "rd"
    refine ⟨R, I, log, g, W, some x, rfl, ⟨hR, hx, hlog⟩, fun x' ex H1 d es es' hTk hne hT hm S1 hA1 hd hd1 => ?_, (fun e => by cases e), fun x' ex h1 h2 H1 es W' z hTk hT S1 hR1 => ?_⟩
    · cases ex
      obtain ⟨W', z, hTk⟩ := hTk
      refine SH.r_catchK T.exm_Spent_HallError fun e he => ?_
      have Sx := (Stp.refl [] H1).new (o := exK e (.ref A.Spent) (some d)) he
      have he2 := upd_same (H := H1) (a := e) (o := exK e (.ref A.Spent) (some d))
      have hA2 := hA1.stp Sx (by simp)
      have hd2 := Sx.keep0 hd1
      generalize upd H1 e (exK e (.ref A.Spent) (some d)) = H2 at Sx he2 hA2 hd2 ⊢
      simp only [List.set_cons_succ, List.set_cons_zero]
      walk_at "rd"
      intro t ht
      have St := (Stp.refl [] H2).new (o := .tup [.str "refused", .ref e]) ht
      walk_at "rd"
      simp only [List.set_cons_succ, List.set_cons_zero]
      walk_at "rd"
      exact kx _ t e d es es' W' z hTk hne hT hm (S1.trans ((Sx.trans St).mono (by simp))) (hA2.stp St (by simp)) upd_same (St.keep0 he2) (St.keep0 hd2)
    · cases ex
      walk_at "rd"
      intro t ht
      have St := (Stp.refl [] H1).new (o := .tup [.str "told", .int (x.1 : Nat)]) ht
      walk_at "rd"
      exact k _ t es W' z hTk hT (S1.trans (St.mono (by simp))) (hR1.dT St) upd_same
  | false =>
    have ho := hR.st.ho
    rw [poF] at ho
    refine SH.r_orL ?_
    walk_at "rd"
    refine ⟨R, I, log, g, W, some x, rfl, ⟨hR, hx, hlog⟩, fun x' ex H1 d es es' hTk hne hT hm S1 hA1 hd hd1 => ?_, (fun e => by cases e), fun x' ex h1 h2 H1 es W' z hTk hT S1 hR1 => ?_⟩
    · cases ex
      obtain ⟨W', z, hTk⟩ := hTk
      refine SH.r_catchK T.exm_Spent_HallError fun e he => ?_
      have Sx := (Stp.refl [] H1).new (o := exK e (.ref A.Spent) (some d)) he
      have he2 := upd_same (H := H1) (a := e) (o := exK e (.ref A.Spent) (some d))
      have hA2 := hA1.stp Sx (by simp)
      have hd2 := Sx.keep0 hd1
      generalize upd H1 e (exK e (.ref A.Spent) (some d)) = H2 at Sx he2 hA2 hd2 ⊢
      simp only [List.set_cons_succ, List.set_cons_zero]
      walk_at "rd"
      intro t ht
      have St := (Stp.refl [] H2).new (o := .tup [.str "refused", .ref e]) ht
      walk_at "rd"
      simp only [List.set_cons_succ, List.set_cons_zero]
      walk_at "rd"
      exact kx _ t e d es es' W' z hTk hne hT hm (S1.trans ((Sx.trans St).mono (by simp))) (hA2.stp St (by simp)) upd_same (St.keep0 he2) (St.keep0 hd2)
    · cases ex
      walk_at "rd"
      intro t ht
      have St := (Stp.refl [] H1).new (o := .tup [.str "told", .int (x.1 : Nat)]) ht
      walk_at "rd"
      exact k _ t es W' z hTk hT (S1.trans (St.mono (by simp))) (hR1.dT St) upd_same
def sp__law_refused (K : PySem.W.Frag) (A : Ad) : Sp := fun vs H Q _ => ∃ (I : Ask) (log : List Ent) (e d : Addr), vs = [.ref e, .ref I.s] ∧ (I.At K A H log ∧ I.m = some log.length ∧ H e = some (exK e (.ref A.Spent) (some d)) ∧ H d = some (.xd [("asked", .int (log.length : Nat))])) ∧ Q (.bl true) H
theorem ok__law_refused {P : Program} {w : World} {K : PySem.W.Frag} {mg : Str → Option Value} {base : Heap} {A : Ad} {f : Addr} {fd : FuncData} (F : Fun K "_law_refused" "_law_refused" s__law_refused f fd) (T : Txt K mg A) (C__law_whole : SH.Cal P w K mg base CX0 1 "_law_whole" [] (sp__law_whole K A)) : FnOk P w K mg base CX0 2 f fd ["_law_e", "_law_asker"] (sp__law_refused K A) := by
  refine F.ok sc__law_refused (fun vs H Q E h => by obtain ⟨_, _, _, _, rfl, _⟩ := h; rfl) (fun cdv A' outer s H vs Q E hr h => ?_)
  obtain ⟨I, log, e, d, rfl, ⟨hA, hm, he, hd⟩, k⟩ := h
  refine ⟨_, (pss_cons (ps_if (PW.pt (pw_or (pt_not (pt_val (pe_callB SH.call_isK (by rfl) T.z_isinstance (by decide +kernel) (pa_cons (pv 0) (pa_cons (pe_glob (v := .ref A.Spent) (by rfl) T.g_Spent rfl) pa_nil))))) (pw_or (pt_val (pe_callB SH.call_isK (by rfl) T.z_isinstance (by decide +kernel) (pa_cons (pv 0) (pa_cons (pe_glob (v := .ref A.NoPlace) (by rfl) T.g_NoPlace rfl) pa_nil)))) (pw_or1 (pt_val (pe_callB SH.call_isK (by rfl) T.z_isinstance (by decide +kernel) (pa_cons (pv 0) (pa_cons (pe_glob (v := .ref A.TooFar) (by rfl) T.g_TooFar rfl) pa_nil)))))))) (pss_one (ps_ret pe_bl)) pss_nil)
        (pss_one (ps_ret (pe_and (SH.pe_callF C__law_whole hr (by rfl) pass0 (pa_cons (SH.pe_xfK (SH.xfOf T.ec_Spent) T.na_Spent_asked (pv 0)) pa_nil)) (pe_one (pe_chain (SH.oEq hr.units) (SH.oEq hr.units) (SH.pe_xfK (SH.xfOf T.ec_Spent) T.na_Spent_asked (pv 0)) (SH.pe_fldF T.cl_Asker T.na_Asker_asked (pv 1)) (SH.pe_fldF T.cl_Asker T.na_Asker_most (pv 1)))))))), ?_⟩
  walk_at "begin"
  have hs := hA.hs
  rw [hm] at hs
  unfold AskM mV at hs
  walk_at "rd"
  refine v_isK he (adict hd) T.ec_Spent T.kits_Spent_Spent ?_
  walk_at "rd"
  refine v_isK he (adict hd) T.ec_Spent T.kits_Spent_NoPlace ?_
  walk_at "rd"
  refine v_isK he (adict hd) T.ec_Spent T.kits_Spent_TooFar ?_
  walk_at "rd"
  refine ⟨_, rfl, ?_⟩
  walk_at "rd"
  rw [if_pos (decide_eq_true rfl)]
  walk_at "rd"
  rw [decide_eq_true rfl]
  exact k
theorem po_left {b : Bool} {R : PR} {I : Ask} {K : PySem.W.Frag} {A : Ad} {σ : L2.St} {H : Hp} {Q : VK} {E : XK} {i : Nat} {log : List Ent} {g : List Nat} {W : Wt} (hi : σ[i]? = some (some (.ref R.o))) (hR : R.At b K A (poC A b) I H log g W) (k : ∀ H', Stp [] H H' → Q (.int (R.left g : Nat)) H') :
    tOrE (tMeth A.Pour (Str.ofString "left") (sp_Pour_left K A) [] E (tVar i) tNil) (tMeth A.LastPour (Str.ofString "left") (sp_LastPour_left K A) [] E (tVar i) tNil) σ H Q := by
  have ho := hR.st.ho
  cases b with
  | true => exact SH.r_orR (SH.r_meth (SH.r_var hi (SH.v_meth ho rfl ⟨R, I, log, g, W, rfl, hR, k⟩)))
  | false => exact SH.r_orL (SH.r_meth (SH.r_var hi (SH.v_meth ho rfl ⟨R, I, log, g, W, rfl, hR, k⟩)))
theorem po_first {b : Bool} {R : PR} {I : Ask} {K : PySem.W.Frag} {A : Ad} {σ : L2.St} {H : Hp} {Q : VK} {E : XK} {i : Nat} {log : List Ent} {g : List Nat} {W : Wt} {z : Fr} (hi : σ[i]? = some (some (.ref R.o))) (hR : R.At b K A (poC A b) I H log g W) (hz : W 0 R.P.length = some z) (k : ∀ H', Stp [] H H' → Q (frI z) H') :
    tOrE (tMeth A.Pour (Str.ofString "first") (sp_Pour_first K A) [] E (tVar i) tNil) (tMeth A.LastPour (Str.ofString "first") (sp_LastPour_first K A) [] E (tVar i) tNil) σ H Q := by
  have ho := hR.st.ho
  cases b with
  | true => exact SH.r_orR (SH.r_meth (SH.r_var hi (SH.v_meth ho rfl ⟨R, I, log, g, W, z, rfl, ⟨hR, hz⟩, k⟩)))
  | false => exact SH.r_orL (SH.r_meth (SH.r_var hi (SH.v_meth ho rfl ⟨R, I, log, g, W, z, rfl, ⟨hR, hz⟩, k⟩)))
theorem PR.At.wide {b : Bool} {R : PR} {I : Ask} {K : PySem.W.Frag} {A : Ad} {C : Addr} {H : Hp} {log : List Ent} {g : List Nat} {W : Wt} {n : Nat} (h : R.At b K A C I H log g W) (hA : (I.wide n).At K A H log) : R.At b K A C (I.wide n) H log g W := ⟨⟨h.st.ho, h.st.hp, h.st.ha, h.st.hl, h.st.hg, h.st.gl, h.st.own, h.st.n1, h.st.n2⟩, hA, ⟨h.pcs.1, h.pcs.2, h.pcs.3⟩, h.gle, h.dw, h.tre⟩
theorem PR.At.widen {b : Bool} {R : PR} {I : Ask} {K : PySem.W.Frag} {A : Ad} {C : Addr} {H H' : Hp} {log : List Ent} {g : List Nat} {W : Wt} {n : Nat} (h : R.At b K A C I H log g W) (S : Stp [I.s] H H') (hA : (I.wide n).At K A H' log) : R.At b K A C (I.wide n) H' log g W := by
  have hs : I.s ∉ R.base := fun z => h.st.own I.s z (by simp [Ask.own])
  obtain ⟨kvs, h1, h2, h3, h4⟩ := h.dw
  have st := h.st.stp S (fun m hm z => by
    rw [List.mem_singleton] at hm
    subst hm
    refine hs ?_
    simp only [PR.base, List.mem_cons] at z ⊢
    rcases z with z | z | z | z <;> simp [z])
  exact ⟨⟨st.ho, st.hp, st.ha, st.hl, st.hg, st.gl, st.own, st.n1, st.n2⟩, hA, ⟨h.pcs.1, h.pcs.2, h.pcs.3⟩, h.gle, ⟨kvs, S.keep1 h1 (fun z => hs (by rw [← z]; simp [PR.base])), h2.stp S, h3, h4⟩, h.tre⟩
theorem wide_zero {I : Ask} : I.wide 0 = I := by
  unfold Ask.wide
  cases I with
  | mk s r l dx u du f tl cl cc ks row pre m => cases m <;> rfl
/-- what a try told -/
def TakT (b : Bool) (R : PR) (I : Ask) (K : PySem.W.Frag) (A : Ad) (log : List Ent) (g : List Nat) (W : Wt) (x : Nat × Nat) (H H' : Hp) (t : Addr) : Prop := ∃ (w : Str) (v : V), H' t = some (.tup [.str w, v]) ∧
  ((w = "refused" ∧ ∃ (e d : Addr) (es es' : List Ent) (W' : Wt) (z : Fr), v = .ref e ∧ TakeR b W x.2 (frt b (R.P.getD x.2 []) (g.getD x.2 0 + 1) x.2) 0 R.P.length (es ++ es') W' z ∧ es' ≠ [] ∧ Told I.or log (es ++ es') ∧ I.m = some (log.length + es.length) ∧ Stp I.M H H' ∧ I.At K A H' (log ++ es) ∧ H' e = some (exK e (.ref A.Spent) (some d)) ∧ H' d = some (.xd [("asked", .int ((log.length + es.length : Nat) : Int))])) ∨
   (w = "told" ∧ v = .int (x.1 : Nat) ∧ ∃ (es : List Ent) (W' : Wt) (z : Fr), TakeR b W x.2 (frt b (R.P.getD x.2 []) (g.getD x.2 0 + 1) x.2) 0 R.P.length es W' z ∧ Told I.or log es ∧ Stp (R.M I) H H' ∧ R.At b K A (poC A b) I H' (log ++ es) (g.set x.2 (g.getD x.2 0 + 1)) W'))
theorem taken_or {b : Bool} {R : PR} {I : Ask} {K : PySem.W.Frag} {A : Ad} {H : Hp} {Q : VK} {E : XK} {log : List Ent} {g : List Nat} {W : Wt} {x : Nat × Nat} (hR : R.At b K A (poC A b) I H log g W) (hx : W 0 R.P.length = some (some x)) (hl : log.length + I.pre.length + 400 ≤ 100000)
    (k : ∀ H' t, TakT b R I K A log g W x H H' t → Q (.ref t) H') : sp__law_taken K A [.ref R.o] H Q E :=
  ⟨b, R, I, log, g, W, x, rfl, ⟨hR, hx, hl⟩, fun H' t e d es es' W' z hTk hne hT hm S hA ht he hd => k H' t ⟨_, _, ht, .inl ⟨rfl, e, d, es, es', W', z, rfl, hTk, hne, hT, hm, S, hA, he, hd⟩⟩,
    fun H' t es W' z hTk hT S hR' ht => k H' t ⟨_, _, ht, .inr ⟨rfl, rfl, es, W', z, hTk, hT, S, hR'⟩⟩⟩
def sp__law_step (K : PySem.W.Frag) (A : Ad) : Sp := fun vs H Q _ => ∃ (b : Bool) (R : PR) (J : Ask) (log : List Ent) (g : List Nat) (W : Wt) (x : Nat × Nat) (aq : Addr) (avs : List V) (es : List Ent) (W' : Wt) (z : Fr) (more : Nat), vs = [.ref R.o, .ref J.s, .ref J.tl, .int (x.1 : Nat), .ref aq, .int (more : Nat)] ∧
  (R.At b K A (poC A b) J H log g W ∧ W 0 R.P.length = some (some x) ∧ J.pre = [] ∧ log.length ≤ 50000 ∧ (H aq = some (.lst avs) ∧ IsL K H avs es ∧ aq ∉ J.M ∧ aq ∉ R.base) ∧ (TakeR b W x.2 (frt b (R.P.getD x.2 []) (g.getD x.2 0 + 1) x.2) 0 R.P.length es W' z ∧ (∀ e ∈ es, e.c = J.lt e.a e.b)) ∧ es.length ≤ more ∧ es.length ≤ 1000 ∧ R.left g = R.left (g.set x.2 (g.getD x.2 0 + 1)) + 1) ∧
  ∀ H' n log', (∀ e ∈ log', e ∈ log ∨ e.c = J.lt e.a e.b) → log'.length ≤ log.length + 2 * es.length → Stp (R.M J) H H' → R.At b K A (poC A b) (J.wide n) H' log' (g.set x.2 (g.getD x.2 0 + 1)) W' → Q (.bl true) H'
theorem ok__law_step {P : Program} {w : World} {K : PySem.W.Frag} {mg : Str → Option Value} {base : Heap} {A : Ad} {f : Addr} {fd : FuncData} (F : Fun K "_law_step" "_law_step" s__law_step f fd) (T : Txt K mg A) (M_Asker_widen : SH.CalM P w K mg base CX0 1 A.Asker "widen" [] (sp_Asker_widen K A)) (M_LastPour_first : SH.CalM P w K mg base CX0 1 A.LastPour "first" [] (sp_LastPour_first K A)) (M_LastPour_left : SH.CalM P w K mg base CX0 1 A.LastPour "left" [] (sp_LastPour_left K A)) (M_Pour_first : SH.CalM P w K mg base CX0 1 A.Pour "first" [] (sp_Pour_first K A)) (M_Pour_left : SH.CalM P w K mg base CX0 1 A.Pour "left" [] (sp_Pour_left K A)) (C__law_refused : SH.Cal P w K mg base CX0 2 "_law_refused" [] (sp__law_refused K A)) (C__law_taken : SH.Cal P w K mg base CX0 7 "_law_taken" [] (sp__law_taken K A)) (C__law_whole : SH.Cal P w K mg base CX0 1 "_law_whole" [] (sp__law_whole K A)) : FnOk P w K mg base CX0 8 f fd ["_law_pour", "_law_asker", "_law_log", "_law_due", "_law_asks", "_law_more"] (sp__law_step K A) := by
  refine F.ok sc__law_step (fun vs H Q E h => by obtain ⟨_, _, _, _, _, _, _, _, _, _, _, _, _, rfl, _⟩ := h; rfl) (fun cdv A' outer s H vs Q E hr h => ?_)
  obtain ⟨b, R, J, log, g, W, x, aq, avs, es, W', z, more, rfl, ⟨hR, hx, hpre, hll, ⟨haq, hav, haM, haB⟩, ⟨hTk, hTe⟩, hmore, hel, hleft⟩, k⟩ := h
  refine ⟨_, (pss_cons (ps_set (i := 6) sc__law_step.nd rfl (Or.inl rfl) (SH.peOrE (SH.pe_methF0 (pv 0) M_Pour_left hr pass0) (SH.pe_methF0 (pv 0) M_LastPour_left hr pass0)))
        (pss_cons (ps_set (i := 7) sc__law_step.nd rfl (Or.inl rfl) (SH.peOrE (SH.pe_methF0 (pv 0) M_Pour_first hr pass0) (SH.pe_methF0 (pv 0) M_LastPour_first hr pass0)))
        (pss_cons (ps_set (i := 8) sc__law_step.nd rfl (Or.inl rfl) (pe_callB SH.cLen (by rfl) T.z_len (by decide +kernel) (pa_cons (pv 2) pa_nil)))
        (pss_cons (ps_asg (SH.pe_callF C__law_taken hr (by rfl) pass0 (pa_cons (pv 0) pa_nil)) (pg_tup (by rfl) (pgs_cons (pg_name (i := 9) sc__law_step.nd rfl (Or.inl rfl)) (pgs_cons (pg_name (i := 10) sc__law_step.nd rfl (Or.inl rfl)) pgs_nil))))
        (pss_cons (ps_if (pt_cmpR (SH.oEq hr.units) (pv 9) pe_str (nomark _)) (pss_cons (ps_if (PW.pt (pw_or (pt_not (pt_val (SH.pe_callF C__law_refused hr (by rfl) pass0 (pa_cons (pv 10) (pa_cons (pv 1) pa_nil))))) (pw_or (pt_cmpR (SH.oNe hr.units) (SH.peOrE (SH.pe_methF0 (pv 0) M_Pour_left hr pass0) (SH.pe_methF0 (pv 0) M_LastPour_left hr pass0)) (pv 6) (nomark _)) (pw_or1 (pt_cmpR (SH.oNe hr.units) (SH.peOrE (SH.pe_methF0 (pv 0) M_Pour_first hr pass0) (SH.pe_methF0 (pv 0) M_LastPour_first hr pass0)) (pv 7) (nomark _)))))) (pss_one (ps_ret pe_bl)) pss_nil)
        (pss_cons (ps_if (PW.pt (pw_or (pt_cmpR (SH.oNe hr.units) (pe_slice sl_list (pv 2) (po_some (pv 8)) po_none) (pe_slice sl_list (pv 4) po_none (po_some (pe_op SH.oSub (pe_callB SH.cLen (by rfl) T.z_len (by decide +kernel) (pa_cons (pv 2) pa_nil)) (pv 8)))) (nomark _)) (pw_or1 (pt_cmpR SH.oGe (pe_op SH.oSub (pe_callB SH.cLen (by rfl) T.z_len (by decide +kernel) (pa_cons (pv 2) pa_nil)) (pv 8)) (pe_callB SH.cLen (by rfl) T.z_len (by decide +kernel) (pa_cons (pv 4) pa_nil)) (nomark _))))) (pss_one (ps_ret pe_bl)) pss_nil)
        (pss_cons (ps_expr (SH.pe_methF (pv 1) M_Asker_widen hr pass0 (pa_cons (pv 5) pa_nil)))
        (pss_cons (ps_set (i := 8) sc__law_step.nd rfl (Or.inl rfl) (pe_callB SH.cLen (by rfl) T.z_len (by decide +kernel) (pa_cons (pv 2) pa_nil)))
        (pss_one (ps_asg (SH.pe_callF C__law_taken hr (by rfl) pass0 (pa_cons (pv 0) pa_nil)) (pg_tup (by rfl) (pgs_cons (pg_name (i := 9) sc__law_step.nd rfl (Or.inl rfl)) (pgs_cons (pg_name (i := 10) sc__law_step.nd rfl (Or.inl rfl)) pgs_nil))))))))) pss_nil)
        (pss_cons (ps_if (PW.pt (pw_or (pt_cmpR (SH.oNe hr.units) (pv 9) pe_str (nomark _)) (pw_or (pt_not (pt_val (SH.pe_callF C__law_whole hr (by rfl) pass0 (pa_cons (pv 10) pa_nil)))) (pw_or (pt_cmpR (SH.oNe hr.units) (pv 10) (pv 7) (nomark _)) (pw_or1 (pt_cmpR (SH.oNe hr.units) (pv 10) (pv 3) (nomark _))))))) (pss_one (ps_ret pe_bl)) pss_nil)
        (pss_one (ps_ret (pe_and (pe_cmpR (SH.oEq hr.units) (pe_slice sl_list (pv 2) (po_some (pv 8)) po_none) (pv 4) (nomark _)) (pe_and (SH.pe_callF C__law_whole hr (by rfl) pass0 (pa_cons (SH.peOrE (SH.pe_methF0 (pv 0) M_Pour_left hr pass0) (SH.pe_methF0 (pv 0) M_LastPour_left hr pass0)) pa_nil)) (pe_one (pe_cmpR (SH.oEq hr.units) (SH.peOrE (SH.pe_methF0 (pv 0) M_Pour_left hr pass0) (SH.pe_methF0 (pv 0) M_LastPour_left hr pass0)) (pe_op SH.oSub (pv 6) pe_int) (nomark _))))))))))))), ?_⟩
  walk_at "begin"
  have havl := isl_len hav
  walk_at "rd"
  refine po_left rfl hR fun H1 S1 => ?_
  have hR1 := hR.dT S1
  walk_at "rd"
  refine po_first rfl hR1 hx fun H2 S2 => ?_
  rw [show frI (some x) = V.int (x.1 : Nat) from rfl]
  have hR2 := hR1.dT S2
  obtain ⟨tvs, htl2, htv2⟩ := hR2.ask.ht
  rw [hpre, List.nil_append] at htv2
  have htvl := isl_len htv2
  have haq2 := (S1.trans S2).keep0 haq
  have hav2 := isl_stp (S1.trans S2) hav
  walk_at "rd"
  refine taken_or hR2 hx (by rw [hpre, List.length_nil]; omega) fun H3 t hTT => ?_
  obtain ⟨w, v, ht3, hcase⟩ := hTT
  have hJt : ∀ {n : Nat} {lg es : List Ent}, Told (J.wide n).or lg es → ∀ e ∈ es, e.c = J.lt e.a e.b := fun {n lg es} h => Told.all (lt := J.lt) h
  have hJt0 : ∀ {lg es : List Ent}, Told J.or lg es → ∀ e ∈ es, e.c = J.lt e.a e.b := fun {lg es} h => Told.all (lt := J.lt) h
  walk_at "ri"
  refine r_J (fun σ H' => ∃ (n : Nat) (log' : List Ent), (∀ e ∈ log', e ∈ log ∨ e.c = J.lt e.a e.b) ∧ log'.length ≤ log.length + es.length ∧ Stp (R.M J) H H' ∧ R.At b K A (poC A b) (J.wide n) H' (log' ++ es) (g.set x.2 (g.getD x.2 0 + 1)) W' ∧ H' aq = some (.lst avs) ∧ IsL K H' avs es ∧
    σ = [some (.ref R.o), some (.ref J.s), some (.ref J.tl), some (.int (x.1 : Nat)), some (.ref aq), some (.int (more : Nat)), some (.int (R.left g : Nat)), some (.int (x.1 : Nat)), some (.int (log'.length : Nat)), some (.str "told"), some (.int (x.1 : Nat))]) ?_ fun N hN => ?_
  rotate_left
  · have S02 : Stp (R.M J) H H2 := (S1.trans S2).mono (by simp)
    have haqR : aq ∉ R.M J := fun z => by
      simp only [PR.M, List.mem_cons] at z
      rcases z with z | z | z
      · exact haB (by rw [z]; simp [PR.base])
      · exact haB (by rw [z]; simp [PR.base])
      · exact haM z
    rcases hcase with ⟨rfl, e, d, es1, es', W1, z1, rfl, hTk1, hne, hT1, hm1, S3, hA3, he3, hd3⟩ | ⟨rfl, rfl, es1, W1, z1, hTk1, hT1, S3, hR3⟩
    · obtain ⟨e1, _, _⟩ := hTk1.uniq hTk (hJt0 hT1) hTe
      subst e1
      walk_at "rd"
      refine v_eqS ?_
      rw [decide_eq_true rfl]
      walk_at "rd"
      refine ⟨J, log ++ es1, e, d, rfl, ⟨hA3, by rw [hm1, List.length_append], he3, by rw [List.length_append]; exact hd3⟩, ?_⟩
      have hR3 := hR2.more S3 hA3 (fun e he => List.mem_append_left _ he)
      have haq3 := S3.keep haq2 haM
      have hav3 := isl_stpM S3 hav2
      walk_at "rd"
      refine po_left rfl hR3 fun H4 S4 => ?_
      have hR4 := hR3.dT S4
      walk_at "rd"
      refine r_nwF rfl ?_
      walk_at "rd"
      refine po_first rfl hR4 hx fun H5 S5 => ?_
      rw [show frI (some x) = V.int (x.1 : Nat) from rfl]
      have hR5 := hR4.dT S5
      have haq5 := (S4.trans S5).keep0 haq3
      have hav5 := isl_stp (S4.trans S5) hav3
      obtain ⟨tvs5, htl5, htv5⟩ := hR5.ask.ht
      rw [hpre, List.nil_append] at htv5
      have htvl5 := isl_len htv5
      rw [List.length_append] at htvl5
      walk_at "rd"
      refine r_nwF rfl ?_
      walk_at "rd"
      intro q1 hq1
      rw [htvl, cutV_fr, ]
      have S6 := (Stp.refl [] H5).new (o := .lst (tvs5.drop log.length)) hq1
      have hq16 := upd_same (H := H5) (a := q1) (o := .lst (tvs5.drop log.length))
      have hR6 := hR5.dT S6
      have haq6 := S6.keep0 haq5
      have hav6 := isl_stp S6 hav5
      have htl6 := S6.keep0 htl5
      have htv6 := isl_stp S6 htv5
      generalize upd H5 q1 (.lst (tvs5.drop log.length)) = H6 at S6 hq16 hR6 haq6 hav6 htl6 htv6 ⊢
      walk_at "rd"
      intro q2 hq2
      rw [show ((tvs5.length : Nat) : Int) - ((log.length : Nat) : Int) = ((es1.length : Nat) : Int) by omega, cutV_up]
      have S7 := (Stp.refl [] H6).new (o := .lst (avs.take es1.length)) hq2
      have hq27 := upd_same (H := H6) (a := q2) (o := .lst (avs.take es1.length))
      have hR7 := hR6.dT S7
      have haq7 := S7.keep0 haq6
      have hav7 := isl_stp S7 hav6
      have htl7 := S7.keep0 htl6
      have htv7 := isl_stp S7 htv6
      have hq17 := S7.keep0 hq16
      generalize upd H6 q2 (.lst (avs.take es1.length)) = H7 at S7 hq27 hR7 haq7 hav7 htl7 htv7 hq17 ⊢
      refine v_neE (x := es1) (y := es1) (is_lst (SqL.of hq17) (by
        have := isl_drop (n := log.length) htv7
        rw [List.drop_append_of_le_length (Nat.le_refl _), List.drop_length, List.nil_append] at this
        exact this)) (is_lst (SqL.of hq27) (by
        have := isl_take (n := es1.length) hav7
        rw [List.take_append_of_le_length (Nat.le_refl _), List.take_length] at this
        exact this)) ?_
      rw [decide_eq_true rfl]
      refine ⟨_, rfl, ?_⟩
      have hne' : 0 < es'.length := List.length_pos_iff.mpr hne
      rw [List.length_append] at havl hmore
      walk_at "rd"
      refine r_wF (by omega) ?_
      have hs7 := hR7.ask.hs
      unfold AskM at hs7
      walk_at "rd"
      refine ⟨J, log ++ es1, more, rfl, hR7.ask, fun H8 S8 hA8 => ?_⟩
      have hR8 := hR7.widen S8 hA8
      have nsM : ∀ m ∈ [J.s], m ∈ J.M := by simp [Ask.M]
      have htl8 := S8.keep1 htl7 (by
        obtain ⟨tv, h1, _⟩ := hR7.ask.ht
        exact (ne_of hs7 h1 (by intro z; cases z)).symm)
      have haq8 := S8.keep1 haq7 (fun z => haM (by rw [z]; simp [Ask.M]))
      have hav8 := isl_stpM S8 hav7
      walk_at "rd"
      refine taken_or hR8 hx (by show (log ++ es1).length + J.pre.length + 400 ≤ 100000; rw [hpre, List.length_nil, List.length_append]; rw [List.length_append] at hel; omega) fun H9 t9 hTT9 => ?_
      obtain ⟨w9, v9, ht9, hcase9⟩ := hTT9
      walk_at "rd"
      rcases hcase9 with ⟨rfl, e9, d9, es2, es2', W9, z9, rfl, hTk9, hne9, hT9, hm9, _⟩ | ⟨rfl, rfl, es2, W9, z9, hTk9, hT9, S9, hR9⟩
      · exfalso
        obtain ⟨e1, _, _⟩ := hTk9.uniq hTk (hJt hT9) hTe
        rw [wide_some hm1] at hm9
        have h1 := Option.some.inj hm9
        have h2 := congrArg List.length e1
        have h3 : 0 < es2'.length := List.length_pos_iff.mpr hne9
        simp only [List.length_append] at h1 h2
        omega
      · obtain ⟨e1, e2, _⟩ := hTk9.uniq hTk (hJt hT9) hTe
        subst e2
        rw [e1] at hR9
        have S79 : Stp (R.M J) H H9 := ((((S02.trans (S3.mono (by simp [PR.M]; intro b hb; simp [hb]))).trans (((S4.trans S5).trans (S6.trans S7)).mono (by simp))).trans (S8.mono (fun m hm => List.mem_cons_of_mem _ (List.mem_cons_of_mem _ (nsM m hm)))))).trans S9
        rw [htvl5, ← List.length_append]
        exact hN _ _ ⟨more, log ++ es1, fun e he => (List.mem_append.mp he).imp id (fun h => hTe e (List.mem_append_left _ h)), by rw [List.length_append, List.length_append]; omega, S79, hR9, S9.keep haq8 haqR, isl_stpM S9 hav8, rfl⟩
    · obtain ⟨e1, e2, _⟩ := hTk1.uniq hTk (hJt0 hT1) hTe
      subst e1 e2
      walk_at "rd"
      refine v_eqS ?_
      rw [decide_eq_false (by decide +kernel)]
      walk_at "rd"
      rw [htvl]
      exact hN _ _ ⟨0, log, fun e he => .inl he, by omega, S02.trans S3, by rw [wide_zero]; exact hR3, S3.keep haq2 haqR, isl_stpM S3 hav2, rfl⟩
  rintro σ H4 ⟨n, log', hlog', hll', S4, hR4, haq4, hav4, rfl⟩
  dsimp only
  walk_at "rd"
  refine v_neS ?_
  rw [decide_eq_true rfl]
  refine ⟨_, rfl, ?_⟩
  obtain ⟨tvs4, htl4, htv4⟩ := hR4.ask.ht
  rw [show (J.wide n).pre = [] from hpre, List.nil_append] at htv4
  have htl4 : H4 J.tl = some (.lst tvs4) := htl4
  have htvl4 := isl_len htv4
  walk_at "rd"
  refine ⟨_, rfl, ?_⟩
  walk_at "rd"
  refine r_nwF rfl ?_
  walk_at "rd"
  refine r_nwF rfl ?_
  walk_at "rd"
  intro q1 hq1
  rw [cutV_fr]
  have S5 := (Stp.refl [] H4).new (o := .lst (tvs4.drop log'.length)) hq1
  have hq15 := upd_same (H := H4) (a := q1) (o := .lst (tvs4.drop log'.length))
  have hR5 := hR4.dT S5
  have haq5 := S5.keep0 haq4
  have hav5 := isl_stp S5 hav4
  have htv5 := isl_stp S5 htv4
  generalize upd H4 q1 (.lst (tvs4.drop log'.length)) = H5 at S5 hq15 hR5 haq5 hav5 htv5 ⊢
  walk_at "rd"
  refine v_eqE (x := es) (y := es) (is_lst (SqL.of hq15) (by
    have := isl_drop (n := log'.length) htv5
    rw [List.drop_append_of_le_length (Nat.le_refl _), List.drop_length, List.nil_append] at this
    exact this)) (is_lst (SqL.of haq5) hav5) ?_
  rw [decide_eq_true rfl]
  refine ⟨_, rfl, ?_⟩
  walk_at "rd"
  refine po_left rfl hR5 fun H6 S6 => ?_
  have hR6 := hR5.dT S6
  walk_at "rd"
  refine ⟨_, rfl, ?_⟩
  walk_at "rd"
  refine po_left rfl hR6 fun H7 S7 => ?_
  have hR7 := hR6.dT S7
  walk_at "rd"
  rw [decide_eq_true (by omega)]
  exact k _ n (log' ++ es) (fun e he => (List.mem_append.mp he).elim (hlog' e) (fun h => .inr (hTe e h))) (by rw [List.length_append]; omega) (S4.trans ((S5.trans (S6.trans S7)).mono (by simp))) hR7
theorem po_take {b : Bool} {R : PR} {I : Ask} {K : PySem.W.Frag} {A : Ad} {σ : L2.St} {H : Hp} {Q : VK} {E : XK} {i : Nat} {log : List Ent} {g : List Nat} {W : Wt} {z : Fr} (hi : σ[i]? = some (some (.ref R.o))) (hR : R.At b K A (poC A b) I H log g W) (hz : W 0 R.P.length = some z) (hl : log.length + I.pre.length + 400 ≤ 100000) (hm : ∀ x, z = some x → I.m = none) (k0 : z = none → ∀ H', Stp [] H H' → Q .non H')
    (k : ∀ x : Nat × Nat, z = some x → x.2 < R.P.length → g.getD x.2 0 < (R.P.getD x.2 []).length → ∀ H' es W' z', TakeR b W x.2 (frt b (R.P.getD x.2 []) (g.getD x.2 0 + 1) x.2) 0 R.P.length es W' z' → Told I.or log es → Stp (R.M I) H H' → R.At b K A (poC A b) I H' (log ++ es) (g.set x.2 (g.getD x.2 0 + 1)) W' → Q (.int (x.1 : Nat)) H') :
    tOrE (tMeth A.Pour (Str.ofString "take") (sp_Pour_take K A) [] E (tVar i) tNil) (tMeth A.LastPour (Str.ofString "take") (sp_LastPour_take K A) [] E (tVar i) tNil) σ H Q := by
  have ho := hR.st.ho
  cases b with
  | true => exact SH.r_orR (SH.r_meth (SH.r_var hi (SH.v_meth ho rfl ⟨R, I, log, g, W, z, rfl, ⟨hR, hz, hl⟩, fun x hx => (StopM.free (hm x hx)).toS, k0, k⟩)))
  | false => exact SH.r_orL (SH.r_meth (SH.r_var hi (SH.v_meth ho rfl ⟨R, I, log, g, W, z, rfl, ⟨hR, hz, hl⟩, fun x hx => (StopM.free (hm x hx)).toS, k0, k⟩)))
/-- what the making of a pour tells -/
def MadT (b : Bool) (P : List (List Nat)) (I : Ask) (K : PySem.W.Frag) (A : Ad) (log : List Ent) (H H' : Hp) (v : V) : Prop :=
  (v = .non ∧ ∃ es es' W z, Hold b (frts b P (List.replicate P.length 0)) 0 P.length (fun _ _ => none) (es ++ es') W z ∧ es' ≠ [] ∧ Told I.or log (es ++ es') ∧ I.m = some (log.length + es.length) ∧ Stp I.M H H' ∧ I.At K A H' (log ++ es)) ∨
  ∃ (R : PR) (es : List Ent) (W : Wt) (z : Fr), v = .ref R.o ∧ R.P = P ∧ (∀ a ∈ R.base, H a = none) ∧ Hold b (frts b P (List.replicate P.length 0)) 0 P.length (fun _ _ => none) es W z ∧ Told I.or log es ∧ Stp I.M H H' ∧ R.At b K A (poC A b) I H' (log ++ es) (List.replicate P.length 0) W
theorem made_or {b : Bool} {I : Ask} {K : PySem.W.Frag} {A : Ad} {H : Hp} {Q : VK} {E : XK} {log : List Ent} {pq : Addr} {pa : List Addr} {P : List (List Nat)} (hA : I.At K A H log) (hpq : H pq = some (.lst (pa.map V.ref))) (hpl : Pls H pa P) (hP : Pcs I P) (hs : (P.map List.length).sum ≤ 2000) (hl : log.length + I.pre.length + 400 ≤ 100000)
    (k : ∀ H' v, MadT b P I K A log H H' v → Q v H') : sp__law_made K A [.ref I.s, .ref pq, .bl b] H Q E :=
  ⟨b, I, log, pq, pa, P, rfl, ⟨hA, hpq, hpl, hP, hs, hl⟩, fun H' es es' W z h1 h2 h3 h4 h5 h6 => k H' _ (.inl ⟨rfl, es, es', W, z, h1, h2, h3, h4, h5, h6⟩),
    fun R H' es W z h1 h2 h3 h4 h5 h6 => k H' _ (.inr ⟨R, es, W, z, rfl, h1, h2, h3, h4, h5, h6⟩)⟩
theorem PR.At.ext {R : PR} {b : Bool} {K : PySem.W.Frag} {A : Ad} {C : Addr} {I : Ask} {H H' : Hp} {log : List Ent} {g : List Nat} {W : Wt} (h : R.At b K A C I H log g W) (e : ExtN H H') : R.At b K A C I H' log g W := by
  obtain ⟨kvs, h1, h2, h3, h4⟩ := h.dw
  have gi : ∀ {x : Addr} {C d : Addr} {fs : List (Str × V)}, H x = some (.ins C d fs) → H' x = some (.ins C d fs) := fun hx => e _ _ hx (by intro ps z; cases z)
  refine ⟨⟨gi h.st.ho, ext_lst e h.st.hp, fun i a z => by obtain ⟨ps, q1, q2⟩ := h.st.ha i a z; exact ⟨ps, q1, ext_lst e q2⟩, h.st.hl, ext_lst e h.st.hg, h.st.gl, h.st.own, h.st.n1, h.st.n2⟩, h.ask.ext e, h.pcs, h.gle, ⟨kvs, e _ _ h1 (by intro ps z; cases z), fun a c x z => ?_, h3, h4⟩, h.tre⟩
  obtain ⟨v, q1, q2⟩ := h2 a c x z
  refine ⟨v, q1, ?_⟩
  cases x with
  | none => exact q2
  | some x => obtain ⟨t, r1, r2⟩ := q2; exact ⟨t, r1, ext_tup e r2⟩
theorem wide_wide {I : Ask} {a b : Nat} : (I.wide a).wide b = I.wide (a + b) := by
  unfold Ask.wide
  congr 1
  cases h : I.m with
  | none => rfl
  | some m => show some (m + a + b) = some (m + (a + b)); rw [Nat.add_assoc]
def sp_law (K : PySem.W.Frag) (A : Ad) : Sp := fun vs H Q _ => ∃ (a : Addr) (ns : List Int), vs = [.ref a] ∧ (SqL K H a (ns.map V.int) ∧ ns.length ≤ 63 ∧ TabsN (Tb A) H) ∧ ∀ H', Q (.bl true) H'
theorem ok_law {P : Program} {w : World} {K : PySem.W.Frag} {mg : Str → Option Value} {base : Heap} {A : Ad} {f : Addr} {fd : FuncData} (F : Fun K "law" "law" s_law f fd) (T : Txt K mg A) (M_Asker_widen : SH.CalM P w K mg base CX0 1 A.Asker "widen" [] (sp_Asker_widen K A)) (M_LastPour_left : SH.CalM P w K mg base CX0 1 A.LastPour "left" [] (sp_LastPour_left K A)) (M_LastPour_take : SH.CalM P w K mg base (L2N.CX P w) 6 A.LastPour "take" [] (sp_LastPour_take K A)) (M_Pour_left : SH.CalM P w K mg base CX0 1 A.Pour "left" [] (sp_Pour_left K A)) (M_Pour_take : SH.CalM P w K mg base (L2N.CX P w) 6 A.Pour "take" [] (sp_Pour_take K A)) (C__law_cell_at : SH.Cal P w K mg base CX0 1 "_law_cell_at" [] (sp__law_cell_at K A)) (C__law_dealt : SH.Cal P w K mg base CX0 3 "_law_dealt" [] (sp__law_dealt K A)) (C__law_keys : SH.Cal P w K mg base CX0 3 "_law_keys" [] (sp__law_keys K A)) (C__law_made : SH.Cal P w K mg base CX0 18 "_law_made" [] (sp__law_made K A)) (C__law_step : SH.Cal P w K mg base CX0 8 "_law_step" [] (sp__law_step K A)) (C__law_teller : SH.Cal P w K mg base CX0 1 "_law_teller" [] (sp__law_teller K A)) (C__law_whole : SH.Cal P w K mg base CX0 1 "_law_whole" [] (sp__law_whole K A)) (N_AskedRule : SH.CalC P w K mg base CX0 1 "AskedRule" A.AskedRule [] (sp_AskedRule___init__ K A)) (N_Asker : SH.CalC P w K mg base CX0 1 "Asker" A.Asker [] (sp_Asker___init__ K A)) (N_Asker_d1 : SH.CalC P w K mg base CX0 1 "Asker" A.Asker [.non] (sp_Asker___init__ K A)) : FnOk P w K mg base CX0 19 f fd ["_law_script"] (sp_law K A) := by
  refine F.ok sc_law (fun vs H Q E h => by obtain ⟨_, _, rfl, _⟩ := h; rfl) (fun cdv A' outer s H vs Q E hr h => ?_)
  obtain ⟨a, ns, rfl, ⟨hS, hlen, hTb⟩, k⟩ := h
  refine ⟨_, (pss_cons (ps_set (i := 1) sc_law.nd rfl (Or.inr rfl) (SH.pe_callF C__law_keys hr (by rfl) pass0 (pa_cons (pv 0) (pa_cons pe_int pa_nil))))
        (pss_cons (ps_set (i := 2) sc_law.nd rfl (Or.inl rfl) (SH.pe_callF C__law_dealt hr (by rfl) pass0 (pa_cons (pv 1) (pa_cons (pv 0) pa_nil))))
        (pss_cons (ps_setLc (i := 3) (own := [("_law_k", 16), ("_law_key", 17)]) (g := (gTup K 2 (gCons (gName 16) (gCons (gName 17) gNil)))) (tt := tYes) (by rfl) sc_law.nd rfl rfl (sw_true rfl rfl rfl (by decide +kernel)) (pi_enum (by rfl) T.z_enumerate (pa_cons (pv 1) pa_nil)) (blkOk_by (own := [("_law_k", 16), ("_law_key", 17)]) (N := ["_law_script", "_law_keys_here", "_law_pieces", "_law_row", "_law_most", "_law_last", "_law_free", "_law_twin", "_law_log", "_law_asker", "_law_pour", "_law_more", "_law_places", "_law_piece", "_law_pair", "_law_made_here", "_law_k", "_law_key", "_law_place"]) (sc := defScope s_law) (by decide +kernel)) (fun _ _ _ _ _ => (pg_tup (by rfl) (pgs_cons (pg_name (i := 16) sc_law.nd rfl (Or.inl rfl)) (pgs_cons (pg_name (i := 17) sc_law.nd rfl (Or.inl rfl)) pgs_nil)))) (fun _ _ _ _ _ => pts_nil) (fun _ _ _ _ _ => (pe_tup (pa_cons (pv 17) (pa_cons (pv 16) pa_nil)))))
        (pss_cons (ps_set (i := 4) sc_law.nd rfl (Or.inl rfl) (pe_op SH.oMod (SH.pe_callF C__law_cell_at hr (by rfl) pass0 (pa_cons (pv 0) (pa_cons pe_int pa_nil))) pe_int))
        (pss_cons (ps_set (i := 5) sc_law.nd rfl (Or.inl rfl) (pe_cmpR (SH.oEq hr.units) (pe_op SH.oMod (pe_op SH.oDiv (SH.pe_callF C__law_cell_at hr (by rfl) pass0 (pa_cons (pv 0) (pa_cons pe_int pa_nil))) pe_int) pe_int) pe_int (nomark _)))
        (pss_cons (ps_set (i := 6) sc_law.nd rfl (Or.inl rfl) (pe_lst pa_nil))
        (pss_cons (ps_set (i := 7) sc_law.nd rfl (Or.inl rfl) (SH.pe_callF C__law_made hr (by rfl) pass0 (pa_cons (SH.pe_makeF N_Asker_d1 hr (by rfl) pass0 (pa_cons (pv 3) (pa_cons (SH.pe_makeF N_AskedRule hr (by rfl) pass0 (pa_cons (SH.pe_callF C__law_teller hr (by rfl) pass0 (pa_cons (pv 6) pa_nil)) pa_nil)) pa_nil))) (pa_cons (pv 2) (pa_cons (pv 5) pa_nil)))))
        (pss_cons (ps_set (i := 8) sc_law.nd rfl (Or.inl rfl) (pe_lst pa_nil))
        (pss_cons (ps_set (i := 9) sc_law.nd rfl (Or.inl rfl) (SH.pe_makeF N_Asker hr (by rfl) pass0 (pa_cons (pv 3) (pa_cons (SH.pe_makeF N_AskedRule hr (by rfl) pass0 (pa_cons (SH.pe_callF C__law_teller hr (by rfl) pass0 (pa_cons (pv 8) pa_nil)) pa_nil)) (pa_cons (pv 4) pa_nil)))))
        (pss_cons (ps_set (i := 10) sc_law.nd rfl (Or.inl rfl) (SH.pe_callF C__law_made hr (by rfl) pass0 (pa_cons (pv 9) (pa_cons (pv 2) (pa_cons (pv 5) pa_nil)))))
        (pss_cons (ps_if (PW.pt (pw_or (pt_cmpR (SH.oNe hr.units) (pe_cmpR SH.oIsN (pv 10) pe_non (nomark _)) (pe_cmpR SH.oGt (pe_callB SH.cLen (by rfl) T.z_len (by decide +kernel) (pa_cons (pv 6) pa_nil)) (pv 4) (nomark _)) (nomark _)) (pw_or1 (pt_cmpR (SH.oNe hr.units) (pv 8) (pe_slice sl_list (pv 6) po_none (po_some (pv 4))) (nomark _))))) (pss_one (ps_ret pe_bl)) pss_nil)
        (pss_cons (ps_if (pt_cmpR SH.oIsN (pv 10) pe_non (nomark _)) (pss_cons (ps_expr (SH.pe_methF (pv 9) M_Asker_widen hr pass0 (pa_cons (pe_callB SH.cLen (by rfl) T.z_len (by decide +kernel) (pa_cons (pv 2) pa_nil)) pa_nil)))
        (pss_cons (ps_set (i := 10) sc_law.nd rfl (Or.inl rfl) (SH.pe_callF C__law_made hr (by rfl) pass0 (pa_cons (pv 9) (pa_cons (pv 2) (pa_cons (pv 5) pa_nil)))))
        (pss_one (ps_if (PW.pt (pw_or (pt_cmpR SH.oIsN (pv 10) pe_non (nomark _)) (pw_or1 (pt_cmpR (SH.oNe hr.units) (pe_slice sl_list (pv 8) (po_some (pv 4)) po_none) (pv 6) (nomark _))))) (pss_one (ps_ret pe_bl)) pss_nil)))) pss_nil)
        (pss_cons (ps_set (i := 11) sc_law.nd rfl (Or.inl rfl) (pe_op SH.oAdd (pe_bits (pe_callB SH.cLen (by rfl) T.z_len (by decide +kernel) (pa_cons (pv 2) pa_nil))) (pe_op SH.oMod (pe_op SH.oDiv (SH.pe_callF C__law_cell_at hr (by rfl) pass0 (pa_cons (pv 0) (pa_cons pe_int pa_nil))) pe_int) pe_int)))
        (pss_cons (ps_set (i := 12) sc_law.nd rfl (Or.inl rfl) (pe_lst pa_nil))
        (pss_cons (ps_for PassesOwn.never rfl (pi_list (pv 2)) (pg_name (i := 13) sc_law.nd rfl (Or.inl rfl)) (pss_one (ps_set (i := 12) sc_law.nd rfl (Or.inl rfl) (pe_op SH.oAdd (pv 12) (pe_lc (own := [("_law_place", 18)]) (g := (gName 18)) (tt := tYes) (by rfl) sc_law.nd (pi_list (pv 13)) (blkOk_by (own := [("_law_place", 18)]) (N := ["_law_script", "_law_keys_here", "_law_pieces", "_law_row", "_law_most", "_law_last", "_law_free", "_law_twin", "_law_log", "_law_asker", "_law_pour", "_law_more", "_law_places", "_law_piece", "_law_pair", "_law_made_here", "_law_k", "_law_key", "_law_place"]) (sc := defScope s_law) (by decide +kernel)) (fun _ _ _ _ _ => (pg_name (i := 18) sc_law.nd rfl (Or.inl rfl))) (fun _ _ _ _ _ => pts_nil) (fun _ _ _ _ _ => (pe_tup (pa_cons (pe_ix (SH.ixK SH.aIx K SH.ixA) (pv 1) (pv 18) (fun _ _ => rfl)) (pa_cons (pv 18) pa_nil)))))))))
        (pss_cons (ps_set (i := 12) sc_law.nd rfl (Or.inl rfl) (pe_callB cr_sortedPO (by rfl) T.z_sorted (by decide +kernel) (pa_cons (pv 12) pa_nil)))
        (pss_cons (ps_if (pt_val (pv 5)) (pss_one (ps_expr (pe_bm0 PySem.F.plainAttrs_list PySem.F.slot_list_reverse PySem.F.type_list_reverse mt_reverse (pv 12)))) pss_nil)
        (pss_cons (ps_if (PW.pt (pw_or (pt_not (pt_val (SH.pe_callF C__law_whole hr (by rfl) pass0 (pa_cons (SH.peOrE (SH.pe_methF0 (pv 10) M_Pour_left hr pass0) (SH.pe_methF0 (pv 10) M_LastPour_left hr pass0)) pa_nil)))) (pw_or1 (pt_cmpR (SH.oNe hr.units) (SH.peOrE (SH.pe_methF0 (pv 10) M_Pour_left hr pass0) (SH.pe_methF0 (pv 10) M_LastPour_left hr pass0)) (pe_callB SH.cLen (by rfl) T.z_len (by decide +kernel) (pa_cons (pv 12) pa_nil)) (nomark _))))) (pss_one (ps_ret pe_bl)) pss_nil)
        (pss_cons (ps_for PassesOwn.never rfl (pi_list (pv 12)) (pg_name (i := 14) sc_law.nd rfl (Or.inl rfl)) (pss_cons (ps_set (i := 15) sc_law.nd rfl (Or.inl rfl) (pe_callB SH.cLen (by rfl) T.z_len (by decide +kernel) (pa_cons (pv 6) pa_nil)))
        (pss_one (ps_if (PW.pt (pw_or (pt_cmpR (SH.oNe hr.units) (SH.peOrE (SH.pe_methF0 (pv 7) M_Pour_take hr SH.passLN) (SH.pe_methF0 (pv 7) M_LastPour_take hr SH.passLN)) (pe_ix SH.ixA (pv 14) pe_int (fun _ _ => rfl)) (nomark _)) (pw_or1 (pt_not (pt_val (SH.pe_callF C__law_step hr (by rfl) pass0 (pa_cons (pv 10) (pa_cons (pv 9) (pa_cons (pv 8) (pa_cons (pe_ix SH.ixA (pv 14) pe_int (fun _ _ => rfl)) (pa_cons (pe_slice sl_list (pv 6) (po_some (pv 15)) po_none) (pa_cons (pv 11) pa_nil)))))))))))) (pss_one (ps_ret pe_bl)) pss_nil))))
        (pss_one (ps_ret (pe_and (pe_cmpR SH.oIsN (SH.peOrE (SH.pe_methF0 (pv 10) M_Pour_take hr SH.passLN) (SH.pe_methF0 (pv 10) M_LastPour_take hr SH.passLN)) pe_non (nomark _)) (pe_and (pe_cmpR (SH.oEq hr.units) (SH.peOrE (SH.pe_methF0 (pv 10) M_Pour_left hr pass0) (SH.pe_methF0 (pv 10) M_LastPour_left hr pass0)) pe_int (nomark _)) (pe_one (pe_cmpR (SH.oEq hr.units) (SH.pe_fldF T.cl_Asker T.na_Asker_asked (pv 9)) (pe_callB SH.cLen (by rfl) T.z_len (by decide +kernel) (pa_cons (pv 8) pa_nil)) (nomark _)))))))))))))))))))))))))), ?_⟩
  walk_at "begin"
  walk_at "rd"
  refine ⟨a, ns, 60, rfl, ⟨hS, hlen, by decide, by decide⟩, fun kl H1 ks hkl S1 hK hks => ?_⟩
  have hTb1 := tabs_stp hTb S1
  have hS1 := S1.sql0 hS
  walk_at "rd"
  refine ⟨kl, a, ks, ns, rfl, ⟨hK, hS1, by omega⟩, fun pq H2 pa P hpq S2 hPQ hpls hpf hpn hDl => ?_⟩
  have hTb2 := tabs_stp hTb1 S2
  have hK2 := S2.keep0 hK
  have hS2 := S2.sql0 hS1
  have htot := hDl.sum
  have hPf := hDl.few
  clear S1 hS hTb hkl S2 hTb1 hS1 hK
  walk_at "rd"
  intro D hD
  refine lc_it (walk_enum (xs := ks.map V.int)) (fun j H' => Stp [] H2 H' ∧ ∃ row : List V, row.length = j ∧ RowP H' row (ks.take j) ∧ H' D = some (.lst row)) ⟨(Stp.refl _ _).new hD, [], rfl, ⟨rfl, fun i v e => by cases e⟩, upd_same⟩ (fun j H' _ z => z.1.sql0 (SqL.of hK2)) ?_ ?_
  · rintro j x H5 H6 hj ⟨S, row, hrl, hrow, hL⟩ ⟨T0, x0, y0, rfl, hT0, rfl, hx0, hy0⟩
    cases hx0
    obtain ⟨n, hn, rfl⟩ := map_at hy0
    rw [List.length_map] at hj
    walk_at "rd"
    intro t ht
    have hL' := upd_old (u := .tup [.int (j : Nat), .int n]) hL hT0
    have htD : t ≠ D := (ne_of_none hL' ht).symm
    have S5 : Stp [D] H5 (upd (upd (upd H5 T0 (.tup [.int (j : Nat), .int n])) t (.tup [.int n, .int (j : Nat)])) D (.lst (row ++ [.ref t]))) := (((Stp.refl [D] H5).new hT0).new ht).putL (by simp) (upd_old hL' ht)
    refine ⟨_, upd_old hL' ht, Nat.lt_of_le_of_lt (m := 1000) (by omega) (by decide), ((S.new hT0).new ht).putN hD, row ++ [.ref t], by simp [hrl], ?_, upd_same⟩
    rw [List.take_succ, hn]
    refine RowP.app (k := n) (hrow.stp S5) ?_
    rw [upd_ne htD, upd_same, hrl]
  rintro H3 ⟨S3, row, hrl, hrow, hD3⟩
  rw [List.length_map, List.take_length] at hrow
  have hTb3 := tabs_stp hTb2 S3
  have hK3 := S3.keep0 hK2
  have hS3 := S3.sql0 hS2
  have hPQ3 := S3.keep0 hPQ
  have hpls3 := hpls.stp S3 (by simp)
  clear S3 hTb2 hK2 hS2 hPQ hpls hD
  walk_at "rd"
  refine ⟨a, ns, 1, rfl, hS3, fun c1 => ?_⟩
  walk_at "rd"
  refine ⟨a, ns, 1, rfl, hS3, fun c2 => ?_⟩
  walk_at "rd"
  generalize hlast : decide (c2 / 60 % 2 = 1) = b
  obtain ⟨most, hmost⟩ : ∃ m : Nat, c1 % 60 = (m : Int) := ⟨(c1 % 60).toNat, by omega⟩
  rw [hmost]
  have hmo : most < 60 := by omega
  intro t1 ht1
  obtain ⟨ax, hax, hSa⟩ := sql_or hS3
  have S4 := (Stp.refl [] H3).new (o := .lst []) ht1
  have ht4 := upd_same (H := H3) (a := t1) (o := .lst [])
  have hTb4 := tabs_stp hTb3 S4
  have hK4 := S4.keep0 hK3
  have hS4 := S4.sql0 hS3
  have hPQ4 := S4.keep0 hPQ3
  have hpls4 := hpls3.stp S4 (by simp)
  have hD4 := S4.keep0 hD3
  have hrow4 := hrow.stp S4
  have hx3 : ∀ x ∈ kl :: pq :: D :: (ax ++ pa), H3 x ≠ none := fun x hx => by
    simp only [List.mem_cons, List.mem_append] at hx
    rcases hx with rfl | rfl | rfl | h | h
    · rw [hK3]; simp
    · rw [hPQ3]; simp
    · rw [hD3]; simp
    · exact hax x h
    · exact hpls3.there h
  have hx4 : ∀ x ∈ kl :: pq :: D :: (ax ++ pa), H3 x ≠ none ∧ x ≠ t1 := fun x hx => ⟨hx3 x hx, fun z => hx3 x hx (by rw [z]; exact ht1)⟩
  have hx4o : ∀ x ∈ kl :: pq :: D :: (ax ++ pa), ∃ o, upd H3 t1 (.lst []) x = some o := fun x hx => by
    obtain ⟨o, ho⟩ := Option.ne_none_iff_exists'.mp (hx3 x hx)
    exact ⟨o, S4.keep0 ho⟩
  generalize upd H3 t1 (.lst []) = H4 at S4 ht4 hTb4 hK4 hS4 hPQ4 hpls4 hD4 hrow4 hx4o ⊢
  clear S4 hTb3 hK3 hS3 hPQ3 hpls3 hD3 hrow ht1
  walk_at "rq"
  refine askmake (m := none) (us := []) rfl rfl hD4 hrow4 hTb4 ht4 isl_nil (by have := hrow4.1; omega) (by simp) (fun H Q h => h) rfl fun H5 I hM => ?_
  have hA5 := hM.at_
  have hTb5 := hM.tab
  have hK5 := ext_lst hM.ext hK4
  have hPQ5 := ext_lst hM.ext hPQ4
  have hpls5 := hpls4.ext hM.ext
  have hS5 := sql_extN hM.ext hS4
  have hD5 := ext_lst hM.ext hD4
  have hrow5 := hrow4.ext hM.ext
  have xO : ∀ x ∈ kl :: pq :: D :: (ax ++ pa), x ∉ I.own := fun x hx => by
    obtain ⟨o, ho⟩ := hx4o x hx
    exact hM.far2 x o ho (hx4 x hx).2
  have hx5 : ∀ x ∈ kl :: pq :: D :: (ax ++ pa), H5 x ≠ none := fun x hx z => by
    obtain ⟨o, ho⟩ := hx4o x hx
    have := hM.dom x z
    rw [ho] at this; cases this
  have hlt := hM.lt
  have hn := hM.n
  have hpre := hM.e3
  have htlI := hM.e1
  have hm := hM.e5
  clear hM hK4 hPQ4 hpls4 hS4 hTb4 ht4 hD4 hrow4 hx4 hx4o hx3
  have hP : Pcs I P := ⟨fun ps h p hp => by rw [hn]; exact hDl.lt ps h p hp, hDl.nd, by omega⟩
  walk_at "rd"
  refine made_or hA5 hPQ5 hpls5 hP (by omega) (by rw [hpre]; simp) fun H6 v hMd => ?_
  rcases hMd with ⟨_, _, _, _, _, _, _, _, hm', _⟩ | ⟨R1, es1, W1, z1, rfl, hRP, hRf, hH1, hT1, S6, hR6⟩
  · rw [hm] at hm'; cases hm'
  rw [List.nil_append] at hR6
  have nI : ∀ x ∈ kl :: pq :: D :: (ax ++ pa), x ∉ I.M := fun x hx z => xO x hx (Ask.Mown z)
  have hK6 := S6.keep hK5 (nI _ (by simp))
  have hPQ6 := S6.keep hPQ5 (nI _ (by simp))
  have hpls6 := hpls5.stp S6 fun m hm z => nI m (by simp [z]) hm
  have hD6 := S6.keep hD5 (nI _ (by simp))
  have hS6 : SqL K H6 a (ns.map V.int) := by
    rcases hSa with z | z
    · exact S6.sql hS5 (nI a (by simp [z]))
    · exact z H6
  have hrow6 := hrow5.stp S6
  have hTb6 := tabs_ask hTb5 hA5 S6
  have xB : ∀ x ∈ kl :: pq :: D :: (ax ++ pa), x ∉ R1.base := fun x hx z => hx5 x hx (hRf x z)
  have hx6 : ∀ x ∈ kl :: pq :: D :: (ax ++ pa), H6 x ≠ none := fun x hx z => hx5 x hx (S6.dom x z)
  clear hRf hA5 hTb5 hK5 hPQ5 hpls5 hS5 hD5 hrow5 S6 hx5
  have hT1' : ∀ e ∈ es1, e.c = decide (getE ks e.a < getE ks e.b) := Told.all (by rw [hlt] at hT1; exact hT1)
  have hfew1 := hH1.few
  walk_at "rd"
  intro t2 ht2
  have S7 := (Stp.refl [] H6).new (o := .lst []) ht2
  have ht7 := upd_same (H := H6) (a := t2) (o := .lst [])
  have hR7 := hR6.dT S7
  have hTb7 := tabs_stp hTb6 S7
  have hK7 := S7.keep0 hK6
  have hS7 := S7.sql0 hS6
  have hPQ7 := S7.keep0 hPQ6
  have hpls7 := hpls6.stp S7 (by simp)
  have hD7 := S7.keep0 hD6
  have hrow7 := hrow6.stp S7
  have hy6 : ∀ x, (x ∈ kl :: pq :: D :: (ax ++ pa) ∨ x ∈ R1.base ∨ x ∈ I.own) → H6 x ≠ none := fun x hx z => by
    rcases hx with h | h | h
    · exact hx6 x h z
    · exact hR6.base h z
    · exact hR6.ask.freshO z h
  have hy7 : ∀ x, (x ∈ kl :: pq :: D :: (ax ++ pa) ∨ x ∈ R1.base ∨ x ∈ I.own) → x ≠ t2 ∧ ∃ o, upd H6 t2 (.lst []) x = some o := fun x hx => by
    obtain ⟨o, ho⟩ := Option.ne_none_iff_exists'.mp (hy6 x hx)
    exact ⟨fun z => hy6 x hx (by rw [z]; exact ht2), o, S7.keep0 ho⟩
  generalize upd H6 t2 (.lst []) = H7 at S7 ht7 hR7 hTb7 hK7 hS7 hPQ7 hpls7 hD7 hrow7 hy7 ⊢
  clear S7 hTb6 hK6 hS6 hPQ6 hpls6 hD6 hrow6 ht2 hR6 hy6 hx6
  walk_at "rq"
  refine askmake (m := some most) (us := [.int most]) rfl rfl hD7 hrow7 hTb7 ht7 isl_nil (by have := hrow7.1; omega) (by simp) (fun H Q h => by walk_at "rd"; exact h) rfl fun H8 J hM => ?_
  have hJ8 := hM.at_
  have hR8 := hR7.ext hM.ext
  have hTb8 := hM.tab
  have hK8 := ext_lst hM.ext hK7
  have hPQ8 := ext_lst hM.ext hPQ7
  have hpls8 := hpls7.ext hM.ext
  have hS8 := sql_extN hM.ext hS7
  have yO : ∀ x, (x ∈ kl :: pq :: D :: (ax ++ pa) ∨ x ∈ R1.base ∨ x ∈ I.own) → x ∉ J.own := fun x hx => by
    obtain ⟨h1, o, ho⟩ := hy7 x hx
    exact hM.far2 x o ho h1
  have hy8 : ∀ x, (x ∈ kl :: pq :: D :: (ax ++ pa) ∨ x ∈ R1.base ∨ x ∈ I.own) → H8 x ≠ none := fun x hx z => by
    obtain ⟨h1, o, ho⟩ := hy7 x hx
    have := hM.dom x z
    rw [ho] at this; cases this
  have hltJ := hM.lt
  have hnJ := hM.n
  have hpreJ := hM.e3
  have htlJ := hM.e1
  have hmJ := hM.e5
  clear hM hK7 hPQ7 hpls7 hS7 hTb7 ht7 hD7 hrow7 hy7 hR7
  have hPJ : Pcs J P := ⟨fun ps h p hp => by rw [hnJ]; exact hDl.lt ps h p hp, hDl.nd, by omega⟩
  have hlJ : J.lt = fun p q => decide (getE ks p < getE ks q) := by
    have := hltJ; unfold Ask.or at this; exact congrFun this []
  walk_at "rd"
  refine made_or hJ8 hPQ8 hpls8 hPJ (by omega) (by rw [hpreJ]; simp) fun H9 v hMd => ?_
  have hMd' : ∃ esJ, J.At K A H9 esJ ∧ Stp J.M H8 H9 ∧ esJ = es1.take most ∧ ((v = .non ∧ most < es1.length) ∨ (∃ R2 : PR, v = .ref R2.o ∧ es1.length ≤ most ∧ R2.P = P ∧ (∀ a ∈ R2.base, H8 a = none) ∧ R2.At b K A (poC A b) J H9 es1 (List.replicate P.length 0) W1)) := by
    rcases hMd with ⟨rfl, es, es', W, z, hH, hne, hT, hm9, S9, hJ9⟩ | ⟨R2, es, W, z, rfl, hRP2, hRf2, hH, hT, S9, hR9⟩
    · obtain ⟨e1, e2, _⟩ := hH.uniq (f := J.lt) hH1 (Told.all (lt := J.lt) hT) (by rw [hlJ]; exact hT1')
      have hl : 0 < es'.length := List.length_pos_iff.mpr hne
      rw [hmJ] at hm9
      have hm9 : most = es.length := by have := Option.some.inj hm9; simpa using this
      rw [List.nil_append] at hJ9
      subst e1
      refine ⟨es, hJ9, S9, ?_, .inl ⟨rfl, by rw [List.length_append]; omega⟩⟩
      rw [hm9, List.take_append_of_le_length (Nat.le_refl _), List.take_length]
    · obtain ⟨e1, e2, _⟩ := hH.uniq (f := J.lt) hH1 (Told.all (lt := J.lt) hT) (by rw [hlJ]; exact hT1')
      subst e1 e2
      rw [List.nil_append] at hR9
      have hb := hR9.ask.bd _ hmJ
      exact ⟨es, hR9.ask, S9, by rw [List.take_of_length_le hb], .inr ⟨R2, rfl, hb, hRP2, hRf2, hR9⟩⟩
  clear hMd
  obtain ⟨esJ, hJ9, S9, hesJ, hcase⟩ := hMd'
  have yM : ∀ x, (x ∈ kl :: pq :: D :: (ax ++ pa) ∨ x ∈ R1.base ∨ x ∈ I.own) → x ∉ J.M := fun x hx z => yO x hx (Ask.Mown z)
  have hR9 := hR8.stp S9 fun m hm => ⟨fun z => yM m (.inr (.inl z)) hm, fun z => yM m (.inr (.inr z)) hm⟩
  have hTb9 := tabs_ask hTb8 hJ8 S9
  have hK9 := S9.keep hK8 (yM _ (.inl (by simp)))
  have hPQ9 := S9.keep hPQ8 (yM _ (.inl (by simp)))
  have hpls9 := hpls8.stp S9 fun m hm z => yM m (.inl (by simp [z])) hm
  have hS9 : SqL K H9 a (ns.map V.int) := by
    rcases hSa with z | z
    · exact S9.sql hS8 (yM a (.inl (by simp [z])))
    · exact z H9
  have hy9 : ∀ x, (x ∈ kl :: pq :: D :: (ax ++ pa) ∨ x ∈ R1.base ∨ x ∈ I.own) → H9 x ≠ none := fun x hx z => hy8 x hx (S9.dom x z)
  clear hTb8 hK8 hPQ8 hpls8 hS8 hJ8 hR8
  obtain ⟨fvs, hfr9, hfv9⟩ := hR9.ask.ht
  rw [htlI] at hfr9
  rw [hpre, List.nil_append] at hfv9
  have hfl := isl_len hfv9
  obtain ⟨lvs, hlo9, hlv9⟩ := hJ9.ht
  rw [htlJ] at hlo9
  rw [hpreJ, List.nil_append] at hlv9
  walk_at "ri"
  refine r_J (fun σ' H' => Stp [] H9 H' ∧ σ' = [some (.ref a), some (.ref kl), some (.ref pq), some (.ref D), some (.int most), some (.bl b), some (.ref t1), some (.ref R1.o), some (.ref t2), some (.ref J.s), some v, none, none, none, none, none, none, none, none]) ?_ fun N hN => ?_
  rotate_left
  · have hgo : ∀ (c1 c2 : Prop) [Decidable c1] [Decidable c2], (c1 ↔ c2) → decide c1 = decide c2 := fun c1 c2 _ _ h => by rw [decide_eq_decide]; exact h
    rcases hcase with ⟨rfl, hlt9⟩ | ⟨R2, rfl, hle9, _⟩
    · walk_at "rd"
      refine r_nwF (hgo _ _ ⟨fun _ => by omega, fun _ => rfl⟩) ?_
      walk_at "rd"
      intro q1 hq1
      rw [cutV_up]
      have S10 := (Stp.refl [] H9).new (o := .lst (fvs.take most)) hq1
      refine v_neE (x := esJ) (y := esJ) (is_lst (SqL.of (S10.keep0 hlo9)) (isl_stp S10 hlv9)) (is_lst (SqL.of upd_same) (by rw [hesJ]; exact isl_take (isl_stp S10 hfv9))) ?_
      rw [decide_eq_true rfl]
      refine ⟨_, rfl, ?_⟩
      walk_at "rd"
      exact hN _ _ ⟨S10, rfl⟩
    · walk_at "rd"
      refine r_nwF (hgo _ _ ⟨fun z => by simp at z, fun _ => by omega⟩) ?_
      walk_at "rd"
      intro q1 hq1
      rw [cutV_up]
      have S10 := (Stp.refl [] H9).new (o := .lst (fvs.take most)) hq1
      refine v_neE (x := esJ) (y := esJ) (is_lst (SqL.of (S10.keep0 hlo9)) (isl_stp S10 hlv9)) (is_lst (SqL.of upd_same) (by rw [hesJ]; exact isl_take (isl_stp S10 hfv9))) ?_
      rw [decide_eq_true rfl]
      refine ⟨_, rfl, ?_⟩
      walk_at "rd"
      exact hN _ _ ⟨S10, rfl⟩
  rintro σ' H10 ⟨S10, rfl⟩
  have hR10 := hR9.dT S10
  have hJ10 := hJ9.stp S10 (by simp)
  have hTb10 := tabs_stp hTb9 S10
  have hK10 := S10.keep0 hK9
  have hPQ10 := S10.keep0 hPQ9
  have hpls10 := hpls9.stp S10 (by simp)
  have hS10 := S10.sql0 hS9
  have hfr10 := S10.keep0 hfr9
  have hfv10 := isl_stp S10 hfv9
  have hlo10 := S10.keep0 hlo9
  have hlv10 := isl_stp S10 hlv9
  have hcase10 : (v = .non ∧ most < es1.length) ∨ (∃ R2 : PR, v = .ref R2.o ∧ es1.length ≤ most ∧ R2.P = P ∧ (∀ a, (a ∈ kl :: pq :: D :: (ax ++ pa) ∨ a ∈ R1.base ∨ a ∈ I.own) → a ∉ R2.base) ∧ R2.At b K A (poC A b) J H10 es1 (List.replicate P.length 0) W1) := by
    rcases hcase with h | ⟨R2, h1, h2, h3, h4, h5⟩
    · exact .inl h
    · exact .inr ⟨R2, h1, h2, h3, fun x hx z => hy8 x hx (h4 x z), h5.dT S10⟩
  have hy10 : ∀ x, (x ∈ kl :: pq :: D :: (ax ++ pa) ∨ x ∈ R1.base ∨ x ∈ I.own) → H10 x ≠ none := fun x hx z => hy9 x hx (S10.dom x z)
  clear hcase S10 hR9 hJ9 hTb9 hK9 hPQ9 hpls9 hS9 hfr9 hfv9 hlo9 hlv9 hy9 hy8 S9
  walk_at "ri"
  refine r_J (fun σ' H' => ∃ (R2 : PR) (n : Nat) (log : List Ent), R2.P = P ∧ (∀ a, (a ∈ kl :: pq :: D :: (ax ++ pa) ∨ a ∈ R1.base ∨ a ∈ I.own) → a ∉ R2.base) ∧ R2.At b K A (poC A b) (J.wide n) H' log (List.replicate P.length 0) W1 ∧ (∀ e ∈ log, e.c = decide (getE ks e.a < getE ks e.b)) ∧ log.length ≤ 100 ∧ Stp J.M H10 H' ∧ σ' = [some (.ref a), some (.ref kl), some (.ref pq), some (.ref D), some (.int most), some (.bl b), some (.ref t1), some (.ref R1.o), some (.ref t2), some (.ref J.s), some (.ref R2.o), none, none, none, none, none, none, none, none]) ?_ fun N hN => ?_
  rotate_left
  · rcases hcase10 with ⟨rfl, hlt10⟩ | ⟨R2, rfl, hle10, hRP2, hRf2, hR2⟩
    · have hs10 := hJ10.hs
      unfold AskM at hs10
      walk_at "rd"
      refine r_wT rfl ?_
      walk_at "rd"
      refine ⟨J, esJ, P.length, by rw [hpls10.1]; rfl, hJ10, fun H11 S11 hJ11 => ?_⟩
      have nsM : ∀ m ∈ [J.s], m ∈ J.M := by simp [Ask.M]
      have S11' := S11.mono nsM
      have hPQ11 := S11'.keep hPQ10 (yM _ (.inl (by simp)))
      have hpls11 := hpls10.stp S11' fun m hm z => yM m (.inl (by simp [z])) hm
      walk_at "rd"
      refine made_or (I := J.wide P.length) hJ11 hPQ11 hpls11 ⟨hPJ.1, hPJ.2, hPJ.3⟩ (by omega) (by show esJ.length + J.pre.length + 400 ≤ 100000; rw [hpreJ, List.length_nil, hesJ, List.length_take]; omega) fun H12 v2 hMd => ?_
      have hel : esJ.length = most := by rw [hesJ, List.length_take]; omega
      rcases hMd with ⟨_, es, es', W, z, hH, hne, hT, hm12, _⟩ | ⟨R2, es, W, z, rfl, hRP2, hRf2, hH, hT, S12, hR12⟩
      · exfalso
        obtain ⟨e1, _, _⟩ := hH.uniq (f := J.lt) hH1 (Told.all (lt := J.lt) hT) (by rw [hlJ]; exact hT1')
        have hl : 0 < es'.length := List.length_pos_iff.mpr hne
        rw [wide_some hmJ] at hm12
        have h1 := Option.some.inj hm12
        have h2 := congrArg List.length e1
        rw [List.length_append] at h2
        omega
      obtain ⟨e1, e2, _⟩ := hH.uniq (f := J.lt) hH1 (Told.all (lt := J.lt) hT) (by rw [hlJ]; exact hT1')
      subst e1 e2
      have S012 : Stp J.M H10 H12 := S11'.trans S12
      have hfr12 := S012.keep hfr10 (yM t1 (.inr (.inr (by rw [← htlI]; simp [Ask.own]))))
      have hfv12 := isl_stpM S012 hfv10
      obtain ⟨lvs12, hlo12, hlv12⟩ := hR12.ask.ht
      rw [show (J.wide P.length).tl = t2 from htlJ] at hlo12
      rw [show (J.wide P.length).pre = [] from hpreJ, List.nil_append] at hlv12
      walk_at "rd"
      refine r_wF (by simp) ?_
      walk_at "rd"
      intro q1 hq1
      rw [cutV_fr]
      have S13 := (Stp.refl [] H12).new (o := .lst (lvs12.drop most)) hq1
      walk_at "rd"
      refine v_neE (x := es) (y := es) (is_lst (SqL.of upd_same) (by
        have := isl_drop (n := most) (isl_stp S13 hlv12)
        rw [← hel, List.drop_append_of_le_length (Nat.le_refl _), List.drop_length, List.nil_append] at this
        rw [← hel]
        exact this)) (is_lst (SqL.of (S13.keep0 hfr12)) (isl_stp S13 hfv12)) ?_
      rw [decide_eq_true rfl]
      refine ⟨_, rfl, ?_⟩
      walk_at "rd"
      exact hN _ _ ⟨R2, P.length, esJ ++ es, hRP2, fun x hx z => hy10 x hx (S11'.dom x (hRf2 x z)), hR12.dT S13, fun e he => (List.mem_append.mp he).elim (fun h => hT1' e (by rw [hesJ] at h; exact List.mem_of_mem_take h)) (hT1' e), by rw [List.length_append]; omega, S012.trans (S13.mono (by simp)), rfl⟩
    · walk_at "rd"
      refine r_wF (by simp) ?_
      walk_at "rd"
      exact hN _ _ ⟨R2, 0, es1, hRP2, hRf2, by rw [wide_zero]; exact hR2, hT1', by omega, .refl _ _, rfl⟩
  rintro σ' H11 ⟨R2, n, log, hRP2, xB2, hR2, hTl, hll, S11, rfl⟩
  have hR11 := hR10.stp S11 fun m hm => ⟨fun z => yM m (.inr (.inl z)) hm, fun z => yM m (.inr (.inr z)) hm⟩
  have hTb11 := tabs_ask hTb10 hJ10 S11
  have hK11 := S11.keep hK10 (yM _ (.inl (by simp)))
  have hPQ11 := S11.keep hPQ10 (yM _ (.inl (by simp)))
  have hpls11 := hpls10.stp S11 fun m hm z => yM m (.inl (by simp [z])) hm
  have hS11 : SqL K H11 a (ns.map V.int) := by
    rcases hSa with z | z
    · exact S11.sql hS10 (yM a (.inl (by simp [z])))
    · exact z H11
  have hy11 : ∀ x, (x ∈ kl :: pq :: D :: (ax ++ pa) ∨ x ∈ R1.base ∨ x ∈ I.own) → H11 x ≠ none := fun x hx z => hy10 x hx (S11.dom x z)
  clear hR10 hJ10 hTb10 hK10 hPQ10 hpls10 hS10 hfr10 hfv10 hlo10 hlv10 hy10 hcase10 S11 hesJ
  walk_at "rd"
  refine ⟨a, ns, 1, rfl, hS11, fun c3 => ?_⟩
  walk_at "rd"
  obtain ⟨more, hmore⟩ : ∃ m : Nat, ((m : Nat) : Int) = (Builtin.Int.intBits (pa.length : Int) : Int) + c3 / 120 % 4 := ⟨((Builtin.Int.intBits (pa.length : Int) : Int) + c3 / 120 % 4).toNat, by omega⟩
  rw [← hmore]
  have hmo2 : Builtin.Int.intBits (pa.length : Int) ≤ more := by omega
  clear hmore
  intro o0 ho0
  walk_at "rd"
  have hflP : P.flatten.length ≤ 120 := by rw [List.length_flatten]; omega
  have hfl : ∀ j, ((P.take j).flatten).length ≤ 120 := fun j => by
    have h1 := congrArg (fun L => (List.flatten L).length) (List.take_append_drop j P)
    simp only [List.flatten_append, List.length_append] at h1
    omega
  refine for_it (walk_list (xs := pa.map V.ref)) (fun j σ H' => ∃ (oq : Addr) (ts : List V) (v4 : Option V), Stp [] H11 H' ∧ H' oq = some (.lst ts) ∧ TupL H' ks ts ((P.take j).flatten) ∧ σ = [some (.ref a), some (.ref kl), some (.ref pq), some (.ref D), some (.int most), some (.bl b), some (.ref t1), some (.ref R1.o), some (.ref t2), some (.ref J.s), some (.ref R2.o), some (.int more), some (.ref oq), v4, none, none, none, none, none])
    ⟨o0, [], _, (Stp.refl _ _).new ho0, upd_same, TupL.nil, rfl⟩ (fun j σ H' _ z => by obtain ⟨_, _, _, S, _⟩ := z; exact S.sql0 (SqL.of hPQ11)) ?_ ?_
  · rintro j x σ H3 H4 hj ⟨oq, ts, v4, S, hoq, htl, rfl⟩ ⟨rfl, hx⟩
    obtain ⟨c, hc, rfl⟩ := map_at hx
    obtain ⟨ps, hps, hcp⟩ := hpls11.2 j c hc
    have hc3 := S.keep0 hcp
    have hK3 := S.keep0 hK11
    have hpl1 : ps.length ≤ 120 := by
      have := (List.sublist_flatten_of_mem (List.mem_of_getElem? hps)).length_le
      omega
    have htsl := htl.1
    have hfj := hfl j
    walk_at "rd"
    intro q hq
    refine lc_it (walk_list (xs := nv ps)) (fun i H' => Stp [] H4 H' ∧ ∃ us, H' q = some (.lst us) ∧ TupL H' ks us (ps.take i)) ⟨(Stp.refl _ _).new hq, [], upd_same, TupL.nil⟩ (fun i H' _ z => z.1.sql0 (SqL.of hc3)) ?_ ?_
    · rintro i x H5 H6 hi ⟨S5, us, hL, hul⟩ ⟨rfl, hx⟩
      obtain ⟨p, hp, rfl⟩ := map_at hx
      have hpk : p < ks.length := hDl.lt ps (List.mem_of_getElem? hps) p (List.mem_of_getElem? hp)
      have hK5 := S5.keep0 hK3
      have hul1 := hul.1
      walk_at "rd"
      refine v_ixE (n := p) (SqL.of hK5) rfl hpk ?_
      walk_at "rd"
      intro t ht
      have htq : t ≠ q := (ne_of_none hL ht).symm
      refine ⟨_, upd_old hL ht, Nat.lt_of_le_of_lt (m := 1000) (by rw [hul1, List.length_take]; omega) (by decide), (S5.new ht).putN hq, us ++ [.ref t], upd_same, ?_⟩
      rw [List.take_succ, hp]
      have S7 := ((Stp.refl [q] _).new (o := .tup [.int (getE ks p), .int (p : Nat)]) ht).putL (o := .lst (us ++ [.ref t])) (by simp) (upd_old hL ht)
      exact (hul.stp S7).app (TupL.one (by rw [upd_ne htq, upd_same]))
    rintro H5 ⟨S5, us, hL, hul⟩
    rw [List.length_map, List.take_length] at hul
    have hul1 := hul.1
    have hoq5 := S5.keep0 hoq
    walk_at "rd"
    refine v_addL hoq5 hL (Nat.le_trans (m := 2000) (by omega) (by decide)) fun nq hnq => ?_
    walk_at "rd"
    refine ⟨nq, ts ++ us, _, (S.trans S5).new hnq, upd_same, ?_, rfl⟩
    rw [List.take_succ, hps, List.flatten_append]
    have S6 := (Stp.refl [] H5).new (o := .lst (ts ++ us)) hnq
    have e : ([ps] : List (List Nat)).flatten = ps := by simp
    show TupL _ ks (ts ++ us) ((P.take j).flatten ++ [ps].flatten)
    rw [e]
    exact ((htl.stp S5).stp S6).app (hul.stp S6)
  rintro σ H12 ⟨oq, ts, v4, S12, hoq, htl, rfl⟩
  rw [List.take_of_length_le (by rw [List.length_map, hpls11.1]; omega)] at htl
  walk_at "rd"
  refine ⟨oq, ts, kOf H12, rfl, SqL.of hoq, fun x hx => ?_, fun zs zl hsrt hstb hzl => ?_⟩
  · obtain ⟨i, hi⟩ := List.mem_iff_getElem?.mp hx
    obtain ⟨t, p, h1, _, h2⟩ := htl.2 i x hi
    exact ⟨t, h1, by rw [h1, kOf_at h2]; exact h2⟩
  have hzs : ∀ x ∈ zs, ∃ (t : Addr) (p : Nat), x = .ref t ∧ H12 t = some (.tup [.int (getE ks p), .int (p : Nat)]) := fun x hx => by
    obtain ⟨i, hi⟩ := List.mem_iff_getElem?.mp (hstb.perm.mem_iff.mp hx)
    obtain ⟨t, p, h1, _, h2⟩ := htl.2 i x hi
    exact ⟨t, p, h1, h2⟩
  have hord : ∀ (i o : Nat), (zs.map fun x => (kOf H12 x).2.toNat)[i]? = some o → ∃ t, zs[i]? = some (.ref t) ∧ H12 t = some (.tup [.int (getE ks o), .int (o : Nat)]) := fun i o e => by
    rw [List.getElem?_map] at e
    cases hz : zs[i]? with
    | none => rw [hz] at e; cases e
    | some x =>
      obtain ⟨t, p, rfl, h2⟩ := hzs x (List.mem_of_getElem? hz)
      rw [hz, Option.map_some, kOf_at h2] at e
      have e : p = o := by simpa using e
      subst e
      exact ⟨t, rfl, h2⟩
  obtain ⟨ord, hoe⟩ : ∃ l, l = zs.map fun x => (kOf H12 x).2.toNat := ⟨_, rfl⟩
  rw [← hoe] at hord
  have hol : ord.length = zs.length := by rw [hoe, List.length_map]
  obtain ⟨hop, how⟩ := sorted_ordL htl hDl.nd hsrt hstb.perm hol hord
  have hol2 := hop.length_eq
  rw [List.length_flatten] at hol2
  clear hoe hzs hsrt hstb
  have S13 : Stp [] H11 (upd H12 zl (.lst zs)) := S12.new hzl
  walk_at "ri"
  refine r_J (fun σ' H' => Stp [] H11 H' ∧ H' zl = some (.lst (if b = true then zs.reverse else zs)) ∧ (∀ (t : Addr) (xs : List V), H12 t = some (.tup xs) → H' t = some (.tup xs)) ∧ σ' = [some (.ref a), some (.ref kl), some (.ref pq), some (.ref D), some (.int most), some (.bl b), some (.ref t1), some (.ref R1.o), some (.ref t2), some (.ref J.s), some (.ref R2.o), some (.int more), some (.ref zl), v4, none, none, none, none, none]) ?_ fun N hN => ?_
  rotate_left
  · have hzl13 := upd_same (H := H12) (a := zl) (o := .lst zs)
    cases b with
    | false =>
      walk_at "rd"
      exact hN _ _ ⟨S13, hzl13, fun t xs h => upd_old h hzl, rfl⟩
    | true =>
      walk_at "rd"
      refine v_rev hzl13 ?_
      have Sz : Stp [] H12 (upd (upd H12 zl (.lst zs)) zl (.lst zs.reverse)) := ((Stp.refl [] H12).new hzl).putN hzl
      exact hN _ _ ⟨S13.putN (S12.dom _ hzl), upd_same, fun t xs h => Sz.tup h, rfl⟩
  rintro σ' H14 ⟨S14, hzl14, htup, rfl⟩
  have hR14 := hR11.dT S14
  have hQ14 := hR2.dT S14
  have hzB1 : zl ∉ R1.base := fun z => hR11.base z (S12.dom _ hzl)
  have hzB2 : zl ∉ R2.base := fun z => hR2.base z (S12.dom _ hzl)
  have hzO1 : zl ∉ I.own := hR11.ask.freshO (S12.dom _ hzl)
  have hzO2 : zl ∉ J.own := fun z => hR2.ask.freshO (S12.dom _ hzl) z
  have hor : ∀ (i o : Nat), (fullB b ord)[i]? = some o → ∃ t, (if b = true then zs.reverse else zs)[i]? = some (.ref t) ∧ H14 t = some (.tup [.int (getE ks o), .int (o : Nat)]) := fun i o e => by
    unfold fullB at e
    cases b with
    | false =>
      obtain ⟨t, h1, h2⟩ := hord i o e
      exact ⟨t, h1, htup _ _ h2⟩
    | true =>
      rw [if_pos rfl] at e ⊢
      have hi : i < ord.reverse.length := (List.getElem?_eq_some_iff.mp e).1
      rw [List.length_reverse] at hi
      rw [List.getElem?_reverse hi] at e
      obtain ⟨t, h1, h2⟩ := hord _ o e
      exact ⟨t, by rw [List.getElem?_reverse (by omega), ← hol]; exact h1, htup _ _ h2⟩
  have hzbl : (if b = true then zs.reverse else zs).length = ord.length := by split <;> simp [hol]
  generalize (if b = true then zs.reverse else zs) = zb at hzl14 hor hzbl ⊢
  have hpal := hpls11.1
  clear hord S14 S13 S12 hzl htl hoq htup hR11 hR2 hTb11 hK11 hPQ11 hpls11 hS11
  subst hRP htlI htlJ
  have hlf1 : ∀ g : List Nat, R1.left g = ord.length - g.sum := fun g => by unfold PR.left; omega
  have hlf2 : ∀ g : List Nat, R2.left g = ord.length - g.sum := fun g => by unfold PR.left; rw [hRP2]; omega
  have hM1 : ∀ m ∈ R1.M I, m ∉ R2.base ∧ m ∉ J.own := fun m hm => by
    have : m ∈ R1.base ∨ m ∈ I.own := by
      simp only [PR.M, List.mem_cons] at hm
      rcases hm with hm | hm | hm
      · exact .inl (by rw [hm]; simp [PR.base])
      · exact .inl (by rw [hm]; simp [PR.base])
      · exact .inr (Ask.Mown hm)
    exact ⟨xB2 m (.inr this), yO m (.inr this)⟩
  have hM2 : ∀ m ∈ R2.M J, m ∉ R1.base ∧ m ∉ I.own := fun m hm => by
    have : m ∈ R2.base ∨ m ∈ J.own := by
      simp only [PR.M, List.mem_cons] at hm
      rcases hm with hm | hm | hm
      · exact .inl (by rw [hm]; simp [PR.base])
      · exact .inl (by rw [hm]; simp [PR.base])
      · exact .inr (Ask.Mown hm)
    constructor
    · intro z
      rcases this with h | h
      · exact xB2 m (.inr (.inl z)) h
      · exact yO m (.inr (.inl z)) h
    · intro z
      rcases this with h | h
      · exact xB2 m (.inr (.inr z)) h
      · exact yO m (.inr (.inr z)) h
  have hzM1 : zl ∉ R1.M I := fun hm => by
    simp only [PR.M, List.mem_cons] at hm
    rcases hm with hm | hm | hm
    · exact hzB1 (by rw [hm]; simp [PR.base])
    · exact hzB1 (by rw [hm]; simp [PR.base])
    · exact hzO1 (Ask.Mown hm)
  have hzM2 : zl ∉ R2.M J := fun hm => by
    simp only [PR.M, List.mem_cons] at hm
    rcases hm with hm | hm | hm
    · exact hzB2 (by rw [hm]; simp [PR.base])
    · exact hzB2 (by rw [hm]; simp [PR.base])
    · exact hzO2 (Ask.Mown hm)
  walk_at "rd"
  refine po_left rfl hQ14 fun H15 S15 => ?_
  have hR15 := hR14.dT S15
  have hQ15 := hQ14.dT S15
  have hzl15 := S15.keep0 hzl14
  walk_at "rd"
  refine ⟨_, rfl, ?_⟩
  walk_at "rd"
  refine po_left rfl hQ15 fun H16 S16 => ?_
  have hR16 := hR15.dT S16
  have hQ16 := hQ15.dT S16
  have hzl16 := S16.keep0 hzl15
  have hor16 : ∀ (i o : Nat), (fullB b ord)[i]? = some o → ∃ t, zb[i]? = some (.ref t) ∧ H16 t = some (.tup [.int (getE ks o), .int (o : Nat)]) := fun i o e => by
    obtain ⟨t, h1, h2⟩ := hor i o e
    exact ⟨t, h1, S16.keep0 (S15.keep0 h2)⟩
  clear S15 S16 hR14 hR15 hQ14 hQ15 hzl14 hzl15 hor
  walk_at "rd"
  refine r_nwF (by rw [hlf2, rep_sum, hzbl]; rfl) ?_
  walk_at "rd"
  refine for_it (walk_list (xs := zb)) (fun j σ H' => ∃ (g : List Nat) (W : Wt) (n : Nat) (log1 log2 : List Ent) (od : List Nat) (v13 v14 v15 : Option V), R1.At b K A (poC A b) I H' log1 g W ∧ R2.At b K A (poC A b) (J.wide n) H' log2 g W ∧ Tkn b ks R1.P g od ∧ od.length = j ∧ g.sum = j ∧ (∀ e ∈ log1, e.c = decide (getE ks e.a < getE ks e.b)) ∧ log1.length ≤ 100 + 50 * j ∧ log2.length ≤ 100 + 100 * j ∧ Stp (R1.M I ++ R2.M J) H16 H' ∧
      σ = [some (.ref a), some (.ref kl), some (.ref pq), some (.ref D), some (.int most), some (.bl b), some (.ref I.tl), some (.ref R1.o), some (.ref J.tl), some (.ref J.s), some (.ref R2.o), some (.int more), some (.ref zl), v13, v14, v15, none, none, none])
    ⟨_, _, n, _, _, [], _, _, _, hR16, hQ16, .zero, rfl, rep_sum _, hT1', by omega, by omega, .refl _ _, rfl⟩ (fun j σ H' _ z => ?_) ?_ ?_
  · obtain ⟨_, _, _, _, _, _, _, _, _, _, _, _, _, _, _, _, _, S, _⟩ := z
    exact S.sql (SqL.of hzl16) (fun z => (List.mem_append.mp z).elim hzM1 hzM2)
  · rintro j x σ H17 H18 hj ⟨g, W, n, log1, log2, od, v13, v14, v15, hR17, hQ17, hTk, hod, hgs, hTe, hl1, hl2, S17, rfl⟩ ⟨rfl, hx⟩
    rw [hzbl] at hj
    obtain ⟨z, htre⟩ := hR17.tre
    have hzz := htre.left0 hR17.st.gl hR17.gle
    have hrs := rems_sum (b := b) hR17.st.gl hR17.gle
    obtain ⟨y, rfl⟩ : ∃ y, z = some y := by
      cases z with
      | none => have := hzz.mp rfl; omega
      | some x => exact ⟨x, rfl⟩
    obtain ⟨hxn, t, ht, hta, htb⟩ := htre.fore (ks := ks) hTe hR17.pcs.dis hDl.pw
    have hpos := hTk.at hDl.nd hop how hxn ht hta htb
    rw [hod] at hpos
    obtain ⟨tp, htp1, htp2⟩ := hor16 _ _ hpos
    rw [htp1] at hx
    cases hx
    have htp17 := S17.tup htp2
    obtain ⟨fvs, hfr17, hfv17⟩ := hR17.ask.ht
    rw [hpre, List.nil_append] at hfv17
    have hfl17 := isl_len hfv17
    walk_at "rd"
    refine po_take rfl hR17 htre.at (by rw [hpre, List.length_nil]; omega) (fun _ _ => hm) (fun e => by cases e) fun y' ey hyn hyg H19 es W' z' hTk2 hT2 S19 hR19 => ?_
    cases ey
    have hT2' : ∀ e ∈ es, e.c = decide (getE ks e.a < getE ks e.b) := Told.all (by rw [hlt] at hT2; exact hT2)
    have hQ19 := hQ17.stp S19 fun m hm => hM1 m hm
    have htp19 := S19.tup htp17
    have hTk3 := hTk.take hR17.st.gl hxn ht hta htb
    have hfw := hTk2.few
    have hgx : y.2 < g.length := by rw [hR17.st.gl]; exact hxn
    have hss := sum_set hgx
    obtain ⟨fvs19, hfr19, hfv19⟩ := hR19.ask.ht
    rw [hpre, List.nil_append] at hfv19
    walk_at "rd"
    refine v_ixTn (n := 1) (SqT.of htp19) rfl rfl ?_
    refine v_neI ?_
    refine ⟨_, rfl, ?_⟩
    refine r_nwF rfl ?_
    walk_at "rd"
    refine v_ixTn (n := 1) (SqT.of htp19) rfl rfl ?_
    walk_at "rd"
    intro aq haq
    rw [cutV_fr]
    have S20 := (Stp.refl [] H19).new (o := .lst (fvs19.drop fvs.length)) haq
    have haq20 := upd_same (H := H19) (a := aq) (o := .lst (fvs19.drop fvs.length))
    have hav20 : IsL K (upd H19 aq (.lst (fvs19.drop fvs.length))) (fvs19.drop fvs.length) es := by
      have := isl_drop (n := fvs.length) (isl_stp S20 hfv19)
      rw [hfl17, List.drop_append_of_le_length (Nat.le_refl _), List.drop_length, List.nil_append] at this
      rw [hfl17]
      exact this
    have hR20 := hR19.dT S20
    have hQ20 := hQ19.dT S20
    have naB : aq ∉ R2.base := fun z => hQ19.base z haq
    have naJ : aq ∉ J.M := fun z => hQ19.ask.freshO haq (Ask.Mown z)
    generalize upd H19 aq (.lst (fvs19.drop fvs.length)) = H20 at S20 haq20 hav20 hR20 hQ20 ⊢
    walk_at "rd"
    refine ⟨b, R2, J.wide n, log2, g, W, y, aq, fvs19.drop fvs.length, es, W', z', more, rfl, ⟨hQ20, by rw [hRP2]; exact htre.at, hpreJ, by omega, ⟨haq20, hav20, naJ, naB⟩, ⟨by rw [hRP2]; exact hTk2, fun e he => by rw [show (J.wide n).lt = J.lt from rfl, hlJ]; exact hT2' e he⟩, ?_, by omega, by rw [hlf2, hlf2, hss, hgs]; omega⟩, fun H21 n' log2' hl2' hll2 S21 hQ21 => ?_⟩
    · have h1 := hTk2.in
      by_cases e : R1.P.length = 1
      · omega
      · refine hTk2.deep more ?_
        have h2 := bits_lt (n := ((pa.length : Nat) : Int)) (by omega)
        have h3 : (2 : Nat) ^ Builtin.Int.intBits (pa.length : Int) ≤ 2 ^ more := Nat.pow_le_pow_right (by omega) hmo2
        have h4 : ((2 : Int) ^ Builtin.Int.intBits (pa.length : Int)) = ((2 ^ Builtin.Int.intBits (pa.length : Int) : Nat) : Int) := by simp
        omega
    have htp21 := S21.tup (S20.tup htp19)
    have hR21 := hR20.stp S21 fun m hm => hM2 m hm
    rw [wide_wide] at hQ21
    refine ⟨_, rfl, ?_⟩
    walk_at "rd"
    refine ⟨_, W', n + n', log1 ++ es, log2', od ++ [y.1], _, _, _, hR21, hQ21, hTk3, by simp [hod], by rw [hss, hgs], fun e he => (List.mem_append.mp he).elim (hTe e) (hT2' e), by rw [List.length_append]; omega, by omega, S17.trans ((S19.mono fun b hb => List.mem_append_left _ hb).trans ((S20.mono (by simp)).trans (S21.mono fun b hb => List.mem_append_right _ hb))), rfl⟩
  · rintro σ H17 ⟨g, W, n, log1, log2, od, v13, v14, v15, hR17, hQ17, hTk, hod, hgs, hTe, hl1, hl2, S17, rfl⟩
    rw [hzbl] at hod hgs hl1 hl2
    obtain ⟨z, htre⟩ := hR17.tre
    have hzz := htre.left0 hR17.st.gl hR17.gle
    have hrs := rems_sum (b := b) hR17.st.gl hR17.gle
    have hz0 : z = none := hzz.mpr (by omega)
    subst hz0
    walk_at "rd"
    refine po_take rfl hQ17 (by rw [hRP2]; exact htre.at) (by rw [show (J.wide n).pre = [] from hpreJ, List.length_nil]; omega) (fun _ e => by cases e) (fun _ H18 S18 => ?_) fun y' ey _ _ => by cases ey
    have hQ18 := hQ17.dT S18
    walk_at "rd"
    refine po_left rfl hQ18 fun H19 S19 => ?_
    have hQ19 := hQ18.dT S19
    have hs19 := hQ19.ask.hs
    unfold AskM at hs19
    obtain ⟨tvs, htl19, htv19⟩ := hQ19.ask.ht
    rw [show (J.wide n).pre = [] from hpreJ, List.nil_append] at htv19
    have htvl := isl_len htv19
    have htl19 : H19 J.tl = some (.lst tvs) := htl19
    have hs19 : H19 J.s = _ := hs19
    walk_at "rd"
    rw [decide_eq_true (by rw [hlf2, hgs]; omega)]
    walk_at "rd"
    rw [decide_eq_true (by rw [htvl])]
    exact k _
theorem all_mk {l : PySem.W.OpenLaw} {w : World} {K : PySem.W.Frag} {h : Heap} {mg : Str → Option Value} {fa : Addr} (X : K.In h) (G : h.Ns mainGlobals mg) (hfa : mg "law" = some (.ref fa))
    {f1 f2 f3 f4 f5 f6 f7 f8 f9 f10 f11 f12 f13 f14 f15 f16 f17 f18 f19 f20 f21 f22 f23 f24 f25 f26 f27 f28 f29 f30 f31 f32 f33 f34 f35 f36 f37 f38 f39 f40 c_Pour c_LastPour c_HallError c_NoPlace c_TooFar c_Spent c_Asker c_Rule c_AskedRule : Addr} {od1 an1 od2 an2 od3 an3 od4 an4 od5 an5 od6 an6 od7 an7 od8 an8 od9 an9 od10 an10 od11 an11 od12 an12 od13 an13 od14 an14 od15 an15 od16 an16 od17 an17 od18 an18 od19 an19 od20 an20 od21 an21 od22 an22 od23 an23 od24 an24 od25 an25 od26 an26 od27 an27 od28 an28 od29 an29 od30 an30 od31 an31 od32 an32 od33 an33 od34 an34 od35 an35 od36 an36 od37 an37 od38 an38 od39 an39 od40 an40 : Option Addr} {sl1 sl2 sl3 sl4 sl5 sl6 sl7 sl8 sl9 sl10 sl11 sl12 sl13 sl14 sl15 sl16 sl17 sl18 sl19 sl20 sl21 sl22 sl23 sl24 sl25 sl26 sl27 sl28 sl29 sl30 sl31 sl32 sl33 sl34 sl35 sl36 sl37 sl38 sl39 sl40 : Array (Option Value)} {oc1 kV1 dc1 pm1 ct1 oc2 kV2 dc2 pm2 cd2 ct2 oc3 kV3 dc3 pm3 cd3 ct3 oc4 kV4 dc4 pm4 cd4 ct4 oc5 kV5 dc5 pm5 cd5 ct5 oc6 kV6 dc6 pm6 cd6 ct6 oc7 kV7 dc7 pm7 cd7 ct7 oc8 kV8 dc8 pm8 cd8 ct8 oc9 kV9 dc9 pm9 cd9 ct9 oc10 kV10 dc10 pm10 cd10 ct10 oc11 kV11 dc11 pm11 cd11 ct11 oc12 kV12 dc12 pm12 cd12 ct12 oc13 kV13 dc13 pm13 cd13 ct13 oc14 kV14 dc14 pm14 cd14 ct14 oc15 kV15 dc15 pm15 cd15 ct15 oc16 kV16 dc16 pm16 cd16 ct16 oc17 kV17 dc17 pm17 cd17 ct17 oc18 kV18 dc18 pm18 cd18 ct18 oc19 kV19 dc19 pm19 cd19 ct19 oc20 kV20 dc20 pm20 cd20 ct20 oc21 kV21 dc21 pm21 cd21 ct21 oc22 kV22 dc22 pm22 cd22 ct22 oc23 kV23 dc23 pm23 cd23 ct23 oc24 kV24 dc24 pm24 cd24 ct24 oc25 kV25 dc25 pm25 cd25 ct25 oc26 kV26 dc26 pm26 cd26 ct26 oc27 kV27 dc27 pm27 cd27 ct27 oc28 kV28 dc28 pm28 cd28 ct28 oc29 kV29 dc29 pm29 cd29 ct29 oc30 kV30 dc30 pm30 cd30 ct30 oc31 kV31 dc31 pm31 cd31 ct31 oc32 kV32 dc32 pm32 cd32 ct32 oc33 kV33 dc33 pm33 cd33 ct33 oc34 kV34 dc34 pm34 cd34 ct34 oc35 kV35 dc35 pm35 cd35 ct35 oc36 kV36 dc36 pm36 cd36 ct36 oc37 kV37 dc37 pm37 cd37 ct37 oc38 kV38 dc38 pm38 cd38 ct38 oc39 kV39 dc39 pm39 cd39 ct39 oc40 kV40 dc40 pm40 cd40 ct40 : Value} {nm_Spent q_Spent : Str} {N_Spent : Addr} {bs_Spent : List Value} {sn_Spent : List Str} {su_Spent : List Value} {ab_Spent : Bool} {co_Spent : Option Bool} {dd_Spent : Option Addr} {m0_Spent m1_Spent m2_Spent m3_Spent m5_Spent : Option Value} {cc1 : Addr} {oK1 : Value} {uK1 : Option Addr} {vs1 : Array Value} {sK1 : Array (Option Value)} {P1 : Addr} {dT8 : Addr} {oT8 : Value} {oU8 : Option Addr} {tsl8 : Array (Option Value)} {nT8 : Nat}
    (aC_Pour : PySem.W.nsIn K mainGlobals "Pour" = some (some (.ref c_Pour)))
    (pg_Pour : PySem.W.plainGet K c_Pour Str.empty = true)
    (hd_Pour : PySem.W.hasDictIn K c_Pour = true)
    (po_Pour : PySem.W.plainOver K c_Pour = true)
    (sa_Pour : PySem.W.findIn K (.ref c_Pour) "__setattr__" = some (some (.builtin "object.__setattr__")))
    (mk_Pour : PySem.W.makesIn K c_Pour = true)
    (kc_Pour : PySem.W.keepIn K (.ref c_Pour) = true)
    (na_Pour_asker : PySem.W.findIn K (.ref c_Pour) "asker" = some none)
    (na_Pour_pieces : PySem.W.findIn K (.ref c_Pour) "pieces" = some none)
    (na_Pour_gone : PySem.W.findIn K (.ref c_Pour) "gone" = some none)
    (na_Pour_went_on : PySem.W.findIn K (.ref c_Pour) "went_on" = some none)
    (aC_LastPour : PySem.W.nsIn K mainGlobals "LastPour" = some (some (.ref c_LastPour)))
    (pg_LastPour : PySem.W.plainGet K c_LastPour Str.empty = true)
    (hd_LastPour : PySem.W.hasDictIn K c_LastPour = true)
    (po_LastPour : PySem.W.plainOver K c_LastPour = true)
    (sa_LastPour : PySem.W.findIn K (.ref c_LastPour) "__setattr__" = some (some (.builtin "object.__setattr__")))
    (mk_LastPour : PySem.W.makesIn K c_LastPour = true)
    (kc_LastPour : PySem.W.keepIn K (.ref c_LastPour) = true)
    (na_LastPour_pieces : PySem.W.findIn K (.ref c_LastPour) "pieces" = some none)
    (na_LastPour_asker : PySem.W.findIn K (.ref c_LastPour) "asker" = some none)
    (na_LastPour_gone : PySem.W.findIn K (.ref c_LastPour) "gone" = some none)
    (na_LastPour_went_on : PySem.W.findIn K (.ref c_LastPour) "went_on" = some none)
    (aC_HallError : PySem.W.nsIn K mainGlobals "HallError" = some (some (.ref c_HallError)))
    (xn_HallError : PySem.W.excIn K c_HallError [.type "ValueError", .type "Exception", .type "BaseException", .type "object"] "ValueError.__new__" = true)
    (kp_HallError : PySem.W.keepIn K (.ref c_HallError) = true)
    (sb_HallError : PySem.W.subIn K (.ref c_HallError) (.type "BaseException") = some true)
    (ty_HallError : PySem.W.typeIn K (.ref c_HallError) = some (.type "type"))
    (e0_HallError : PySem.W.findIn K (.ref c_HallError) "__getattribute__" = some (some (.builtin "BaseException.__getattribute__")))
    (e1_HallError : PySem.W.findIn K (.ref c_HallError) "__getattr__" = some none)
    (e2_HallError : PySem.W.subIn K (.ref c_HallError) (.type "BaseException") = some true)
    (e3_HallError : PySem.W.hasDictIn K c_HallError = true)
    (e4_HallError : PySem.W.findIn K (.ref c_HallError) "__class__" = some (some (.builtin "object.__class__")))
    (e5_HallError : PySem.W.specialIn K (.builtin "object.__class__") "__get__" = some (some (.builtin "getset_descriptor.__get__")))
    (e6_HallError : PySem.W.takesIn K (.builtin "object.__class__") = some true)
    (e7_HallError : PySem.W.mroIn K c_HallError (.type "object") = some true)
    (aC_NoPlace : PySem.W.nsIn K mainGlobals "NoPlace" = some (some (.ref c_NoPlace)))
    (aC_TooFar : PySem.W.nsIn K mainGlobals "TooFar" = some (some (.ref c_TooFar)))
    (aC_Spent : PySem.W.nsIn K mainGlobals "Spent" = some (some (.ref c_Spent)))
    (xL_Spent : K.lookup c_Spent = some (excClassObj nm_Spent q_Spent c_Spent N_Spent bs_Spent [.ref c_HallError, .type "ValueError", .type "Exception", .type "BaseException", .type "object"] true sn_Spent su_Spent ab_Spent co_Spent dd_Spent m0_Spent m1_Spent m2_Spent m3_Spent m5_Spent "ValueError.__new__"))
    (sa_Spent : PySem.W.findIn K (.ref c_Spent) "__setattr__" = some (some (.builtin "object.__setattr__")))
    (in_Spent : PySem.W.findIn K (.ref c_Spent) "__init__" = some (some (.ref f2)))
    (tI_Spent : PySem.W.typeIn K (.ref f2) = some (.type "function"))
    (na_Spent_asked : PySem.W.findIn K (.ref c_Spent) "asked" = some none)
    (kp_Spent : PySem.W.keepIn K (.ref c_Spent) = true)
    (sb_Spent : PySem.W.subIn K (.ref c_Spent) (.type "BaseException") = some true)
    (ty_Spent : PySem.W.typeIn K (.ref c_Spent) = some (.type "type"))
    (e0_Spent : PySem.W.findIn K (.ref c_Spent) "__getattribute__" = some (some (.builtin "BaseException.__getattribute__")))
    (e1_Spent : PySem.W.findIn K (.ref c_Spent) "__getattr__" = some none)
    (e2_Spent : PySem.W.subIn K (.ref c_Spent) (.type "BaseException") = some true)
    (e3_Spent : PySem.W.hasDictIn K c_Spent = true)
    (e4_Spent : PySem.W.findIn K (.ref c_Spent) "__class__" = some (some (.builtin "object.__class__")))
    (e5_Spent : PySem.W.specialIn K (.builtin "object.__class__") "__get__" = some (some (.builtin "getset_descriptor.__get__")))
    (e6_Spent : PySem.W.takesIn K (.builtin "object.__class__") = some true)
    (e7_Spent : PySem.W.mroIn K c_Spent (.type "object") = some true)
    (aC_Asker : PySem.W.nsIn K mainGlobals "Asker" = some (some (.ref c_Asker)))
    (pg_Asker : PySem.W.plainGet K c_Asker Str.empty = true)
    (hd_Asker : PySem.W.hasDictIn K c_Asker = true)
    (po_Asker : PySem.W.plainOver K c_Asker = true)
    (sa_Asker : PySem.W.findIn K (.ref c_Asker) "__setattr__" = some (some (.builtin "object.__setattr__")))
    (mk_Asker : PySem.W.makesIn K c_Asker = true)
    (kc_Asker : PySem.W.keepIn K (.ref c_Asker) = true)
    (na_Asker_row : PySem.W.findIn K (.ref c_Asker) "row" = some none)
    (na_Asker_rule : PySem.W.findIn K (.ref c_Asker) "rule" = some none)
    (na_Asker_most : PySem.W.findIn K (.ref c_Asker) "most" = some none)
    (na_Asker_asked : PySem.W.findIn K (.ref c_Asker) "asked" = some none)
    (na_Asker_log : PySem.W.findIn K (.ref c_Asker) "log" = some none)
    (aC_Rule : PySem.W.nsIn K mainGlobals "Rule" = some (some (.ref c_Rule)))
    (pg_Rule : PySem.W.plainGet K c_Rule Str.empty = true)
    (hd_Rule : PySem.W.hasDictIn K c_Rule = true)
    (po_Rule : PySem.W.plainOver K c_Rule = true)
    (sa_Rule : PySem.W.findIn K (.ref c_Rule) "__setattr__" = some (some (.builtin "object.__setattr__")))
    (mk_Rule : PySem.W.makesIn K c_Rule = true)
    (kc_Rule : PySem.W.keepIn K (.ref c_Rule) = true)
    (aC_AskedRule : PySem.W.nsIn K mainGlobals "AskedRule" = some (some (.ref c_AskedRule)))
    (pg_AskedRule : PySem.W.plainGet K c_AskedRule Str.empty = true)
    (hd_AskedRule : PySem.W.hasDictIn K c_AskedRule = true)
    (po_AskedRule : PySem.W.plainOver K c_AskedRule = true)
    (sa_AskedRule : PySem.W.findIn K (.ref c_AskedRule) "__setattr__" = some (some (.builtin "object.__setattr__")))
    (mk_AskedRule : PySem.W.makesIn K c_AskedRule = true)
    (kc_AskedRule : PySem.W.keepIn K (.ref c_AskedRule) = true)
    (na_AskedRule_teller : PySem.W.findIn K (.ref c_AskedRule) "teller" = some none)
    (a1 : PySem.W.nsIn K mainGlobals "_law_teller" = some (some (.ref f1)))
    (l1 : K.lookup f1 = some ⟨oc1, od1, .func (PySem.W.fnOf "_law_teller" "_law_teller" (defArgs s__law_teller) (defBody s__law_teller) (defScope s__law_teller) .none kV1 dc1 pm1 an1 (.ref cc1) ct1), sl1⟩)
    (lc1 : K.lookup cc1 = some ⟨oK1, uK1, .fields vs1, sK1⟩)
    (lp1 : (vs1[11]? : Option Value) = some (.ref P1))
    (hh1 : PySem.W.codeHdIn K cc1 P1 = true)
    (np1 : K.lookup P1 = Option.none)
    (gp1 : mainGlobals ≠ P1)
    (tp1 : h.get? P1 = some (PySem.W.tabObj #[]))
    (c1 : PySem.W.codeIn K (.ref cc1) "_law_teller" = true)
    (k1 : PySem.W.keepIn K (.ref f1) = true)
    (i2 : PySem.W.isFn K (.ref f2) = true)
    (l2 : K.lookup f2 = some ⟨oc2, od2, .func (PySem.W.fnOf "__init__" "Spent.__init__" (defArgs s_Spent___init__) (defBody s_Spent___init__) (defScope s_Spent___init__) .none kV2 dc2 pm2 an2 cd2 ct2), sl2⟩)
    (c2 : PySem.W.codeIn K cd2 "Spent.__init__" = true)
    (k2 : PySem.W.keepIn K (.ref f2) = true)
    (a3_AskedRule : PySem.W.findIn K (.ref c_AskedRule) "__init__" = some (some (.ref f3)))
    (i3 : PySem.W.isFn K (.ref f3) = true)
    (l3 : K.lookup f3 = some ⟨oc3, od3, .func (PySem.W.fnOf "__init__" "AskedRule.__init__" (defArgs s_AskedRule___init__) (defBody s_AskedRule___init__) (defScope s_AskedRule___init__) .none kV3 dc3 pm3 an3 cd3 ct3), sl3⟩)
    (c3 : PySem.W.codeIn K cd3 "AskedRule.__init__" = true)
    (k3 : PySem.W.keepIn K (.ref f3) = true)
    (a4_AskedRule : PySem.W.findIn K (.ref c_AskedRule) "before" = some (some (.ref f4)))
    (i4 : PySem.W.isFn K (.ref f4) = true)
    (l4 : K.lookup f4 = some ⟨oc4, od4, .func (PySem.W.fnOf "before" "AskedRule.before" (defArgs s_AskedRule_before) (defBody s_AskedRule_before) (defScope s_AskedRule_before) .none kV4 dc4 pm4 an4 cd4 ct4), sl4⟩)
    (c4 : PySem.W.codeIn K cd4 "AskedRule.before" = true)
    (k4 : PySem.W.keepIn K (.ref f4) = true)
    (a5_Asker : PySem.W.findIn K (.ref c_Asker) "ahead" = some (some (.ref f5)))
    (i5 : PySem.W.isFn K (.ref f5) = true)
    (l5 : K.lookup f5 = some ⟨oc5, od5, .func (PySem.W.fnOf "ahead" "Asker.ahead" (defArgs s_Asker_ahead) (defBody s_Asker_ahead) (defScope s_Asker_ahead) .none kV5 dc5 pm5 an5 cd5 ct5), sl5⟩)
    (c5 : PySem.W.codeIn K cd5 "Asker.ahead" = true)
    (k5 : PySem.W.keepIn K (.ref f5) = true)
    (a6_Asker : PySem.W.findIn K (.ref c_Asker) "widen" = some (some (.ref f6)))
    (i6 : PySem.W.isFn K (.ref f6) = true)
    (l6 : K.lookup f6 = some ⟨oc6, od6, .func (PySem.W.fnOf "widen" "Asker.widen" (defArgs s_Asker_widen) (defBody s_Asker_widen) (defScope s_Asker_widen) .none kV6 dc6 pm6 an6 cd6 ct6), sl6⟩)
    (c6 : PySem.W.codeIn K cd6 "Asker.widen" = true)
    (k6 : PySem.W.keepIn K (.ref f6) = true)
    (a7_Asker : PySem.W.findIn K (.ref c_Asker) "many" = some (some (.ref f7)))
    (i7 : PySem.W.isFn K (.ref f7) = true)
    (l7 : K.lookup f7 = some ⟨oc7, od7, .func (PySem.W.fnOf "many" "Asker.many" (defArgs s_Asker_many) (defBody s_Asker_many) (defScope s_Asker_many) .none kV7 dc7 pm7 an7 cd7 ct7), sl7⟩)
    (c7 : PySem.W.codeIn K cd7 "Asker.many" = true)
    (k7 : PySem.W.keepIn K (.ref f7) = true)
    (a8_Asker : PySem.W.findIn K (.ref c_Asker) "__init__" = some (some (.ref f8)))
    (i8 : PySem.W.isFn K (.ref f8) = true)
    (l8 : K.lookup f8 = some ⟨oc8, od8, .func (PySem.W.fnOf "__init__" "Asker.__init__" (defArgs s_Asker___init__) (defBody s_Asker___init__) (defScope s_Asker___init__) (.ref dT8) kV8 dc8 pm8 an8 cd8 ct8), sl8⟩)
    (lt8 : K.lookup dT8 = some ⟨oT8, oU8, .seq ([Value.none] : List Value).toArray nT8, tsl8⟩)
    (c8 : PySem.W.codeIn K cd8 "Asker.__init__" = true)
    (k8 : PySem.W.keepIn K (.ref f8) = true)
    (a9 : PySem.W.nsIn K mainGlobals "cut_between" = some (some (.ref f9)))
    (l9 : K.lookup f9 = some ⟨oc9, od9, .func (PySem.W.fnOf "cut_between" "cut_between" (defArgs s_cut_between) (defBody s_cut_between) (defScope s_cut_between) .none kV9 dc9 pm9 an9 cd9 ct9), sl9⟩)
    (c9 : PySem.W.codeIn K cd9 "cut_between" = true)
    (k9 : PySem.W.keepIn K (.ref f9) = true)
    (a10_Pour : PySem.W.findIn K (.ref c_Pour) "front" = some (some (.ref f10)))
    (i10 : PySem.W.isFn K (.ref f10) = true)
    (l10 : K.lookup f10 = some ⟨oc10, od10, .func (PySem.W.fnOf "front" "Pour.front" (defArgs s_Pour_front) (defBody s_Pour_front) (defScope s_Pour_front) .none kV10 dc10 pm10 an10 cd10 ct10), sl10⟩)
    (c10 : PySem.W.codeIn K cd10 "Pour.front" = true)
    (k10 : PySem.W.keepIn K (.ref f10) = true)
    (a11_Pour : PySem.W.findIn K (.ref c_Pour) "goes_on" = some (some (.ref f11)))
    (i11 : PySem.W.isFn K (.ref f11) = true)
    (l11 : K.lookup f11 = some ⟨oc11, od11, .func (PySem.W.fnOf "goes_on" "Pour.goes_on" (defArgs s_Pour_goes_on) (defBody s_Pour_goes_on) (defScope s_Pour_goes_on) .none kV11 dc11 pm11 an11 cd11 ct11), sl11⟩)
    (c11 : PySem.W.codeIn K cd11 "Pour.goes_on" = true)
    (k11 : PySem.W.keepIn K (.ref f11) = true)
    (a12_Pour : PySem.W.findIn K (.ref c_Pour) "meeting" = some (some (.ref f12)))
    (i12 : PySem.W.isFn K (.ref f12) = true)
    (l12 : K.lookup f12 = some ⟨oc12, od12, .func (PySem.W.fnOf "meeting" "Pour.meeting" (defArgs s_Pour_meeting) (defBody s_Pour_meeting) (defScope s_Pour_meeting) .none kV12 dc12 pm12 an12 cd12 ct12), sl12⟩)
    (c12 : PySem.W.codeIn K cd12 "Pour.meeting" = true)
    (k12 : PySem.W.keepIn K (.ref f12) = true)
    (a13_Pour : PySem.W.findIn K (.ref c_Pour) "hold_all" = some (some (.ref f13)))
    (i13 : PySem.W.isFn K (.ref f13) = true)
    (l13 : K.lookup f13 = some ⟨oc13, od13, .func (PySem.W.fnOf "hold_all" "Pour.hold_all" (defArgs s_Pour_hold_all) (defBody s_Pour_hold_all) (defScope s_Pour_hold_all) .none kV13 dc13 pm13 an13 cd13 ct13), sl13⟩)
    (c13 : PySem.W.codeIn K cd13 "Pour.hold_all" = true)
    (k13 : PySem.W.keepIn K (.ref f13) = true)
    (a14_Pour : PySem.W.findIn K (.ref c_Pour) "__init__" = some (some (.ref f14)))
    (i14 : PySem.W.isFn K (.ref f14) = true)
    (l14 : K.lookup f14 = some ⟨oc14, od14, .func (PySem.W.fnOf "__init__" "Pour.__init__" (defArgs s_Pour___init__) (defBody s_Pour___init__) (defScope s_Pour___init__) .none kV14 dc14 pm14 an14 cd14 ct14), sl14⟩)
    (c14 : PySem.W.codeIn K cd14 "Pour.__init__" = true)
    (k14 : PySem.W.keepIn K (.ref f14) = true)
    (a15_Pour : PySem.W.findIn K (.ref c_Pour) "first" = some (some (.ref f15)))
    (i15 : PySem.W.isFn K (.ref f15) = true)
    (l15 : K.lookup f15 = some ⟨oc15, od15, .func (PySem.W.fnOf "first" "Pour.first" (defArgs s_Pour_first) (defBody s_Pour_first) (defScope s_Pour_first) .none kV15 dc15 pm15 an15 cd15 ct15), sl15⟩)
    (c15 : PySem.W.codeIn K cd15 "Pour.first" = true)
    (k15 : PySem.W.keepIn K (.ref f15) = true)
    (a16_Pour : PySem.W.findIn K (.ref c_Pour) "left" = some (some (.ref f16)))
    (i16 : PySem.W.isFn K (.ref f16) = true)
    (l16 : K.lookup f16 = some ⟨oc16, od16, .func (PySem.W.fnOf "left" "Pour.left" (defArgs s_Pour_left) (defBody s_Pour_left) (defScope s_Pour_left) .none kV16 dc16 pm16 an16 cd16 ct16), sl16⟩)
    (c16 : PySem.W.codeIn K cd16 "Pour.left" = true)
    (k16 : PySem.W.keepIn K (.ref f16) = true)
    (a17_Pour : PySem.W.findIn K (.ref c_Pour) "way_down" = some (some (.ref f17)))
    (i17 : PySem.W.isFn K (.ref f17) = true)
    (l17 : K.lookup f17 = some ⟨oc17, od17, .func (PySem.W.fnOf "way_down" "Pour.way_down" (defArgs s_Pour_way_down) (defBody s_Pour_way_down) (defScope s_Pour_way_down) .none kV17 dc17 pm17 an17 cd17 ct17), sl17⟩)
    (c17 : PySem.W.codeIn K cd17 "Pour.way_down" = true)
    (k17 : PySem.W.keepIn K (.ref f17) = true)
    (a18_Pour : PySem.W.findIn K (.ref c_Pour) "take" = some (some (.ref f18)))
    (i18 : PySem.W.isFn K (.ref f18) = true)
    (l18 : K.lookup f18 = some ⟨oc18, od18, .func (PySem.W.fnOf "take" "Pour.take" (defArgs s_Pour_take) (defBody s_Pour_take) (defScope s_Pour_take) .none kV18 dc18 pm18 an18 cd18 ct18), sl18⟩)
    (c18 : PySem.W.codeIn K cd18 "Pour.take" = true)
    (k18 : PySem.W.keepIn K (.ref f18) = true)
    (a19_LastPour : PySem.W.findIn K (.ref c_LastPour) "front" = some (some (.ref f19)))
    (i19 : PySem.W.isFn K (.ref f19) = true)
    (l19 : K.lookup f19 = some ⟨oc19, od19, .func (PySem.W.fnOf "front" "LastPour.front" (defArgs s_LastPour_front) (defBody s_LastPour_front) (defScope s_LastPour_front) .none kV19 dc19 pm19 an19 cd19 ct19), sl19⟩)
    (c19 : PySem.W.codeIn K cd19 "LastPour.front" = true)
    (k19 : PySem.W.keepIn K (.ref f19) = true)
    (a20_LastPour : PySem.W.findIn K (.ref c_LastPour) "goes_on" = some (some (.ref f20)))
    (i20 : PySem.W.isFn K (.ref f20) = true)
    (l20 : K.lookup f20 = some ⟨oc20, od20, .func (PySem.W.fnOf "goes_on" "LastPour.goes_on" (defArgs s_LastPour_goes_on) (defBody s_LastPour_goes_on) (defScope s_LastPour_goes_on) .none kV20 dc20 pm20 an20 cd20 ct20), sl20⟩)
    (c20 : PySem.W.codeIn K cd20 "LastPour.goes_on" = true)
    (k20 : PySem.W.keepIn K (.ref f20) = true)
    (a21_LastPour : PySem.W.findIn K (.ref c_LastPour) "meeting" = some (some (.ref f21)))
    (i21 : PySem.W.isFn K (.ref f21) = true)
    (l21 : K.lookup f21 = some ⟨oc21, od21, .func (PySem.W.fnOf "meeting" "Pour.meeting" (defArgs s_LastPour_meeting) (defBody s_LastPour_meeting) (defScope s_LastPour_meeting) .none kV21 dc21 pm21 an21 cd21 ct21), sl21⟩)
    (c21 : PySem.W.codeIn K cd21 "Pour.meeting" = true)
    (k21 : PySem.W.keepIn K (.ref f21) = true)
    (a22_LastPour : PySem.W.findIn K (.ref c_LastPour) "hold_all" = some (some (.ref f22)))
    (i22 : PySem.W.isFn K (.ref f22) = true)
    (l22 : K.lookup f22 = some ⟨oc22, od22, .func (PySem.W.fnOf "hold_all" "Pour.hold_all" (defArgs s_LastPour_hold_all) (defBody s_LastPour_hold_all) (defScope s_LastPour_hold_all) .none kV22 dc22 pm22 an22 cd22 ct22), sl22⟩)
    (c22 : PySem.W.codeIn K cd22 "Pour.hold_all" = true)
    (k22 : PySem.W.keepIn K (.ref f22) = true)
    (a23_LastPour : PySem.W.findIn K (.ref c_LastPour) "__init__" = some (some (.ref f23)))
    (i23 : PySem.W.isFn K (.ref f23) = true)
    (l23 : K.lookup f23 = some ⟨oc23, od23, .func (PySem.W.fnOf "__init__" "Pour.__init__" (defArgs s_LastPour___init__) (defBody s_LastPour___init__) (defScope s_LastPour___init__) .none kV23 dc23 pm23 an23 cd23 ct23), sl23⟩)
    (c23 : PySem.W.codeIn K cd23 "Pour.__init__" = true)
    (k23 : PySem.W.keepIn K (.ref f23) = true)
    (a24_LastPour : PySem.W.findIn K (.ref c_LastPour) "first" = some (some (.ref f24)))
    (i24 : PySem.W.isFn K (.ref f24) = true)
    (l24 : K.lookup f24 = some ⟨oc24, od24, .func (PySem.W.fnOf "first" "Pour.first" (defArgs s_LastPour_first) (defBody s_LastPour_first) (defScope s_LastPour_first) .none kV24 dc24 pm24 an24 cd24 ct24), sl24⟩)
    (c24 : PySem.W.codeIn K cd24 "Pour.first" = true)
    (k24 : PySem.W.keepIn K (.ref f24) = true)
    (a25_LastPour : PySem.W.findIn K (.ref c_LastPour) "left" = some (some (.ref f25)))
    (i25 : PySem.W.isFn K (.ref f25) = true)
    (l25 : K.lookup f25 = some ⟨oc25, od25, .func (PySem.W.fnOf "left" "Pour.left" (defArgs s_LastPour_left) (defBody s_LastPour_left) (defScope s_LastPour_left) .none kV25 dc25 pm25 an25 cd25 ct25), sl25⟩)
    (c25 : PySem.W.codeIn K cd25 "Pour.left" = true)
    (k25 : PySem.W.keepIn K (.ref f25) = true)
    (a26_LastPour : PySem.W.findIn K (.ref c_LastPour) "way_down" = some (some (.ref f26)))
    (i26 : PySem.W.isFn K (.ref f26) = true)
    (l26 : K.lookup f26 = some ⟨oc26, od26, .func (PySem.W.fnOf "way_down" "Pour.way_down" (defArgs s_LastPour_way_down) (defBody s_LastPour_way_down) (defScope s_LastPour_way_down) .none kV26 dc26 pm26 an26 cd26 ct26), sl26⟩)
    (c26 : PySem.W.codeIn K cd26 "Pour.way_down" = true)
    (k26 : PySem.W.keepIn K (.ref f26) = true)
    (a27_LastPour : PySem.W.findIn K (.ref c_LastPour) "take" = some (some (.ref f27)))
    (i27 : PySem.W.isFn K (.ref f27) = true)
    (l27 : K.lookup f27 = some ⟨oc27, od27, .func (PySem.W.fnOf "take" "Pour.take" (defArgs s_LastPour_take) (defBody s_LastPour_take) (defScope s_LastPour_take) .none kV27 dc27 pm27 an27 cd27 ct27), sl27⟩)
    (c27 : PySem.W.codeIn K cd27 "Pour.take" = true)
    (k27 : PySem.W.keepIn K (.ref f27) = true)
    (a28 : PySem.W.nsIn K mainGlobals "_law_cell_at" = some (some (.ref f28)))
    (l28 : K.lookup f28 = some ⟨oc28, od28, .func (PySem.W.fnOf "_law_cell_at" "_law_cell_at" (defArgs s__law_cell_at) (defBody s__law_cell_at) (defScope s__law_cell_at) .none kV28 dc28 pm28 an28 cd28 ct28), sl28⟩)
    (c28 : PySem.W.codeIn K cd28 "_law_cell_at" = true)
    (k28 : PySem.W.keepIn K (.ref f28) = true)
    (a29 : PySem.W.nsIn K mainGlobals "_law_stream" = some (some (.ref f29)))
    (l29 : K.lookup f29 = some ⟨oc29, od29, .func (PySem.W.fnOf "_law_stream" "_law_stream" (defArgs s__law_stream) (defBody s__law_stream) (defScope s__law_stream) .none kV29 dc29 pm29 an29 cd29 ct29), sl29⟩)
    (c29 : PySem.W.codeIn K cd29 "_law_stream" = true)
    (k29 : PySem.W.keepIn K (.ref f29) = true)
    (a30 : PySem.W.nsIn K mainGlobals "_law_digits" = some (some (.ref f30)))
    (l30 : K.lookup f30 = some ⟨oc30, od30, .func (PySem.W.fnOf "_law_digits" "_law_digits" (defArgs s__law_digits) (defBody s__law_digits) (defScope s__law_digits) .none kV30 dc30 pm30 an30 cd30 ct30), sl30⟩)
    (c30 : PySem.W.codeIn K cd30 "_law_digits" = true)
    (k30 : PySem.W.keepIn K (.ref f30) = true)
    (a31 : PySem.W.nsIn K mainGlobals "_law_blocks" = some (some (.ref f31)))
    (l31 : K.lookup f31 = some ⟨oc31, od31, .func (PySem.W.fnOf "_law_blocks" "_law_blocks" (defArgs s__law_blocks) (defBody s__law_blocks) (defScope s__law_blocks) .none kV31 dc31 pm31 an31 cd31 ct31), sl31⟩)
    (c31 : PySem.W.codeIn K cd31 "_law_blocks" = true)
    (k31 : PySem.W.keepIn K (.ref f31) = true)
    (a32 : PySem.W.nsIn K mainGlobals "_law_nearly" = some (some (.ref f32)))
    (l32 : K.lookup f32 = some ⟨oc32, od32, .func (PySem.W.fnOf "_law_nearly" "_law_nearly" (defArgs s__law_nearly) (defBody s__law_nearly) (defScope s__law_nearly) .none kV32 dc32 pm32 an32 cd32 ct32), sl32⟩)
    (c32 : PySem.W.codeIn K cd32 "_law_nearly" = true)
    (k32 : PySem.W.keepIn K (.ref f32) = true)
    (a33 : PySem.W.nsIn K mainGlobals "_law_keys" = some (some (.ref f33)))
    (l33 : K.lookup f33 = some ⟨oc33, od33, .func (PySem.W.fnOf "_law_keys" "_law_keys" (defArgs s__law_keys) (defBody s__law_keys) (defScope s__law_keys) .none kV33 dc33 pm33 an33 cd33 ct33), sl33⟩)
    (c33 : PySem.W.codeIn K cd33 "_law_keys" = true)
    (k33 : PySem.W.keepIn K (.ref f33) = true)
    (a34 : PySem.W.nsIn K mainGlobals "_law_whole" = some (some (.ref f34)))
    (l34 : K.lookup f34 = some ⟨oc34, od34, .func (PySem.W.fnOf "_law_whole" "_law_whole" (defArgs s__law_whole) (defBody s__law_whole) (defScope s__law_whole) .none kV34 dc34 pm34 an34 cd34 ct34), sl34⟩)
    (c34 : PySem.W.codeIn K cd34 "_law_whole" = true)
    (k34 : PySem.W.keepIn K (.ref f34) = true)
    (a35 : PySem.W.nsIn K mainGlobals "_law_dealt" = some (some (.ref f35)))
    (l35 : K.lookup f35 = some ⟨oc35, od35, .func (PySem.W.fnOf "_law_dealt" "_law_dealt" (defArgs s__law_dealt) (defBody s__law_dealt) (defScope s__law_dealt) .none kV35 dc35 pm35 an35 cd35 ct35), sl35⟩)
    (c35 : PySem.W.codeIn K cd35 "_law_dealt" = true)
    (k35 : PySem.W.keepIn K (.ref f35) = true)
    (a36 : PySem.W.nsIn K mainGlobals "_law_made" = some (some (.ref f36)))
    (l36 : K.lookup f36 = some ⟨oc36, od36, .func (PySem.W.fnOf "_law_made" "_law_made" (defArgs s__law_made) (defBody s__law_made) (defScope s__law_made) .none kV36 dc36 pm36 an36 cd36 ct36), sl36⟩)
    (c36 : PySem.W.codeIn K cd36 "_law_made" = true)
    (k36 : PySem.W.keepIn K (.ref f36) = true)
    (a37 : PySem.W.nsIn K mainGlobals "_law_taken" = some (some (.ref f37)))
    (l37 : K.lookup f37 = some ⟨oc37, od37, .func (PySem.W.fnOf "_law_taken" "_law_taken" (defArgs s__law_taken) (defBody s__law_taken) (defScope s__law_taken) .none kV37 dc37 pm37 an37 cd37 ct37), sl37⟩)
    (c37 : PySem.W.codeIn K cd37 "_law_taken" = true)
    (k37 : PySem.W.keepIn K (.ref f37) = true)
    (a38 : PySem.W.nsIn K mainGlobals "_law_refused" = some (some (.ref f38)))
    (l38 : K.lookup f38 = some ⟨oc38, od38, .func (PySem.W.fnOf "_law_refused" "_law_refused" (defArgs s__law_refused) (defBody s__law_refused) (defScope s__law_refused) .none kV38 dc38 pm38 an38 cd38 ct38), sl38⟩)
    (c38 : PySem.W.codeIn K cd38 "_law_refused" = true)
    (k38 : PySem.W.keepIn K (.ref f38) = true)
    (a39 : PySem.W.nsIn K mainGlobals "_law_step" = some (some (.ref f39)))
    (l39 : K.lookup f39 = some ⟨oc39, od39, .func (PySem.W.fnOf "_law_step" "_law_step" (defArgs s__law_step) (defBody s__law_step) (defScope s__law_step) .none kV39 dc39 pm39 an39 cd39 ct39), sl39⟩)
    (c39 : PySem.W.codeIn K cd39 "_law_step" = true)
    (k39 : PySem.W.keepIn K (.ref f39) = true)
    (a40 : PySem.W.nsIn K mainGlobals "law" = some (some (.ref f40)))
    (l40 : K.lookup f40 = some ⟨oc40, od40, .func (PySem.W.fnOf "law" "law" (defArgs s_law) (defBody s_law) (defScope s_law) .none kV40 dc40 pm40 an40 cd40 ct40), sl40⟩)
    (c40 : PySem.W.codeIn K cd40 "law" = true)
    (k40 : PySem.W.keepIn K (.ref f40) = true)
    (z_ValueError : PySem.W.nsIn K mainGlobals "ValueError" = some none)
    (z_range : PySem.W.nsIn K mainGlobals "range" = some none)
    (z_sorted : PySem.W.nsIn K mainGlobals "sorted" = some none)
    (z_len : PySem.W.nsIn K mainGlobals "len" = some none)
    (z_reversed : PySem.W.nsIn K mainGlobals "reversed" = some none)
    (z_list : PySem.W.nsIn K mainGlobals "list" = some none)
    (z_max : PySem.W.nsIn K mainGlobals "max" = some none)
    (z_min : PySem.W.nsIn K mainGlobals "min" = some none)
    (z_isinstance : PySem.W.nsIn K mainGlobals "isinstance" = some none)
    (z_int : PySem.W.nsIn K mainGlobals "int" = some none)
    (z_sum : PySem.W.nsIn K mainGlobals "sum" = some none)
    (z_bool : PySem.W.nsIn K mainGlobals "bool" = some none)
    (z_enumerate : PySem.W.nsIn K mainGlobals "enumerate" = some none)
    (xs_Spent_HallError : PySem.W.subIn K (.ref c_Spent) (.ref c_HallError) = some true)
    (xs_Spent_Spent : PySem.W.subIn K (.ref c_Spent) (.ref c_Spent) = some true)
    (kits_Spent_Spent : PySem.W.kitOne K (.ref c_Spent) (.ref c_Spent) = some true)
    (kits_Spent_NoPlace : PySem.W.kitOne K (.ref c_Spent) (.ref c_NoPlace) = some false)
    (kits_Spent_TooFar : PySem.W.kitOne K (.ref c_Spent) (.ref c_TooFar) = some false) :
    LamX.LawAtS l w K CX0 19 63 "_law_script" mg fa h := by
  have e := hfa.symm.trans (PySem.W.mg_of X G a40)
  cases e
  let A : Ad := ⟨c_Pour, c_LastPour, c_HallError, c_NoPlace, c_TooFar, c_Spent, c_Asker, c_Rule, c_AskedRule, P1⟩
  have T : Txt K mg A := ⟨PySem.W.mg_none_of X G z_ValueError, PySem.W.mg_none_of X G z_range, PySem.W.mg_none_of X G z_sorted, PySem.W.mg_none_of X G z_len, PySem.W.mg_none_of X G z_reversed, PySem.W.mg_none_of X G z_list, PySem.W.mg_none_of X G z_max, PySem.W.mg_none_of X G z_min, PySem.W.mg_none_of X G z_isinstance, PySem.W.mg_none_of X G z_int, PySem.W.mg_none_of X G z_sum, PySem.W.mg_none_of X G z_bool, PySem.W.mg_none_of X G z_enumerate, PySem.W.mg_of X G aC_Pour, ⟨pg_Pour, hd_Pour, po_Pour, sa_Pour⟩, na_Pour_asker, na_Pour_pieces, na_Pour_gone, na_Pour_went_on, PySem.W.mg_of X G aC_LastPour, ⟨pg_LastPour, hd_LastPour, po_LastPour, sa_LastPour⟩, na_LastPour_pieces, na_LastPour_asker, na_LastPour_gone, na_LastPour_went_on, PySem.W.mg_of X G aC_HallError, xn_HallError, kp_HallError, sb_HallError, ty_HallError, ⟨e0_HallError, e1_HallError, e2_HallError, e3_HallError, e4_HallError, e5_HallError, e6_HallError, e7_HallError⟩, PySem.W.mg_of X G aC_NoPlace, PySem.W.mg_of X G aC_TooFar, PySem.W.mg_of X G aC_Spent, ⟨⟨_, _, _, _, _, _, _, _, _, _, _, _, _, _, _, xL_Spent, rfl⟩, sa_Spent, sb_Spent, ty_Spent, kp_Spent⟩, na_Spent_asked, kp_Spent, sb_Spent, ty_Spent, ⟨e0_Spent, e1_Spent, e2_Spent, e3_Spent, e4_Spent, e5_Spent, e6_Spent, e7_Spent⟩, PySem.W.mg_of X G aC_Asker, ⟨pg_Asker, hd_Asker, po_Asker, sa_Asker⟩, na_Asker_row, na_Asker_rule, na_Asker_most, na_Asker_asked, na_Asker_log, PySem.W.mg_of X G aC_Rule, ⟨pg_Rule, hd_Rule, po_Rule, sa_Rule⟩, PySem.W.mg_of X G aC_AskedRule, ⟨pg_AskedRule, hd_AskedRule, po_AskedRule, sa_AskedRule⟩, na_AskedRule_teller, PySem.W.exm_ref sb_HallError e3_HallError ty_HallError xs_Spent_HallError, PySem.W.exm_ref sb_Spent e3_Spent ty_Spent xs_Spent_Spent, kits_Spent_Spent, kits_Spent_NoPlace, kits_Spent_TooFar⟩
  have F2 := fun_mk (st := s_Spent___init__) l2 c2 k2
  have F3 := fun_mk (st := s_AskedRule___init__) l3 c3 k3
  have F4 := fun_mk (st := s_AskedRule_before) l4 c4 k4
  have F5 := fun_mk (st := s_Asker_ahead) l5 c5 k5
  have F6 := fun_mk (st := s_Asker_widen) l6 c6 k6
  have F7 := fun_mk (st := s_Asker_many) l7 c7 k7
  have F8 := SH.funD_mk (st := s_Asker___init__) (dvs := [.non]) l8 lt8 (.cons rfl .nil) (by simp) c8 k8
  have F9 := fun_mk (st := s_cut_between) l9 c9 k9
  have F10 := fun_mk (st := s_Pour_front) l10 c10 k10
  have F11 := fun_mk (st := s_Pour_goes_on) l11 c11 k11
  have F12 := fun_mk (st := s_Pour_meeting) l12 c12 k12
  have F13 := fun_mk (st := s_Pour_hold_all) l13 c13 k13
  have F14 := fun_mk (st := s_Pour___init__) l14 c14 k14
  have F15 := fun_mk (st := s_Pour_first) l15 c15 k15
  have F16 := fun_mk (st := s_Pour_left) l16 c16 k16
  have F17 := fun_mk (st := s_Pour_way_down) l17 c17 k17
  have F18 := fun_mk (st := s_Pour_take) l18 c18 k18
  have F19 := fun_mk (st := s_LastPour_front) l19 c19 k19
  have F20 := fun_mk (st := s_LastPour_goes_on) l20 c20 k20
  have F21 := fun_mk (st := s_LastPour_meeting) l21 c21 k21
  have F22 := fun_mk (st := s_LastPour_hold_all) l22 c22 k22
  have F23 := fun_mk (st := s_LastPour___init__) l23 c23 k23
  have F24 := fun_mk (st := s_LastPour_first) l24 c24 k24
  have F25 := fun_mk (st := s_LastPour_left) l25 c25 k25
  have F26 := fun_mk (st := s_LastPour_way_down) l26 c26 k26
  have F27 := fun_mk (st := s_LastPour_take) l27 c27 k27
  have F28 := fun_mk (st := s__law_cell_at) l28 c28 k28
  have F29 := fun_mk (st := s__law_stream) l29 c29 k29
  have F30 := fun_mk (st := s__law_digits) l30 c30 k30
  have F31 := fun_mk (st := s__law_blocks) l31 c31 k31
  have F32 := fun_mk (st := s__law_nearly) l32 c32 k32
  have F33 := fun_mk (st := s__law_keys) l33 c33 k33
  have F34 := fun_mk (st := s__law_whole) l34 c34 k34
  have F35 := fun_mk (st := s__law_dealt) l35 c35 k35
  have F36 := fun_mk (st := s__law_made) l36 c36 k36
  have F37 := fun_mk (st := s__law_taken) l37 c37 k37
  have F38 := fun_mk (st := s__law_refused) l38 c38 k38
  have F39 := fun_mk (st := s__law_step) l39 c39 k39
  have F40 := fun_mk (st := s_law) l40 c40 k40
  refine ⟨PySem.W.fnOf "law" "law" (defArgs s_law) (defBody s_law) (defScope s_law) .none kV40 dc40 pm40 an40 cd40 ct40, [(cc1, P1)], sp_law K A, (fun p hp => by rw [List.mem_singleton] at hp; rw [hp]; exact tp1), (fun p hp => by rw [List.mem_singleton] at hp; rw [hp]; exact np1), (fun p hp => by rw [List.mem_singleton] at hp; rw [hp]; exact PySem.W.codeHd_of_K X hh1), (fun s v => .of_eq rfl), (fun H a ns hl _ hcs hS => ⟨a, ns, rfl, ⟨hS, hl, fun p hp => by rw [List.mem_singleton] at hp; rw [hp]; exact SH.tabN_empty (hcs _ (List.mem_singleton.mpr rfl))⟩, fun _ => rfl⟩), fun base _ _ hTB => ?_⟩
  have TB : LamX.TabB base mg cc1 P1 := hTB _ (List.mem_singleton.mpr rfl)
  have TEL := (cok__law_teller___law_teller_here (P := l.prog) (w := w) (base := base) T).tel
  have O__law_teller := ok__law_teller (P := l.prog) (w := w) (base := base) (A := A) l1 c1 TB
  have O_Spent___init__ := ok_Spent___init__ (P := l.prog) (w := w) (base := base) F2 T 
  have O_AskedRule___init__ := ok_AskedRule___init__ (P := l.prog) (w := w) (base := base) F3 T 
  have O_AskedRule_before := ok_AskedRule_before (P := l.prog) (w := w) (base := base) F4 T TEL
  have X1 : SH.CalM l.prog w K mg base CX0 _ A.AskedRule "before" [] _ := ⟨T.cl_AskedRule, f4, _, _, _, ⟨a4_AskedRule, i4, k4⟩, (F4.binds (ps := ["self", "x", "y"]) fun _ _ _ _ _ _ us hl => match us, hl with | [_, _, _], _ => rfl), .nil, O_AskedRule_before⟩
  have X2 : SH.CalE l.prog w K mg base _ "Spent" A.Spent _ := ⟨T.ox_Spent, f2, _, _, T.g_Spent, in_Spent, tI_Spent, (F2.binds (ps := ["self", "asked"]) fun _ _ _ _ _ _ us hl => match us, hl with | [_, _], _ => rfl), O_Spent___init__⟩
  have O_Asker_ahead := ok_Asker_ahead (P := l.prog) (w := w) (base := base) F5 T X1 X2
  have O_Asker_widen := ok_Asker_widen (P := l.prog) (w := w) (base := base) F6 T 
  have O_Asker_many := ok_Asker_many (P := l.prog) (w := w) (base := base) F7 T 
  have O_Asker___init__ := ok_Asker___init__ (P := l.prog) (w := w) (base := base) F8 T 
  have O_cut_between := ok_cut_between (P := l.prog) (w := w) (base := base) F9 T 
  have O_Pour_front := ok_Pour_front (P := l.prog) (w := w) (base := base) F10 T 
  have X3 : SH.CalM l.prog w K mg base (L2N.CX l.prog w) _ A.Asker "ahead" [] _ := ⟨T.cl_Asker, f5, _, _, _, ⟨a5_Asker, i5, k5⟩, (F5.binds (ps := ["self", "p", "q"]) fun _ _ _ _ _ _ us hl => match us, hl with | [_, _, _], _ => rfl), .nil, O_Asker_ahead⟩
  have O_Pour_goes_on := ok_Pour_goes_on (P := l.prog) (w := w) (base := base) F11 T X3
  have X4 : SH.CalM l.prog w K mg base (L2N.CX l.prog w) _ A.Pour "goes_on" [] _ := ⟨T.cl_Pour, f11, _, _, _, ⟨a11_Pour, i11, k11⟩, (F11.binds (ps := ["self", "one", "other"]) fun _ _ _ _ _ _ us hl => match us, hl with | [_, _, _], _ => rfl), .nil, O_Pour_goes_on⟩
  have O_Pour_meeting := ok_Pour_meeting (P := l.prog) (w := w) (base := base) F12 T X4
  have X5 : SH.CalM l.prog w K mg base CX0 _ A.Pour "front" [] _ := ⟨T.cl_Pour, f10, _, _, _, ⟨a10_Pour, i10, k10⟩, (F10.binds (ps := ["self", "number", "gone"]) fun _ _ _ _ _ _ us hl => match us, hl with | [_, _, _], _ => rfl), .nil, O_Pour_front⟩
  have X6 : SH.CalM l.prog w K mg base (L2N.CX l.prog w) _ A.Pour "meeting" [] _ := ⟨T.cl_Pour, f12, _, _, _, ⟨a12_Pour, i12, k12⟩, (F12.binds (ps := ["self", "one", "other"]) fun _ _ _ _ _ _ us hl => match us, hl with | [_, _, _], _ => rfl), .nil, O_Pour_meeting⟩
  have X7 : SH.Cal l.prog w K mg base CX0 _ "cut_between" [] _ := ⟨f9, _, _, _, PySem.W.mg_of X G a9, k9, (F9.binds (ps := ["low", "high"]) fun _ _ _ _ _ _ us hl => match us, hl with | [_, _], _ => rfl), .nil, O_cut_between⟩
  have O_Pour_hold_all := ok_Pour_hold_all (P := l.prog) (w := w) (base := base) F13 T X5 X6 X7 ⟨a13_Pour, i13, k13⟩ (F13.binds (ps := ["self", "low", "high"]) fun _ _ _ _ _ _ us hl => match us, hl with | [_, _, _], _ => rfl)
  have X8 : SH.CalM l.prog w K mg base (L2N.CX l.prog w) _ A.Pour "hold_all" [] _ := ⟨T.cl_Pour, f13, _, _, _, ⟨a13_Pour, i13, k13⟩, (F13.binds (ps := ["self", "low", "high"]) fun _ _ _ _ _ _ us hl => match us, hl with | [_, _, _], _ => rfl), .nil, O_Pour_hold_all⟩
  have O_Pour___init__ := ok_Pour___init__ (P := l.prog) (w := w) (base := base) F14 T X8
  have O_Pour_first := ok_Pour_first (P := l.prog) (w := w) (base := base) F15 T 
  have O_Pour_left := ok_Pour_left (P := l.prog) (w := w) (base := base) F16 T 
  have O_Pour_way_down := ok_Pour_way_down (P := l.prog) (w := w) (base := base) F17 T X7
  have X9 : SH.CalM l.prog w K mg base CX0 _ A.Pour "way_down" [] _ := ⟨T.cl_Pour, f17, _, _, _, ⟨a17_Pour, i17, k17⟩, (F17.binds (ps := ["self", "number"]) fun _ _ _ _ _ _ us hl => match us, hl with | [_, _], _ => rfl), .nil, O_Pour_way_down⟩
  have O_Pour_take := ok_Pour_take (P := l.prog) (w := w) (base := base) F18 T X5 X6 X9 X7
  have O_LastPour_front := ok_LastPour_front (P := l.prog) (w := w) (base := base) F19 T 
  have O_LastPour_goes_on := ok_LastPour_goes_on (P := l.prog) (w := w) (base := base) F20 T X3
  have X10 : SH.CalM l.prog w K mg base (L2N.CX l.prog w) _ A.LastPour "goes_on" [] _ := ⟨T.cl_LastPour, f20, _, _, _, ⟨a20_LastPour, i20, k20⟩, (F20.binds (ps := ["self", "one", "other"]) fun _ _ _ _ _ _ us hl => match us, hl with | [_, _, _], _ => rfl), .nil, O_LastPour_goes_on⟩
  have O_LastPour_meeting := ok_LastPour_meeting (P := l.prog) (w := w) (base := base) F21 T X10
  have X11 : SH.CalM l.prog w K mg base CX0 _ A.LastPour "front" [] _ := ⟨T.cl_LastPour, f19, _, _, _, ⟨a19_LastPour, i19, k19⟩, (F19.binds (ps := ["self", "number", "gone"]) fun _ _ _ _ _ _ us hl => match us, hl with | [_, _, _], _ => rfl), .nil, O_LastPour_front⟩
  have X12 : SH.CalM l.prog w K mg base (L2N.CX l.prog w) _ A.LastPour "meeting" [] _ := ⟨T.cl_LastPour, f21, _, _, _, ⟨a21_LastPour, i21, k21⟩, (F21.binds (ps := ["self", "one", "other"]) fun _ _ _ _ _ _ us hl => match us, hl with | [_, _, _], _ => rfl), .nil, O_LastPour_meeting⟩
  have O_LastPour_hold_all := ok_LastPour_hold_all (P := l.prog) (w := w) (base := base) F22 T X11 X12 X7 ⟨a22_LastPour, i22, k22⟩ (F22.binds (ps := ["self", "low", "high"]) fun _ _ _ _ _ _ us hl => match us, hl with | [_, _, _], _ => rfl)
  have X13 : SH.CalM l.prog w K mg base (L2N.CX l.prog w) _ A.LastPour "hold_all" [] _ := ⟨T.cl_LastPour, f22, _, _, _, ⟨a22_LastPour, i22, k22⟩, (F22.binds (ps := ["self", "low", "high"]) fun _ _ _ _ _ _ us hl => match us, hl with | [_, _, _], _ => rfl), .nil, O_LastPour_hold_all⟩
  have O_LastPour___init__ := ok_LastPour___init__ (P := l.prog) (w := w) (base := base) F23 T X13
  have O_LastPour_first := ok_LastPour_first (P := l.prog) (w := w) (base := base) F24 T 
  have O_LastPour_left := ok_LastPour_left (P := l.prog) (w := w) (base := base) F25 T 
  have O_LastPour_way_down := ok_LastPour_way_down (P := l.prog) (w := w) (base := base) F26 T X7
  have X14 : SH.CalM l.prog w K mg base CX0 _ A.LastPour "way_down" [] _ := ⟨T.cl_LastPour, f26, _, _, _, ⟨a26_LastPour, i26, k26⟩, (F26.binds (ps := ["self", "number"]) fun _ _ _ _ _ _ us hl => match us, hl with | [_, _], _ => rfl), .nil, O_LastPour_way_down⟩
  have O_LastPour_take := ok_LastPour_take (P := l.prog) (w := w) (base := base) F27 T X11 X12 X14 X7
  have O__law_cell_at := ok__law_cell_at (P := l.prog) (w := w) (base := base) F28 T 
  have O__law_stream := ok__law_stream (P := l.prog) (w := w) (base := base) F29 T 
  have X15 : SH.Cal l.prog w K mg base CX0 _ "_law_cell_at" [] _ := ⟨f28, _, _, _, PySem.W.mg_of X G a28, k28, (F28.binds (ps := ["_law_script", "_law_k"]) fun _ _ _ _ _ _ us hl => match us, hl with | [_, _], _ => rfl), .nil, O__law_cell_at⟩
  have X16 : SH.Cal l.prog w K mg base CX0 _ "_law_stream" [] _ := ⟨f29, _, _, _, PySem.W.mg_of X G a29, k29, (F29.binds (ps := ["_law_cell", "_law_many"]) fun _ _ _ _ _ _ us hl => match us, hl with | [_, _], _ => rfl), .nil, O__law_stream⟩
  have O__law_digits := ok__law_digits (P := l.prog) (w := w) (base := base) F30 T X15 X16
  have O__law_blocks := ok__law_blocks (P := l.prog) (w := w) (base := base) F31 T X16
  have O__law_nearly := ok__law_nearly (P := l.prog) (w := w) (base := base) F32 T X16
  have X17 : SH.Cal l.prog w K mg base CX0 _ "_law_blocks" [] _ := ⟨f31, _, _, _, PySem.W.mg_of X G a31, k31, (F31.binds (ps := ["_law_keys_here", "_law_cell"]) fun _ _ _ _ _ _ us hl => match us, hl with | [_, _], _ => rfl), .nil, O__law_blocks⟩
  have X18 : SH.Cal l.prog w K mg base CX0 _ "_law_digits" [] _ := ⟨f30, _, _, _, PySem.W.mg_of X G a30, k30, (F30.binds (ps := ["_law_script", "_law_k", "_law_base"]) fun _ _ _ _ _ _ us hl => match us, hl with | [_, _, _], _ => rfl), .nil, O__law_digits⟩
  have X19 : SH.Cal l.prog w K mg base CX0 _ "_law_nearly" [] _ := ⟨f32, _, _, _, PySem.W.mg_of X G a32, k32, (F32.binds (ps := ["_law_keys_here", "_law_cell"]) fun _ _ _ _ _ _ us hl => match us, hl with | [_, _], _ => rfl), .nil, O__law_nearly⟩
  have O__law_keys := ok__law_keys (P := l.prog) (w := w) (base := base) F33 T X17 X15 X18 X19 X16
  have O__law_whole := ok__law_whole (P := l.prog) (w := w) (base := base) F34 T 
  have O__law_dealt := ok__law_dealt (P := l.prog) (w := w) (base := base) F35 T X15 X18 X16
  have X20 : SH.CalC l.prog w K mg base (L2N.CX l.prog w) _ "LastPour" A.LastPour [] _ := ⟨f23, _, _, _, T.g_LastPour, ⟨mk_LastPour, a23_LastPour, i23, kc_LastPour⟩, (F23.binds (ps := ["self", "asker", "pieces"]) fun _ _ _ _ _ _ us hl => match us, hl with | [_, _, _], _ => rfl), .nil, O_LastPour___init__⟩
  have X21 : SH.CalC l.prog w K mg base (L2N.CX l.prog w) _ "Pour" A.Pour [] _ := ⟨f14, _, _, _, T.g_Pour, ⟨mk_Pour, a14_Pour, i14, kc_Pour⟩, (F14.binds (ps := ["self", "asker", "pieces"]) fun _ _ _ _ _ _ us hl => match us, hl with | [_, _, _], _ => rfl), .nil, O_Pour___init__⟩
  have O__law_made := ok__law_made (P := l.prog) (w := w) (base := base) F36 T X20 X21
  have X22 : SH.CalM l.prog w K mg base (L2N.CX l.prog w) _ A.LastPour "take" [] _ := ⟨T.cl_LastPour, f27, _, _, _, ⟨a27_LastPour, i27, k27⟩, (F27.binds (ps := ["self"]) fun _ _ _ _ _ _ us hl => match us, hl with | [_], _ => rfl), .nil, O_LastPour_take⟩
  have X23 : SH.CalM l.prog w K mg base (L2N.CX l.prog w) _ A.Pour "take" [] _ := ⟨T.cl_Pour, f18, _, _, _, ⟨a18_Pour, i18, k18⟩, (F18.binds (ps := ["self"]) fun _ _ _ _ _ _ us hl => match us, hl with | [_], _ => rfl), .nil, O_Pour_take⟩
  have O__law_taken := ok__law_taken (P := l.prog) (w := w) (base := base) F37 T X22 X23
  have X24 : SH.Cal l.prog w K mg base CX0 _ "_law_whole" [] _ := ⟨f34, _, _, _, PySem.W.mg_of X G a34, k34, (F34.binds (ps := ["_law_found"]) fun _ _ _ _ _ _ us hl => match us, hl with | [_], _ => rfl), .nil, O__law_whole⟩
  have O__law_refused := ok__law_refused (P := l.prog) (w := w) (base := base) F38 T X24
  have X25 : SH.CalM l.prog w K mg base CX0 _ A.Asker "widen" [] _ := ⟨T.cl_Asker, f6, _, _, _, ⟨a6_Asker, i6, k6⟩, (F6.binds (ps := ["self", "more"]) fun _ _ _ _ _ _ us hl => match us, hl with | [_, _], _ => rfl), .nil, O_Asker_widen⟩
  have X26 : SH.CalM l.prog w K mg base CX0 _ A.LastPour "first" [] _ := ⟨T.cl_LastPour, f24, _, _, _, ⟨a24_LastPour, i24, k24⟩, (F24.binds (ps := ["self"]) fun _ _ _ _ _ _ us hl => match us, hl with | [_], _ => rfl), .nil, O_LastPour_first⟩
  have X27 : SH.CalM l.prog w K mg base CX0 _ A.LastPour "left" [] _ := ⟨T.cl_LastPour, f25, _, _, _, ⟨a25_LastPour, i25, k25⟩, (F25.binds (ps := ["self"]) fun _ _ _ _ _ _ us hl => match us, hl with | [_], _ => rfl), .nil, O_LastPour_left⟩
  have X28 : SH.CalM l.prog w K mg base CX0 _ A.Pour "first" [] _ := ⟨T.cl_Pour, f15, _, _, _, ⟨a15_Pour, i15, k15⟩, (F15.binds (ps := ["self"]) fun _ _ _ _ _ _ us hl => match us, hl with | [_], _ => rfl), .nil, O_Pour_first⟩
  have X29 : SH.CalM l.prog w K mg base CX0 _ A.Pour "left" [] _ := ⟨T.cl_Pour, f16, _, _, _, ⟨a16_Pour, i16, k16⟩, (F16.binds (ps := ["self"]) fun _ _ _ _ _ _ us hl => match us, hl with | [_], _ => rfl), .nil, O_Pour_left⟩
  have X30 : SH.Cal l.prog w K mg base CX0 _ "_law_refused" [] _ := ⟨f38, _, _, _, PySem.W.mg_of X G a38, k38, (F38.binds (ps := ["_law_e", "_law_asker"]) fun _ _ _ _ _ _ us hl => match us, hl with | [_, _], _ => rfl), .nil, O__law_refused⟩
  have X31 : SH.Cal l.prog w K mg base CX0 _ "_law_taken" [] _ := ⟨f37, _, _, _, PySem.W.mg_of X G a37, k37, (F37.binds (ps := ["_law_pour"]) fun _ _ _ _ _ _ us hl => match us, hl with | [_], _ => rfl), .nil, O__law_taken⟩
  have O__law_step := ok__law_step (P := l.prog) (w := w) (base := base) F39 T X25 X26 X27 X28 X29 X30 X31 X24
  have X32 : SH.Cal l.prog w K mg base CX0 _ "_law_dealt" [] _ := ⟨f35, _, _, _, PySem.W.mg_of X G a35, k35, (F35.binds (ps := ["_law_keys_here", "_law_script"]) fun _ _ _ _ _ _ us hl => match us, hl with | [_, _], _ => rfl), .nil, O__law_dealt⟩
  have X33 : SH.Cal l.prog w K mg base CX0 _ "_law_keys" [] _ := ⟨f33, _, _, _, PySem.W.mg_of X G a33, k33, (F33.binds (ps := ["_law_script", "_law_most"]) fun _ _ _ _ _ _ us hl => match us, hl with | [_, _], _ => rfl), .nil, O__law_keys⟩
  have X34 : SH.Cal l.prog w K mg base CX0 _ "_law_made" [] _ := ⟨f36, _, _, _, PySem.W.mg_of X G a36, k36, (F36.binds (ps := ["_law_asker", "_law_pieces", "_law_last"]) fun _ _ _ _ _ _ us hl => match us, hl with | [_, _, _], _ => rfl), .nil, O__law_made⟩
  have X35 : SH.Cal l.prog w K mg base CX0 _ "_law_step" [] _ := ⟨f39, _, _, _, PySem.W.mg_of X G a39, k39, (F39.binds (ps := ["_law_pour", "_law_asker", "_law_log", "_law_due", "_law_asks", "_law_more"]) fun _ _ _ _ _ _ us hl => match us, hl with | [_, _, _, _, _, _], _ => rfl), .nil, O__law_step⟩
  have X36 : SH.Cal l.prog w K mg base CX0 _ "_law_teller" [] _ := ⟨f1, _, _, _, PySem.W.mg_of X G a1, k1, (.all fun us hl => match us, hl with | [_], _ => rfl), .nil, O__law_teller⟩
  have X37 : SH.CalC l.prog w K mg base CX0 _ "AskedRule" A.AskedRule [] _ := ⟨f3, _, _, _, T.g_AskedRule, ⟨mk_AskedRule, a3_AskedRule, i3, kc_AskedRule⟩, (F3.binds (ps := ["self", "teller"]) fun _ _ _ _ _ _ us hl => match us, hl with | [_, _], _ => rfl), .nil, O_AskedRule___init__⟩
  obtain ⟨dsX38, vdX38, bdX38⟩ := F8.binds1 (ps := ["self", "row", "rule", "most"]) 4 1 (by simp) rfl (fun _ _ _ _ _ _ _ us its hu hi => match us, its, hu, hi with | [_, _, _, _], [_], _, _ => ⟨_, rfl, rfl⟩)
  have X38 : SH.CalC l.prog w K mg base CX0 _ "Asker" A.Asker [] _ := ⟨f8, _, _, _, T.g_Asker, ⟨mk_Asker, a8_Asker, i8, kc_Asker⟩, bdX38, vdX38, O_Asker___init__⟩
  obtain ⟨dsX39, vdX39, bdX39⟩ := F8.binds1 (ps := ["self", "row", "rule", "most"]) 3 0 (by simp) rfl (fun _ _ _ _ _ _ _ us its hu hi => match us, its, hu, hi with | [_, _, _], [_], _, _ => ⟨_, rfl, rfl⟩)
  have X39 : SH.CalC l.prog w K mg base CX0 _ "Asker" A.Asker [.non] _ := ⟨f8, _, _, _, T.g_Asker, ⟨mk_Asker, a8_Asker, i8, kc_Asker⟩, bdX39, vdX39, O_Asker___init__⟩
  have O_law := ok_law (P := l.prog) (w := w) (base := base) F40 T X25 X27 X22 X29 X23 X15 X32 X33 X34 X35 X36 X24 X37 X38 X39
  exact O_law
theorem walk {l : PySem.W.OpenLaw} {q : Program} {loose : List Str} {XP : (Str → Option Value) → Heap → Prop} {YP : World → Heap → Prop} {d : DefRec} {K : Params → PySem.W.Frag} (hn : l.most = some 63) (hdf : d.params.defaults = [])
    (hY : ∀ (w : World) (h : Heap), YP w h → (K w.params).In h)
    (F : ∀ (w : World) (mg : Str → Option Value) (fa : Addr) (h : Heap), YP w h → (K w.params).In h → h.Ns mainGlobals mg → mg d.name = some (.ref fa) → LamX.LawAtS l w (K w.params) CX0 19 63 "_law_script" mg fa h) :
    PySem.W.WalkO q loose XP YP l.row.toRowW d [] (fun f vs => PySem.call f vs) :=
  LamX.walk_ofTs (n := 63) (k := 19) (x := "_law_script") (CX := fun _ => CX0) hn (by decide) hdf ⟨rfl, by decide, by decide⟩ hY F fun _ _ _ _ _ z => z
end Law

open PySem PySem.W PyProof.Rows
set_option maxRecDepth 100000 in
set_option maxHeartbeats 0 in
theorem PySem.Challenge.cw_sorthall_k67_whole_stopped_holds : PySem.Challenge.rw_sorthall_k67_whole_stopped.Holds := by
  w_on; o_law; k_head; (case hw => w_witness2)
  k_fill
  refine Law.walk (l := PySem.Challenge.rw_sorthall_k67_whole_stopped) rfl rfl (fun w h Y => PySem.W.km_in_of Y) ?F
  case F =>
    intro w mg fa h Y KX G hmg
    refine' Law.all_mk KX G hmg ?aC_Pour ?pg_Pour ?hd_Pour ?po_Pour ?sa_Pour ?mk_Pour ?kc_Pour ?na_Pour_asker ?na_Pour_pieces ?na_Pour_gone ?na_Pour_went_on ?aC_LastPour ?pg_LastPour ?hd_LastPour ?po_LastPour ?sa_LastPour ?mk_LastPour ?kc_LastPour ?na_LastPour_pieces ?na_LastPour_asker ?na_LastPour_gone ?na_LastPour_went_on ?aC_HallError ?xn_HallError ?kp_HallError ?sb_HallError ?ty_HallError ?e0_HallError ?e1_HallError ?e2_HallError ?e3_HallError ?e4_HallError ?e5_HallError ?e6_HallError ?e7_HallError ?aC_NoPlace ?aC_TooFar ?aC_Spent ?xL_Spent ?sa_Spent ?in_Spent ?tI_Spent ?na_Spent_asked ?kp_Spent ?sb_Spent ?ty_Spent ?e0_Spent ?e1_Spent ?e2_Spent ?e3_Spent ?e4_Spent ?e5_Spent ?e6_Spent ?e7_Spent ?aC_Asker ?pg_Asker ?hd_Asker ?po_Asker ?sa_Asker ?mk_Asker ?kc_Asker ?na_Asker_row ?na_Asker_rule ?na_Asker_most ?na_Asker_asked ?na_Asker_log ?aC_Rule ?pg_Rule ?hd_Rule ?po_Rule ?sa_Rule ?mk_Rule ?kc_Rule ?aC_AskedRule ?pg_AskedRule ?hd_AskedRule ?po_AskedRule ?sa_AskedRule ?mk_AskedRule ?kc_AskedRule ?na_AskedRule_teller ?a1 ?l1 ?lc1 ?lp1 ?hh1 ?np1 ?gp1 ?tp1 ?c1 ?k1 ?i2 ?l2 ?c2 ?k2 ?a3_AskedRule ?i3 ?l3 ?c3 ?k3 ?a4_AskedRule ?i4 ?l4 ?c4 ?k4 ?a5_Asker ?i5 ?l5 ?c5 ?k5 ?a6_Asker ?i6 ?l6 ?c6 ?k6 ?a7_Asker ?i7 ?l7 ?c7 ?k7 ?a8_Asker ?i8 ?l8 ?lt8 ?c8 ?k8 ?a9 ?l9 ?c9 ?k9 ?a10_Pour ?i10 ?l10 ?c10 ?k10 ?a11_Pour ?i11 ?l11 ?c11 ?k11 ?a12_Pour ?i12 ?l12 ?c12 ?k12 ?a13_Pour ?i13 ?l13 ?c13 ?k13 ?a14_Pour ?i14 ?l14 ?c14 ?k14 ?a15_Pour ?i15 ?l15 ?c15 ?k15 ?a16_Pour ?i16 ?l16 ?c16 ?k16 ?a17_Pour ?i17 ?l17 ?c17 ?k17 ?a18_Pour ?i18 ?l18 ?c18 ?k18 ?a19_LastPour ?i19 ?l19 ?c19 ?k19 ?a20_LastPour ?i20 ?l20 ?c20 ?k20 ?a21_LastPour ?i21 ?l21 ?c21 ?k21 ?a22_LastPour ?i22 ?l22 ?c22 ?k22 ?a23_LastPour ?i23 ?l23 ?c23 ?k23 ?a24_LastPour ?i24 ?l24 ?c24 ?k24 ?a25_LastPour ?i25 ?l25 ?c25 ?k25 ?a26_LastPour ?i26 ?l26 ?c26 ?k26 ?a27_LastPour ?i27 ?l27 ?c27 ?k27 ?a28 ?l28 ?c28 ?k28 ?a29 ?l29 ?c29 ?k29 ?a30 ?l30 ?c30 ?k30 ?a31 ?l31 ?c31 ?k31 ?a32 ?l32 ?c32 ?k32 ?a33 ?l33 ?c33 ?k33 ?a34 ?l34 ?c34 ?k34 ?a35 ?l35 ?c35 ?k35 ?a36 ?l36 ?c36 ?k36 ?a37 ?l37 ?c37 ?k37 ?a38 ?l38 ?c38 ?k38 ?a39 ?l39 ?c39 ?k39 ?a40 ?l40 ?c40 ?k40 ?z_ValueError ?z_range ?z_sorted ?z_len ?z_reversed ?z_list ?z_max ?z_min ?z_isinstance ?z_int ?z_sum ?z_bool ?z_enumerate ?xs_Spent_HallError ?xs_Spent_Spent ?kits_Spent_Spent ?kits_Spent_NoPlace ?kits_Spent_TooFar
    (case aC_Pour => k_is); (case pg_Pour => k_is); (case hd_Pour => k_is); (case po_Pour => k_is); (case sa_Pour => k_is); (case mk_Pour => k_is); (case kc_Pour => k_is); (case na_Pour_asker => k_is); (case na_Pour_pieces => k_is); (case na_Pour_gone => k_is); (case na_Pour_went_on => k_is); (case aC_LastPour => k_is); (case pg_LastPour => k_is); (case hd_LastPour => k_is); (case po_LastPour => k_is); (case sa_LastPour => k_is); (case mk_LastPour => k_is); (case kc_LastPour => k_is); (case na_LastPour_pieces => k_is); (case na_LastPour_asker => k_is); (case na_LastPour_gone => k_is); (case na_LastPour_went_on => k_is); (case aC_HallError => k_is); (case xn_HallError => (first | k_is | k_exc)); (case kp_HallError => k_is); (case sb_HallError => k_is); (case ty_HallError => k_is); (case e0_HallError => k_is); (case e1_HallError => k_is); (case e2_HallError => k_is); (case e3_HallError => k_is); (case e4_HallError => k_is); (case e5_HallError => k_is); (case e6_HallError => k_is); (case e7_HallError => k_is); (case aC_NoPlace => k_is); (case aC_TooFar => k_is); (case aC_Spent => k_is); (case xL_Spent => k_is); (case sa_Spent => k_is); (case in_Spent => k_is); (case tI_Spent => k_is); (case na_Spent_asked => k_is); (case kp_Spent => k_is); (case sb_Spent => k_is); (case ty_Spent => k_is); (case e0_Spent => k_is); (case e1_Spent => k_is); (case e2_Spent => k_is); (case e3_Spent => k_is); (case e4_Spent => k_is); (case e5_Spent => k_is); (case e6_Spent => k_is); (case e7_Spent => k_is); (case aC_Asker => k_is); (case pg_Asker => k_is); (case hd_Asker => k_is); (case po_Asker => k_is); (case sa_Asker => k_is); (case mk_Asker => k_is); (case kc_Asker => k_is); (case na_Asker_row => k_is); (case na_Asker_rule => k_is); (case na_Asker_most => k_is); (case na_Asker_asked => k_is); (case na_Asker_log => k_is); (case aC_Rule => k_is); (case pg_Rule => k_is); (case hd_Rule => k_is); (case po_Rule => k_is); (case sa_Rule => k_is); (case mk_Rule => k_is); (case kc_Rule => k_is); (case aC_AskedRule => k_is); (case pg_AskedRule => k_is); (case hd_AskedRule => k_is); (case po_AskedRule => k_is); (case sa_AskedRule => k_is); (case mk_AskedRule => k_is); (case kc_AskedRule => k_is); (case na_AskedRule_teller => k_is); (case a1 => k_is); (case l1 => k_is); (case lc1 => k_is); (case lp1 => rfl); (case hh1 => kernel_rfl); (case np1 => kernel_rfl); (case gp1 => decide); (case tp1 => exact PySem.W.km_tabs_of Y _ (by simp)); (case c1 => k_is); (case k1 => k_is); (case i2 => k_is); (case l2 => k_is); (case c2 => k_is); (case k2 => k_is); (case a3_AskedRule => k_is); (case i3 => k_is); (case l3 => k_is); (case c3 => k_is); (case k3 => k_is); (case a4_AskedRule => k_is); (case i4 => k_is); (case l4 => k_is); (case c4 => k_is); (case k4 => k_is); (case a5_Asker => k_is); (case i5 => k_is); (case l5 => k_is); (case c5 => k_is); (case k5 => k_is); (case a6_Asker => k_is); (case i6 => k_is); (case l6 => k_is); (case c6 => k_is); (case k6 => k_is); (case a7_Asker => k_is); (case i7 => k_is); (case l7 => k_is); (case c7 => k_is); (case k7 => k_is); (case a8_Asker => k_is); (case i8 => k_is); (case l8 => k_is); (case lt8 => k_is); (case c8 => k_is); (case k8 => k_is); (case a9 => k_is); (case l9 => k_is); (case c9 => k_is); (case k9 => k_is); (case a10_Pour => k_is); (case i10 => k_is); (case l10 => k_is); (case c10 => k_is); (case k10 => k_is); (case a11_Pour => k_is); (case i11 => k_is); (case l11 => k_is); (case c11 => k_is); (case k11 => k_is); (case a12_Pour => k_is); (case i12 => k_is); (case l12 => k_is); (case c12 => k_is); (case k12 => k_is); (case a13_Pour => k_is); (case i13 => k_is); (case l13 => k_is); (case c13 => k_is); (case k13 => k_is); (case a14_Pour => k_is); (case i14 => k_is); (case l14 => k_is); (case c14 => k_is); (case k14 => k_is); (case a15_Pour => k_is); (case i15 => k_is); (case l15 => k_is); (case c15 => k_is); (case k15 => k_is); (case a16_Pour => k_is); (case i16 => k_is); (case l16 => k_is); (case c16 => k_is); (case k16 => k_is); (case a17_Pour => k_is); (case i17 => k_is); (case l17 => k_is); (case c17 => k_is); (case k17 => k_is); (case a18_Pour => k_is); (case i18 => k_is); (case l18 => k_is); (case c18 => k_is); (case k18 => k_is); (case a19_LastPour => k_is); (case i19 => k_is); (case l19 => k_is); (case c19 => k_is); (case k19 => k_is); (case a20_LastPour => k_is); (case i20 => k_is); (case l20 => k_is); (case c20 => k_is); (case k20 => k_is); (case a21_LastPour => k_is); (case i21 => k_is); (case l21 => k_is); (case c21 => k_is); (case k21 => k_is); (case a22_LastPour => k_is); (case i22 => k_is); (case l22 => k_is); (case c22 => k_is); (case k22 => k_is); (case a23_LastPour => k_is); (case i23 => k_is); (case l23 => k_is); (case c23 => k_is); (case k23 => k_is); (case a24_LastPour => k_is); (case i24 => k_is); (case l24 => k_is); (case c24 => k_is); (case k24 => k_is); (case a25_LastPour => k_is); (case i25 => k_is); (case l25 => k_is); (case c25 => k_is); (case k25 => k_is); (case a26_LastPour => k_is); (case i26 => k_is); (case l26 => k_is); (case c26 => k_is); (case k26 => k_is); (case a27_LastPour => k_is); (case i27 => k_is); (case l27 => k_is); (case c27 => k_is); (case k27 => k_is); (case a28 => k_is); (case l28 => k_is); (case c28 => k_is); (case k28 => k_is); (case a29 => k_is); (case l29 => k_is); (case c29 => k_is); (case k29 => k_is); (case a30 => k_is); (case l30 => k_is); (case c30 => k_is); (case k30 => k_is); (case a31 => k_is); (case l31 => k_is); (case c31 => k_is); (case k31 => k_is); (case a32 => k_is); (case l32 => k_is); (case c32 => k_is); (case k32 => k_is); (case a33 => k_is); (case l33 => k_is); (case c33 => k_is); (case k33 => k_is); (case a34 => k_is); (case l34 => k_is); (case c34 => k_is); (case k34 => k_is); (case a35 => k_is); (case l35 => k_is); (case c35 => k_is); (case k35 => k_is); (case a36 => k_is); (case l36 => k_is); (case c36 => k_is); (case k36 => k_is); (case a37 => k_is); (case l37 => k_is); (case c37 => k_is); (case k37 => k_is); (case a38 => k_is); (case l38 => k_is); (case c38 => k_is); (case k38 => k_is); (case a39 => k_is); (case l39 => k_is); (case c39 => k_is); (case k39 => k_is); (case a40 => k_is); (case l40 => k_is); (case c40 => k_is); (case k40 => k_is); (case z_ValueError => k_is); (case z_range => k_is); (case z_sorted => k_is); (case z_len => k_is); (case z_reversed => k_is); (case z_list => k_is); (case z_max => k_is); (case z_min => k_is); (case z_isinstance => k_is); (case z_int => k_is); (case z_sum => k_is); (case z_bool => k_is); (case z_enumerate => k_is); (case xs_Spent_HallError => (first | rfl | k_is)); (case xs_Spent_Spent => (first | rfl | k_is)); (case kits_Spent_Spent => (first | k_is | kernel_rfl)); (case kits_Spent_NoPlace => (first | k_is | kernel_rfl)); (case kits_Spent_TooFar => (first | k_is | kernel_rfl))
#print axioms PySem.Challenge.cw_sorthall_k67_whole_stopped_holds

