import PyProof.Rows.All
import Wide.All
import OpenK.AllK
import Wide.FinOn
import HandS.ForMost
import HandS.ForExc
import HandS.Wide
import HandS.WideBits
import HandS.IsInst
import HandS.Conv
import HandS.Walk
import HandS.SortInts
import HandS.SortRule
import HandS.Nested
import HandS.More
import HandS.Defaults
import HandS.EndTab
import HandS.Rev
import HandS.RevTup
import HandS.SortKw
import KE.DataMinMax
import HandS.Dict
import HandS.Style
import KE.DataCmp
import KE.KDictCopyH
import HandS.MakeKw
import HandS.CallLocal
import HandS.SetFor
import PyProof.NeKinds
import PySem.Challenge.RW_sorthall_k13_tables_votes_chains
set_option Elab.async false
set_option linter.all false
set_option maxRecDepth 100000
set_option maxHeartbeats 4000000
/-! SHA: steps of the heap, rules that look at the values themselves, readings one by one -/
namespace SH
open PySem PySem.Spec PyProof.Rows L2

/-! ### what a heap becomes -/
/-- what never changes -/
def Fix : HO → Prop
  | .tup _ => True
  | .ext _ => True
  | .frz _ _ => True
  | _ => False
/-- H' has all that H has, but what stands at M may be another (no tuple, no function, no cell) -/
structure Stp (M : List Addr) (H H' : Hp) : Prop where
  same : ∀ b o, H b = some o → (b ∉ M ∨ Fix o) → H' b = some o
  dom : ∀ b, H' b = none → H b = none
theorem Stp.refl (M : List Addr) (H : Hp) : Stp M H H := ⟨fun _ _ h _ => h, fun _ h => h⟩
theorem Stp.mono {M M' : List Addr} {H H' : Hp} (s : Stp M H H') (h : ∀ b ∈ M, b ∈ M') : Stp M' H H' := ⟨fun b o e n => s.same b o e (n.imp (fun n z => n (h b z)) id), s.dom⟩
theorem Stp.trans {M : List Addr} {H H1 H2 : Hp} (a : Stp M H H1) (b : Stp M H1 H2) : Stp M H H2 := ⟨fun c o e n => b.same c o (a.same c o e n) n, fun c h => a.dom c (b.dom c h)⟩
/-- what the second changes is new, or the first one's -/
theorem Stp.then {M M' : List Addr} {H H1 H2 : Hp} (a : Stp M H H1) (b : Stp M' H1 H2) (h : ∀ m ∈ M', m ∈ M ∨ H m = none) : Stp M H H2 :=
  ⟨fun c o e n => b.same c o (a.same c o e n) (n.imp (fun n z => (h c z).elim n fun q => (by rw [q] at e; cases e)) id), fun c h => a.dom c (b.dom c h)⟩
theorem Stp.then0 {M : List Addr} {H H1 H2 : Hp} (a : Stp M H H1) (b : Stp [] H1 H2) : Stp M H H2 := a.then b (by simp)
theorem Stp.new {M : List Addr} {H H1 : Hp} {p : Addr} {o : HO} (a : Stp M H H1) (h : H1 p = none) : Stp M H (upd H1 p o) :=
  ⟨fun c u e n => by have q := a.same c u e n; rw [upd_ne (ne_of_none q h)]; exact q, fun c q => a.dom c (by
    by_cases z : c = p
    · subst z; exact h
    · rw [upd_ne z] at q; exact q)⟩
theorem Stp.putM {M : List Addr} {H H1 : Hp} {p : Addr} {o o1 : HO} (a : Stp M H H1) (h : p ∈ M) (h1 : H1 p = some o1) (nf : ¬ Fix o1) : Stp M H (upd H1 p o) :=
  ⟨fun c u e n => by
    by_cases z : c = p
    · subst z
      rcases n with n | n
      · exact (n h).elim
      · have q := a.same c u e (.inr n)
        rw [h1] at q; cases q; exact (nf n).elim
    · rw [upd_ne z]; exact a.same c u e n, fun c q => a.dom c (by
    by_cases z : c = p
    · subst z; rw [upd_same] at q; cases q
    · rw [upd_ne z] at q; exact q)⟩
theorem Stp.putN {M : List Addr} {H H1 : Hp} {p : Addr} {o : HO} (a : Stp M H H1) (h : H p = none) : Stp M H (upd H1 p o) :=
  ⟨fun c u e n => by
    rw [upd_ne (fun z => by subst z; rw [h] at e; cases e)]
    exact a.same c u e n, fun c q => a.dom c (by
    by_cases z : c = p
    · subst z; rw [upd_same] at q; cases q
    · rw [upd_ne z] at q; exact q)⟩
theorem Stp.free {M : List Addr} {H H' : Hp} {p : Addr} (s : Stp M H H') (h : H' p = none) : H p = none := s.dom p h
theorem Stp.keep {M : List Addr} {H H' : Hp} {p : Addr} {o : HO} (s : Stp M H H') (h : H p = some o) (n : p ∉ M) : H' p = some o := s.same p o h (.inl n)
theorem Stp.keep0 {H H' : Hp} {p : Addr} {o : HO} (s : Stp [] H H') (h : H p = some o) : H' p = some o := s.same p o h (.inl (by simp))
theorem Stp.fix {M : List Addr} {H H' : Hp} {p : Addr} {o : HO} (s : Stp M H H') (h : H p = some o) (n : Fix o) : H' p = some o := s.same p o h (.inr n)
theorem Stp.tup {M : List Addr} {H H' : Hp} {p : Addr} {xs : List V} (s : Stp M H H') (h : H p = some (.tup xs)) : H' p = some (.tup xs) := s.fix h True.intro
theorem Stp.keep1 {m : Addr} {H H' : Hp} {p : Addr} {o : HO} (s : Stp [m] H H') (h : H p = some o) (n : p ≠ m) : H' p = some o := s.same p o h (.inl (by simpa using n))
theorem Stp.rd {M : List Addr} {H H' : Hp} {a : Addr} {u : HO} (s : Stp M H H') (h : Rd H a u) (n : a ∉ M) : Rd H' a u := by
  rcases h with h | ⟨o, h⟩
  · exact .inl (s.same _ _ h (.inl n))
  · exact .inr ⟨o, s.same _ _ h (.inr True.intro)⟩
theorem Stp.sql {K : PySem.W.Frag} {M : List Addr} {H H' : Hp} {a : Addr} {xs : List V} (s : Stp M H H') (h : SqL K H a xs) (n : a ∉ M) : SqL K H' a xs := by
  rcases h with h | h
  · exact .inl (s.rd h n)
  · exact .inr h
theorem Stp.sqt {K : PySem.W.Frag} {M : List Addr} {H H' : Hp} {a : Addr} {xs : List V} (s : Stp M H H') (h : SqT K H a xs) (n : a ∉ M) : SqT K H' a xs := by
  rcases h with h | h
  · exact .inl (s.rd h n)
  · exact .inr h
theorem Stp.sqtM {K : PySem.W.Frag} {M : List Addr} {H H' : Hp} {a : Addr} {xs : List V} (s : Stp M H H') (h : SqT K H a xs) : SqT K H' a xs := by
  rcases h with (h | ⟨o, h⟩) | h
  · exact .inl (.inl (s.fix h True.intro))
  · exact .inl (.inr ⟨o, s.fix h True.intro⟩)
  · exact .inr h
theorem Stp.sql1 {K : PySem.W.Frag} {m : Addr} {H H' : Hp} {a : Addr} {xs : List V} (s : Stp [m] H H') (h : SqL K H a xs) (n : a ≠ m) : SqL K H' a xs := s.sql h (by simpa using n)
theorem Stp.sql0 {K : PySem.W.Frag} {H H' : Hp} {a : Addr} {xs : List V} (s : Stp [] H H') (h : SqL K H a xs) : SqL K H' a xs := s.sql h (by simp)
theorem Stp.sqt0 {K : PySem.W.Frag} {H H' : Hp} {a : Addr} {xs : List V} (s : Stp [] H H') (h : SqT K H a xs) : SqT K H' a xs := s.sqt h (by simp)
theorem Stp.not {M : List Addr} {H H' : Hp} {p : Addr} (s : Stp M H H') (h : H' p = none) (hm : ∀ m ∈ M, H m ≠ none) : p ∉ M := fun z => hm p z (s.dom p h)
theorem upd_old {H : Hp} {a p : Addr} {o u : HO} (h : H a = some o) (hp : H p = none) : upd H p u a = some o := by rw [upd_ne (ne_of_none h hp)]; exact h
theorem upd_far {H : Hp} {a p : Addr} {o : Option HO} {u : HO} (n : a ≠ p) (h : H a = o) : upd H p u a = o := by rw [upd_ne n]; exact h
theorem upd_free {H : Hp} {a p : Addr} {u : HO} (h : upd H p u a = none) : H a = none ∧ a ≠ p := by
  by_cases z : a = p
  · subst z; rw [upd_same] at h; cases h
  · rw [upd_ne z] at h; exact ⟨h, z⟩
theorem sql_upd {K : PySem.W.Frag} {H : Hp} {a p : Addr} {xs : List V} {u : HO} (h : SqL K H a xs) (hp : H p = none) : SqL K (upd H p u) a xs := (Stp.refl [] H |>.new hp).sql h (by simp)
theorem sqt_upd {K : PySem.W.Frag} {H : Hp} {a p : Addr} {xs : List V} {u : HO} (h : SqT K H a xs) (hp : H p = none) : SqT K (upd H p u) a xs := (Stp.refl [] H |>.new hp).sqt h (by simp)
theorem sql_far {K : PySem.W.Frag} {H : Hp} {a p : Addr} {xs : List V} {u : HO} (h : SqL K H a xs) (n : a ≠ p) : SqL K (upd H p u) a xs := by
  rcases h with (h | ⟨o, h⟩) | h
  · exact .inl (.inl (upd_far n h))
  · exact .inl (.inr ⟨o, upd_far n h⟩)
  · exact .inr h
theorem sqt_far {K : PySem.W.Frag} {H : Hp} {a p : Addr} {xs : List V} {u : HO} (h : SqT K H a xs) (n : a ≠ p) : SqT K (upd H p u) a xs := by
  rcases h with (h | ⟨o, h⟩) | h
  · exact .inl (.inl (upd_far n h))
  · exact .inl (.inr ⟨o, upd_far n h⟩)
  · exact .inr h

/-! ### the slots -/
theorem set_z {x y : Option V} {xs : L2.St} : (x :: xs).set 0 y = y :: xs := rfl
theorem set_s {x y : Option V} {xs ys : L2.St} {n : Nat} (h : xs.set n y = ys) : (x :: xs).set (n + 1) y = x :: ys := by subst h; rfl
theorem get_z {x : V} {xs : L2.St} : (some x :: xs)[0]? = some (some x) := rfl
theorem get_s {x : Option V} {xs : L2.St} {n : Nat} {v : V} (h : xs[n]? = some (some v)) : (x :: xs)[n + 1]? = some (some v) := h

/-! ### two-place operations by the values -/
/-- the ways of + -/
def aAdd (K : PySem.W.Frag) : R2 := fun x y H Q => match x, y with
  | .int i, .int j => Q (.int (i + j)) H
  | .str a, .str b => a.length + b.length ≤ sizeLine ∧ Q (.str (a ++ b)) H
  | .ref a, .ref b => (∃ xs ys, H a = some (.lst xs) ∧ H b = some (.lst ys) ∧ xs.length + ys.length ≤ sizeLine ∧ ∀ p, H p = none → Q (.ref p) (upd H p (.lst (xs ++ ys)))) ∨ rCatT K (.ref a) (.ref b) H Q
  | _, _ => False
def aSub : R2 := fun x y H Q => match x, y with
  | .int i, .int j => Q (.int (i - j)) H
  | _, _ => False
def aMul : R2 := fun x y H Q => match x, y with
  | .int i, .int j => IntMulOk i j ∧ Q (.int (i * j)) H
  | .str a, .int k => PySem.MulOk a k ∧ Q (.str (PySem.Txt.mul a k)) H
  | .ref a, .int k => ∃ xs, H a = some (.lst xs) ∧ -(2 ^ 63) ≤ k ∧ k < 2 ^ 63 ∧ xs.length * k.toNat ≤ sizeLine ∧ ∀ p, H p = none → Q (.ref p) (upd H p (.lst ((List.replicate k.toNat xs).flatten)))
  | _, _ => False
def aDiv : R2 := fun x y H Q => match x, y with
  | .int i, .int j => 0 < j ∧ Builtin.divisionGoesByPylong i j = false ∧ Q (.int (i / j)) H
  | _, _ => False
def aMod : R2 := fun x y H Q => match x, y with
  | .int i, .int j => 0 < j ∧ Q (.int (i % j)) H
  | _, _ => False
def aPow : R2 := fun x y H Q => match x, y with
  | .int i, .int j => CPow i j ∧ Q (.int (i ^ j.toNat)) H
  | _, _ => False
def aShl : R2 := fun x y H Q => match x, y with
  | .int i, .int j => CShl i j ∧ Q (.int (i * 2 ^ j.toNat)) H
  | _, _ => False
def aShr : R2 := fun x y H Q => match x, y with
  | .int i, .int j => 0 ≤ j ∧ Q (.int (i / 2 ^ j.toNat)) H
  | _, _ => False
def aAnd : R2 := fun x y H Q => match x, y with
  | .int i, .int j => Q (.int (Builtin.bitAnd i j)) H
  | _, _ => False
def aLt (K : PySem.W.Frag) : R2 := fun x y H Q => match x, y with
  | .int i, .int j => Q (.bl (decide (i < j))) H
  | .str i, .str j => Q (.bl (decide (i.cps.toList < j.cps.toList))) H
  | .ref a, .ref b => rLtT K (.ref a) (.ref b) H Q
  | _, _ => False
def aLe : R2 := fun x y H Q => match x, y with
  | .int i, .int j => Q (.bl (decide (i ≤ j))) H
  | _, _ => False
def aGt : R2 := fun x y H Q => match x, y with
  | .int i, .int j => Q (.bl (decide (j < i))) H
  | _, _ => False
def aGe : R2 := fun x y H Q => match x, y with
  | .int i, .int j => Q (.bl (decide (j ≤ i))) H
  | _, _ => False
def aEq (K : PySem.W.Frag) : R2 := fun x y H Q => (scal x y = true ∧ Q (.bl (decide (x = y))) H) ∨ rEqD K x y H Q
def aNe (K : PySem.W.Frag) : R2 := fun x y H Q => (scal x y = true ∧ Q (.bl (!decide (x = y))) H) ∨ rNeD K x y H Q
def aIsN : R2 := fun x y H Q => y = .non ∧ Q (.bl (decide (x = .non))) H
def aNotN : R2 := fun x y H Q => y = .non ∧ Q (.bl (!decide (x = .non))) H

section
variable {X : Cx}
theorem oAdd : OpR X (binaryOp .Add) (aAdd X.K) := by
  intro pins s σ H x y v u Q I rx ry h
  cases x <;> cases y <;> first | exact False.elim h | skip
  · exact op_add pins s σ H _ _ v u Q I rx ry ⟨_, _, rfl, rfl, h⟩
  · exact op_add_str pins s σ H _ _ v u Q I rx ry ⟨_, _, rfl, rfl, h.1, h.2⟩
  · rcases h with ⟨xs, ys, h1, h2, h3, h4⟩ | h
    · exact op_cat pins s σ H _ _ v u Q I rx ry ⟨_, _, xs, ys, rfl, rfl, h1, h2, h3, h4⟩
    · exact op_catT pins s σ H _ _ v u Q I rx ry h
theorem oSub : OpR X (binaryOp .Sub) aSub := by
  intro pins s σ H x y v u Q I rx ry h
  cases x <;> cases y <;> first | exact False.elim h | skip
  exact op_sub pins s σ H _ _ v u Q I rx ry ⟨_, _, rfl, rfl, h⟩
theorem oMul : OpR X (binaryOp .Mult) aMul := by
  intro pins s σ H x y v u Q I rx ry h
  cases x <;> cases y <;> first | exact False.elim h | skip
  · obtain ⟨t, rfl⟩ := rx
    obtain ⟨t', rfl⟩ := ry
    exact mul_int ⟨.int _, H, I.tok _, ⟨_, rfl⟩, h.2⟩ h.1
  · obtain ⟨t, rfl⟩ := rx
    obtain ⟨t', rfl⟩ := ry
    exact PySem.SB.mul h.1 fun t' k => ⟨.str _, H, I.tok _, ⟨_, rfl⟩, h.2⟩
  · obtain ⟨xs, h1, h2, h3, h4, h5⟩ := h
    exact op_rep pins s σ H _ _ v u Q I rx ry ⟨_, _, xs, rfl, rfl, h1, h2, h3, h4, h5⟩
theorem oDiv : OpR X (binaryOp .FloorDiv) aDiv := by
  intro pins s σ H x y v u Q I rx ry h
  cases x <;> cases y <;> first | exact False.elim h | skip
  obtain ⟨t, rfl⟩ := rx
  obtain ⟨t', rfl⟩ := ry
  obtain ⟨h0, h1, q⟩ := h
  exact floordiv_int (by omega) (by rw [Int.fdiv_eq_ediv_of_nonneg _ (by omega)]; exact ⟨.int _, H, I.tok _, ⟨_, rfl⟩, q⟩) (.inl h1)
theorem oMod : OpR X (binaryOp .Mod) aMod := by
  intro pins s σ H x y v u Q I rx ry h
  cases x <;> cases y <;> first | exact False.elim h | skip
  exact op_mod pins s σ H _ _ v u Q I rx ry ⟨_, _, rfl, rfl, h⟩
theorem oPow : OpR X (binaryOp .Pow) aPow := by
  intro pins s σ H x y v u Q I rx ry h
  cases x <;> cases y <;> first | exact False.elim h | skip
  exact op_pow pins s σ H _ _ v u Q I rx ry ⟨_, _, rfl, rfl, h⟩
theorem oShl : OpR X (binaryOp .LShift) aShl := by
  intro pins s σ H x y v u Q I rx ry h
  cases x <;> cases y <;> first | exact False.elim h | skip
  exact op_shlW pins s σ H _ _ v u Q I rx ry ⟨_, _, rfl, rfl, h⟩
theorem oShr : OpR X (binaryOp .RShift) aShr := by
  intro pins s σ H x y v u Q I rx ry h
  cases x <;> cases y <;> first | exact False.elim h | skip
  exact op_shr pins s σ H _ _ v u Q I rx ry ⟨_, _, rfl, rfl, h⟩
theorem oAnd : OpR X (binaryOp .BitAnd) aAnd := by
  intro pins s σ H x y v u Q I rx ry h
  cases x <;> cases y <;> first | exact False.elim h | skip
  exact op_and pins s σ H _ _ v u Q I rx ry ⟨_, _, rfl, rfl, h⟩
theorem oLt (hu : X.A.units < cLine) : OpR X (compareOp .Lt) (aLt X.K) := by
  intro pins s σ H x y v u Q I rx ry h
  cases x <;> cases y <;> first | exact False.elim h | skip
  · exact op_lt pins s σ H _ _ v u Q I rx ry ⟨_, _, rfl, rfl, h⟩
  · exact op_lt_str pins s σ H _ _ v u Q I rx ry ⟨_, _, rfl, rfl, h⟩
  · exact op_ltT hu pins s σ H _ _ v u Q I rx ry h
theorem oLe : OpR X (compareOp .LtE) aLe := by
  intro pins s σ H x y v u Q I rx ry h
  cases x <;> cases y <;> first | exact False.elim h | skip
  exact op_le pins s σ H _ _ v u Q I rx ry ⟨_, _, rfl, rfl, h⟩
theorem oGt : OpR X (compareOp .Gt) aGt := by
  intro pins s σ H x y v u Q I rx ry h
  cases x <;> cases y <;> first | exact False.elim h | skip
  exact op_gt pins s σ H _ _ v u Q I rx ry ⟨_, _, rfl, rfl, h⟩
theorem oGe : OpR X (compareOp .GtE) aGe := by
  intro pins s σ H x y v u Q I rx ry h
  cases x <;> cases y <;> first | exact False.elim h | skip
  exact op_ge pins s σ H _ _ v u Q I rx ry ⟨_, _, rfl, rfl, h⟩
theorem oEq (hu : X.A.units + 64 < cLine) : OpR X (compareOp .Eq) (aEq X.K) := op_eq.or (op_eqD hu)
theorem oNe (hu : X.A.units + 64 < cLine) : OpR X (compareOp .NotEq) (aNe X.K) := op_ne.or (op_neD hu)
theorem oIsN : OpR X (compareOp .Is) aIsN := op_isN
theorem oNotN : OpR X (compareOp .IsNot) aNotN := op_notN
theorem ipAdd : PIp X .Add (fun x y H Q => match x, y with
  | .int i, .int j => Q (.int (i + j)) H
  | _, _ => False) := by
  intro pins s σ H x y v u Q I rx ry h
  cases x <;> cases y <;> first | exact False.elim h | skip
  exact ip_add pins s σ H _ _ v u Q I rx ry ⟨_, _, rfl, rfl, h⟩
theorem ipSub : PIp X .Sub (fun x y H Q => match x, y with
  | .int i, .int j => Q (.int (i - j)) H
  | _, _ => False) := by
  intro pins s σ H x y v u Q I rx ry h
  cases x <;> cases y <;> first | exact False.elim h | skip
  exact ip_sub pins s σ H _ _ v u Q I rx ry ⟨_, _, rfl, rfl, h⟩
end
end SH

set_option Elab.async false
set_option linter.all false
set_option maxRecDepth 100000
set_option maxHeartbeats 4000000
/-! SHB: readings, one lemma a word -/
namespace SH
open PySem PySem.Spec PyProof.Rows L2

section
variable {K : PySem.W.Frag} {D : Ends} {σ σ' : L2.St} {H : Hp} {Q : VK} {QA : List V → Hp → Prop} {QT : Bool → Hp → Prop} {QO : Option Int → Hp → Prop} {QG : L2.St → Hp → Prop} {i j : Nat} {v x y : V} {vs : List V} {ta tb tc te : TE} {t u tt : TT} {tr as : TA} {t1 t2 : TS} {g : TG} {gs : TGs} {r r' : R2} {b : Bool} {A B : Prop}

/-! the start -/
theorem st_c {x : Str} {N : List Str} {v : V} {vs : List V} {τ : L2.St} (h : L2.start N vs = τ) : L2.start (x :: N) (v :: vs) = some v :: τ := by
  rw [← h]; show _ :: (_ ++ List.replicate (N.length + 1 - (vs.length + 1)) none) = _; rw [Nat.add_sub_add_right]; rfl
theorem st_n {x : Str} {N : List Str} {τ : L2.St} (h : L2.start N [] = τ) : L2.start (x :: N) [] = none :: τ := by rw [← h]; rfl
theorem st_z : L2.start [] [] = [] := rfl
theorem r_start {N : List Str} {t : TS} (e : L2.start N vs = σ) (h : t D σ H) : t D (L2.start N vs) H := by rw [e]; exact h

theorem wp_z {f : Str × Nat → Nat} : wipe σ (List.map f []) = σ := rfl
theorem wp_s {a : Str} {n : Nat} {l : List (Str × Nat)} {τ τ' : L2.St} (h : wipe σ (l.map (fun x => x.2)) = τ) (e : τ.set n none = τ') : wipe σ (((a, n) :: l).map (fun x => x.2)) = τ' := by
  show (wipe σ (l.map (fun x => x.2))).set n none = τ'
  rw [h, e]
theorem r_gnw {ws : List Nat} {τ : L2.St} (e : wipe σ ws = τ) (h : gName i v τ H QG) : gName i v (wipe σ ws) H QG := by rw [e]; exact h
theorem r_gtw {ws : List Nat} {n : Nat} {τ : L2.St} (e : wipe σ ws = τ) (h : gTup K n gs v τ H QG) : gTup K n gs v (wipe σ ws) H QG := by rw [e]; exact h
theorem r_wp {ws : List Nat} {τ : L2.St} (e : wipe σ ws = wipe τ ws) (h : A) : wipe σ ws = wipe τ ws ∧ A := ⟨e, h⟩

/-! statements -/
theorem r_seq (h : t1 { D with nx := t2 D } σ H) : tSeq t1 t2 D σ H := h
theorem r_next (h : D.nx σ H) : tNext D σ H := h
theorem r_nx (e : σ.set i (some v) = σ') (h : D.nx σ' H) : D.nx (σ.set i (some v)) H := by rw [e]; exact h
theorem r_asg (h : te σ H fun x H1 => g x σ H1 D.nx) : tAsg te g D σ H := h
theorem r_gname (e : σ.set i (some v) = σ') (h : QG σ' H) : gName i v σ H QG := by subst e; exact h
theorem r_aug {rd : TIp} (hx : σ[i]? = some (some x)) (h : te σ H fun y H1 => rd x y H1 fun z H2 => D.nx (σ.set i (some z)) H2) : tAug i te rd D σ H := ⟨x, hx, h⟩
theorem r_drop (h : te σ H fun _ H1 => D.nx σ H1) : tDrop te D σ H := h
theorem r_ret (h : te σ H D.rt) : tRet te D σ H := h
theorem r_retN (h : D.rt .non H) : tRetN D σ H := h
theorem r_ifS (h : tt σ H fun b H1 => if b = true then t1 D σ H1 else t2 D σ H1) : tIfS tt t1 t2 D σ H := h
theorem r_brk (h : D.bk σ H) : tBreak D σ H := h
theorem r_cont (h : D.ct σ H) : tCont D σ H := h
theorem r_gtup {n : Nat} {a : Addr} {xs : List V} (hq : SqT K H a xs) (hl : xs.length = n) (h : gs xs σ H QG) : gTup K n gs (.ref a) σ H QG := ⟨a, xs, rfl, hq, hl, h⟩
theorem r_glst {n : Nat} {a : Addr} {xs : List V} (hq : SqL K H a xs) (hl : xs.length = n) (h : gs xs σ H QG) : gLst K n gs (.ref a) σ H QG := ⟨a, xs, rfl, hq, hl, h⟩
theorem r_gcons (h : g v σ H fun σ' H' => gs vs σ' H' QG) : gCons g gs (v :: vs) σ H QG := ⟨v, vs, rfl, h⟩
theorem r_gnil (h : QG σ H) : gNil [] σ H QG := ⟨rfl, h⟩
theorem r_gsub {to ti : TE} {ts : TSet} (h : to σ H fun o H1 => ti σ H1 fun i H2 => ts o i v H2 fun H3 => QG σ H3) : gSub to ti ts v σ H QG := h

/-! expressions -/
theorem r_var (h : σ[i]? = some (some v)) (k : Q v H) : tVar i σ H Q := ⟨v, h, k⟩
theorem r_c (k : Q v H) : tC v σ H Q := k
theorem r_op (h : ta σ H fun x H1 => tb σ H1 fun y H2 => r x y H2 Q) : tOp r ta tb σ H Q := h
theorem r_un {ru : V → Hp → VK → Prop} (h : ta σ H fun x H1 => ru x H1 Q) : tUn ru ta σ H Q := h
theorem r_neg {n : Int} (k : Q (.int (-n)) H) : rU (fun i => .int (-i)) (.int n) H Q := ⟨n, rfl, k⟩
theorem r_if (h : t σ H fun c H1 => if c = true then ta σ H1 Q else tb σ H1 Q) : tIf t ta tb σ H Q := h
theorem r_nil (h : QA [] H) : tNil σ H QA := h
theorem r_cons (h : ta σ H fun x H1 => tr σ H1 fun xs H2 => QA (x :: xs) H2) : tCons ta tr σ H QA := h
def kTup (Q : VK) : List V → Hp → Prop := fun xs H1 => xs.length ≤ sizeLine ∧ ∀ p, H1 p = none → Q (.ref p) (upd H1 p (.tup xs))
def kLst (Q : VK) : List V → Hp → Prop := fun xs H1 => xs.length ≤ sizeLine ∧ ∀ p, H1 p = none → Q (.ref p) (upd H1 p (.lst xs))
theorem r_tup (h : as σ H (kTup Q)) : tTup as σ H Q := h
theorem r_lst (h : as σ H (kLst Q)) : tLst as σ H Q := h
theorem v_tup (hl : vs.length ≤ 1000) (h : ∀ p, H p = none → Q (.ref p) (upd H p (.tup vs))) : kTup Q vs H := ⟨Nat.le_trans hl (by decide), h⟩
theorem v_lst (hl : vs.length ≤ 1000) (h : ∀ p, H p = none → Q (.ref p) (upd H p (.lst vs))) : kLst Q vs H := ⟨Nat.le_trans hl (by decide), h⟩
theorem v_tup2 (h : ∀ p, H p = none → Q (.ref p) (upd H p (.tup [x, y]))) : kTup Q [x, y] H := v_tup (by simp) h
theorem v_tup3 (h : ∀ p, H p = none → Q (.ref p) (upd H p (.tup [x, y, v]))) : kTup Q [x, y, v] H := v_tup (by simp) h
theorem v_lst0 (h : ∀ p, H p = none → Q (.ref p) (upd H p (.lst []))) : kLst Q [] H := v_lst (by simp) h
theorem v_lst1 (h : ∀ p, H p = none → Q (.ref p) (upd H p (.lst [x]))) : kLst Q [x] H := v_lst (by simp) h
theorem v_lst2 (h : ∀ p, H p = none → Q (.ref p) (upd H p (.lst [x, y]))) : kLst Q [x, y] H := v_lst (by simp) h
theorem v_lst3 (h : ∀ p, H p = none → Q (.ref p) (upd H p (.lst [x, y, v]))) : kLst Q [x, y, v] H := v_lst (by simp) h
theorem v_lst4 {z : V} (h : ∀ p, H p = none → Q (.ref p) (upd H p (.lst [x, y, v, z]))) : kLst Q [x, y, v, z] H := v_lst (by simp) h
theorem r_len0 {n : Nat} (h : n ≤ 1000) : n ≤ sizeLine := Nat.le_trans h (by decide)
theorem r_call {sp : Sp} {dvs : List V} {E : XK} (h : as σ H fun vs H1 => sp (vs ++ dvs) H1 Q E) : tCall sp dvs E as σ H Q := h
theorem r_cb {rc : List V → Hp → VK → Prop} (h : as σ H fun vs H1 => rc vs H1 Q) : tCB rc as σ H Q := h
theorem r_andV (h : ta σ H fun x H1 => ∃ c, x = .bl c ∧ if c = true then tb σ H1 Q else Q (.bl false) H1) : tAndV ta tb σ H Q := h
theorem r_orV (h : ta σ H fun x H1 => ∃ c, x = .bl c ∧ if c = true then Q (.bl true) H1 else tb σ H1 Q) : tOrV ta tb σ H Q := h
theorem r_notV (h : ta σ H fun x H1 => ∃ c, x = .bl c ∧ Q (.bl (!c)) H1) : tNotV ta σ H Q := h
theorem r_bl {P : Bool → Prop} (h : P b) : ∃ c, V.bl b = .bl c ∧ P c := ⟨b, rfl, h⟩
theorem r_test (h : te σ H fun x H1 => ∃ k, x = .bl k ∧ QT k H1) : tTest te σ H QT := h
theorem r_B (h : te σ H fun x H1 => ∃ k, x = .bl k ∧ QT k H1) : tB te σ H QT := h
theorem r_and (h : t σ H fun c H1 => if c = true then u σ H1 QT else QT false H1) : tAnd t u σ H QT := h
theorem r_or (h : t σ H fun c H1 => if c = true then QT true H1 else u σ H1 QT) : tOr t u σ H QT := h
theorem r_not (h : t σ H fun c H1 => QT (!c) H1) : tNot t σ H QT := h
theorem r_yes (h : QT true H) : tYes σ H QT := h
theorem r_nopart (h : QO none H) : tNoPart σ H QO := h
theorem r_part (h : te σ H fun x H1 => ∃ i, x = .int i ∧ QO (some i) H1) : tPart te σ H QO := h
theorem r_int {P : Int → Prop} {n : Int} (h : P n) : ∃ i, V.int n = .int i ∧ P i := ⟨n, rfl, h⟩
theorem r_sl {rs : V → Option Int → Option Int → Hp → VK → Prop} {tl th : TO} (h : te σ H fun x H1 => tl σ H1 fun l H2 => th σ H2 fun u H3 => rs x l u H3 Q) : tSl rs te tl th σ H Q := h
theorem r_chain (h : ta σ H fun x H1 => tb σ H1 fun y H2 => r x y H2 fun z H3 => ∃ k, z = .bl k ∧ (if k = true then tc σ H3 fun w' H4 => r' y w' H4 Q else Q (.bl false) H3)) : tChain r r' ta tb tc σ H Q := h
theorem r_bm {T : String} {rb : V → List V → Hp → VK → Prop} (h : te σ H fun x H1 => tyV K T x H1 ∧ as σ H1 fun xs H2 => rb x xs H2 Q) : tBM K T rb te as σ H Q := h
theorem r_bm0 {T : String} {rb : V → List V → Hp → VK → Prop} (h : te σ H fun x H1 => tyV K T x H1 ∧ rb x [] H1 Q) : tBM0 K T rb te σ H Q := h

/-! values -/
theorem v_addI {n m : Int} (h : Q (.int (n + m)) H) : aAdd K (.int n) (.int m) H Q := h
theorem v_addL {a c : Addr} {xs ys : List V} (h1 : H a = some (.lst xs)) (h2 : H c = some (.lst ys)) (h3 : xs.length + ys.length ≤ sizeLine) (h : ∀ p, H p = none → Q (.ref p) (upd H p (.lst (xs ++ ys)))) : aAdd K (.ref a) (.ref c) H Q := .inl ⟨xs, ys, h1, h2, h3, h⟩
theorem v_subI {n m : Int} (h : Q (.int (n - m)) H) : aSub (.int n) (.int m) H Q := h
theorem v_mulI {n m : Int} (h0 : IntMulOk n m) (h : Q (.int (n * m)) H) : aMul (.int n) (.int m) H Q := ⟨h0, h⟩
theorem v_mulL {a : Addr} {k : Int} {xs : List V} (h1 : H a = some (.lst xs)) (h2 : -(2 ^ 63) ≤ k ∧ k < 2 ^ 63) (h3 : xs.length * k.toNat ≤ sizeLine) (h : ∀ p, H p = none → Q (.ref p) (upd H p (.lst ((List.replicate k.toNat xs).flatten)))) : aMul (.ref a) (.int k) H Q := ⟨xs, h1, h2.1, h2.2, h3, h⟩
theorem v_div {n m : Int} (h0 : 0 < m) (h1 : Builtin.divisionGoesByPylong n m = false) (h : Q (.int (n / m)) H) : aDiv (.int n) (.int m) H Q := ⟨h0, h1, h⟩
theorem v_divS {n m : Int} (h0 : 0 < m) (h1 : m < 1073741824) (h : Q (.int (n / m)) H) : aDiv (.int n) (.int m) H Q := ⟨h0, PyProof.noPylong_small (by omega), h⟩
theorem v_divW {n m : Int} (h0 : 0 < m) (h1 : m.natAbs.log2 < 9000) (h : Q (.int (n / m)) H) : aDiv (.int n) (.int m) H Q := ⟨h0, PyProof.noPylong_of_log2 h1, h⟩
theorem v_mod {n m : Int} (h0 : 0 < m) (h : Q (.int (n % m)) H) : aMod (.int n) (.int m) H Q := ⟨h0, h⟩
theorem v_pow {n m : Int} (h0 : CPow n m) (h : Q (.int (n ^ m.toNat)) H) : aPow (.int n) (.int m) H Q := ⟨h0, h⟩
theorem v_shl {n m : Int} (h0 : CShl n m) (h : Q (.int (n * 2 ^ m.toNat)) H) : aShl (.int n) (.int m) H Q := ⟨h0, h⟩
theorem v_shr {n m : Int} (h0 : 0 ≤ m) (h : Q (.int (n / 2 ^ m.toNat)) H) : aShr (.int n) (.int m) H Q := ⟨h0, h⟩
theorem v_and {n m : Int} (h : Q (.int (Builtin.bitAnd n m)) H) : aAnd (.int n) (.int m) H Q := h
theorem v_ltI {n m : Int} (h : Q (.bl (decide (n < m))) H) : aLt K (.int n) (.int m) H Q := h
theorem v_ltT {a c : Addr} {ns ms : List Int} (h1 : SqT K H a (ns.map V.int)) (h2 : SqT K H c (ms.map V.int)) (h : Q (.bl (HT.lexLt ns ms)) H) : aLt K (.ref a) (.ref c) H Q := ⟨a, c, ns, ms, rfl, rfl, h1, h2, h⟩
theorem v_leI {n m : Int} (h : Q (.bl (decide (n ≤ m))) H) : aLe (.int n) (.int m) H Q := h
theorem v_gtI {n m : Int} (h : Q (.bl (decide (m < n))) H) : aGt (.int n) (.int m) H Q := h
theorem v_geI {n m : Int} (h : Q (.bl (decide (m ≤ n))) H) : aGe (.int n) (.int m) H Q := h
theorem dec_i {n m : Int} : decide (V.int n = V.int m) = decide (n = m) := by simp
theorem v_eqI {n m : Int} (h : Q (.bl (decide (n = m))) H) : aEq K (.int n) (.int m) H Q := .inl ⟨rfl, by rw [dec_i]; exact h⟩
theorem v_neI {n m : Int} (h : Q (.bl (!decide (n = m))) H) : aNe K (.int n) (.int m) H Q := .inl ⟨rfl, by rw [dec_i]; exact h⟩
theorem v_eqB {n m : Bool} (h : Q (.bl (decide (n = m))) H) : aEq K (.bl n) (.bl m) H Q := .inl ⟨rfl, by rw [show decide (V.bl n = V.bl m) = decide (n = m) by simp]; exact h⟩
theorem v_neB {n m : Bool} (h : Q (.bl (!decide (n = m))) H) : aNe K (.bl n) (.bl m) H Q := .inl ⟨rfl, by rw [show decide (V.bl n = V.bl m) = decide (n = m) by simp]; exact h⟩
theorem v_eqS {n m : Str} (h : Q (.bl (decide (n = m))) H) : aEq K (.str n) (.str m) H Q := .inl ⟨rfl, by rw [show decide (V.str n = V.str m) = decide (n = m) by simp]; exact h⟩
theorem v_neS {n m : Str} (h : Q (.bl (!decide (n = m))) H) : aNe K (.str n) (.str m) H Q := .inl ⟨rfl, by rw [show decide (V.str n = V.str m) = decide (n = m) by simp]; exact h⟩
theorem v_eqO (hs : scal x y = true) (h : Q (.bl (decide (x = y))) H) : aEq K x y H Q := .inl ⟨hs, h⟩
theorem v_neO (hs : scal x y = true) (h : Q (.bl (!decide (x = y))) H) : aNe K x y H Q := .inl ⟨hs, h⟩
theorem v_eqD {d e : PyData} (h1 : Dp K H x d) (h2 : Dp K H y e) (h3 : SeqAt.shaped d = true) (h4 : SeqAt.shaped e = true) (h : Q (.bl (PyData.eqv d e)) H) : aEq K x y H Q := .inr ⟨d, e, h1, h2, h3, h4, h⟩
theorem v_neD {d e : PyData} (h1 : Dp K H x d) (h2 : Dp K H y e) (h3 : SeqAt.shaped d = true) (h4 : SeqAt.shaped e = true) (h : Q (.bl (!PyData.eqv d e)) H) : aNe K x y H Q := .inr ⟨d, e, h1, h2, h3, h4, h⟩
theorem v_isN (h : Q (.bl (decide (x = .non))) H) : aIsN x .non H Q := ⟨rfl, h⟩
theorem v_notN (h : Q (.bl (!decide (x = .non))) H) : aNotN x .non H Q := ⟨rfl, h⟩
theorem v_ipAdd {n m : Int} (h : Q (.int (n + m)) H) : (fun (x y : V) (H : Hp) (Q : VK) => match x, y with | .int i, .int j => Q (.int (i + j)) H | _, _ => False) (.int n) (.int m) H Q := h
def aIpAdd : TIp := fun x y H Q => match x, y with
  | .int i, .int j => Q (.int (i + j)) H
  | _, _ => False
def aIpSub : TIp := fun x y H Q => match x, y with
  | .int i, .int j => Q (.int (i - j)) H
  | _, _ => False
theorem ip_add' {X : Cx} : PIp X .Add aIpAdd := ipAdd
theorem ip_sub' {X : Cx} : PIp X .Sub aIpSub := ipSub
theorem v_ipA {n m : Int} (h : Q (.int (n + m)) H) : aIpAdd (.int n) (.int m) H Q := h
theorem v_ipS {n m : Int} (h : Q (.int (n - m)) H) : aIpSub (.int n) (.int m) H Q := h

/-! ways -/
theorem r_T (h : A) : if true = true then A else B := by rw [if_pos rfl]; exact h
theorem r_F (h : B) : if false = true then A else B := by rw [if_neg Bool.false_ne_true]; exact h
theorem r_nT (h : B) : if (!true) = true then A else B := by rw [if_neg (by decide)]; exact h
theorem r_nF (h : A) : if (!false) = true then A else B := by rw [if_pos (by decide)]; exact h
theorem r_w {c : Prop} [Decidable c] (h1 : c → A) (h2 : ¬ c → B) : if decide c = true then A else B := by
  by_cases h : c
  · rw [decide_eq_true h, if_pos rfl]; exact h1 h
  · rw [decide_eq_false h, if_neg Bool.false_ne_true]; exact h2 h
theorem r_nw {c : Prop} [Decidable c] (h1 : ¬ c → A) (h2 : c → B) : if (!decide c) = true then A else B := by
  by_cases h : c
  · rw [decide_eq_true h]; exact r_nT (h2 h)
  · rw [decide_eq_false h]; exact r_nF (h1 h)
theorem r_b (h1 : b = true → A) (h2 : b = false → B) : if b = true then A else B := by
  cases b with
  | true => exact r_T (h1 rfl)
  | false => exact r_F (h2 rfl)
theorem r_nb (h1 : b = false → A) (h2 : b = true → B) : if (!b) = true then A else B := by
  cases b with
  | true => exact r_nT (h2 rfl)
  | false => exact r_nF (h1 rfl)
theorem r_wT {c : Prop} [Decidable c] (hc : c) (h : A) : if decide c = true then A else B := r_w (fun _ => h) fun n => (n hc).elim
theorem r_wF {c : Prop} [Decidable c] (hc : ¬ c) (h : B) : if decide c = true then A else B := r_w (fun n => (hc n).elim) fun _ => h
theorem r_nwT {c : Prop} [Decidable c] (hc : ¬ c) (h : A) : if (!decide c) = true then A else B := r_nw (fun _ => h) fun n => (hc n).elim
theorem r_nwF {c : Prop} [Decidable c] (hc : c) (h : B) : if (!decide c) = true then A else B := r_nw (fun n => (n hc).elim) fun _ => h

/-! loops -/
/-- while: W by a measure; the body is read for the next turn -/
theorem r_while {c : TT} (W : Nat → L2.St → Hp → Prop) (h0 : ∃ m, W m σ H)
    (hs : ∀ m σ H, W m σ H → c σ H fun b H1 => if b = true then ∃ N : L2.St → Hp → Prop, (∀ σ' H', N σ' H' → ∃ m', m' < m ∧ W m' σ' H') ∧ t1 { D with nx := N, ct := N, bk := D.nx } σ H1 else D.nx σ H1) : tWhile c t1 D σ H := ⟨W, h0, hs⟩
theorem r_next_turn {W : Nat → L2.St → Hp → Prop} {m : Nat} {P : (L2.St → Hp → Prop) → Prop} (h : P (fun σ' H' => ∃ m', m' < m ∧ W m' σ' H')) : ∃ N : L2.St → Hp → Prop, (∀ σ' H', N σ' H' → ∃ m', m' < m ∧ W m' σ' H') ∧ P N := ⟨_, fun _ _ h => h, h⟩
theorem r_rng1 {J : It → Hp → Prop} {n : Int} (h0 : -(2 ^ 62) ≤ n ∧ n < 2 ^ 62) (h : J (Itr 0 n.toNat) H) (ha : as σ H = fun QA => QA [.int n] H) : iRng1 as σ H J := by
  unfold iRng1
  rw [ha]
  exact ⟨n, rfl, h0.1, h0.2, h⟩
end

/-! ### defs by their names -/
/-- the module's name x holds a def that keeps sp; dvs: its defaults -/
structure Cal (P : Program) (w : World) (K : PySem.W.Frag) (mg : Str → Option Value) (base : Heap) (CX : CXT) (k : Nat) (x : Str) (dvs : List V) (sp : Sp) : Prop where
  ex : ∃ (f : Addr) (fd : FuncData) (ps : List Str) (ds : List Value), mg x = some (.ref f) ∧ PySem.W.keepIn K (.ref f) = true ∧ Binds K fd ps ds ∧ Vals dvs ds ∧ FnOk P w K mg base CX k f fd ps sp
/-- the class at C has a method m that keeps sp -/
structure CalM (P : Program) (w : World) (K : PySem.W.Frag) (mg : Str → Option Value) (base : Heap) (CX : CXT) (k : Nat) (C : Addr) (m : Str) (dvs : List V) (sp : Sp) : Prop where
  cl : Cls K C
  ex : ∃ (f : Addr) (fd : FuncData) (ps : List Str) (ds : List Value), Meth K C m f ∧ Binds K fd ps ds ∧ Vals dvs ds ∧ FnOk P w K mg base CX k f fd ps sp
/-- the name x holds the class at C, made by an __init__ that keeps sp -/
structure CalC (P : Program) (w : World) (K : PySem.W.Frag) (mg : Str → Option Value) (base : Heap) (CX : CXT) (k : Nat) (x : Str) (C : Addr) (dvs : List V) (sp : Sp) : Prop where
  ex : ∃ (f : Addr) (fd : FuncData) (ps : List Str) (ds : List Value), mg x = some (.ref C) ∧ Mk K C f ∧ Binds K fd ps ds ∧ Vals dvs ds ∧ FnOk P w K mg base CX k f fd ps sp
section
variable {X : Cx} {CX : CXT} {k j : Nat} {C : Addr} {sp : Sp} {dvs : List V} {E : XK} {x m : Str} {p pos apos : Pos} {e o : Expr} {es : List Expr} {ta : TE} {t : TA}
theorem pe_callF (c : Cal X.prog X.w X.K X.mg X.base CX j x dvs sp) (hr : Room k X.A) (hg : Gl X x) (hx : Passes CX X E) (ha : PA X (e :: es) t) (hk : j ≤ k := by decide)
    (hdb : (x == ("__debug__" : Str)) = false := by decide) (he : starEach (e :: es) X.env = (false, eval e X.env) :: starEach es X.env := by rfl) (hpl : (backTo pos (starEach es X.env)).any (·.1) = false := by rfl) :
    PE X (.Call (.Name x p) (e :: es) [] pos) (tCall sp dvs E t) := by
  obtain ⟨f, fd, ps, ds, h1, h2, h3, h4, h5⟩ := c.ex
  exact pe_call h5 (hr.mono hk) hg h1 h2 h3 h4 hx ha hdb he hpl
theorem pe_callF0 (c : Cal X.prog X.w X.K X.mg X.base CX j x dvs sp) (hr : Room k X.A) (hg : Gl X x) (hx : Passes CX X E) (hk : j ≤ k := by decide)
    (hdb : (x == ("__debug__" : Str)) = false := by decide) : PE X (.Call (.Name x p) [] [] pos) (tCall sp dvs E tNil) := by
  obtain ⟨f, fd, ps, ds, h1, h2, h3, h4, h5⟩ := c.ex
  exact pe_call0 h5 (hr.mono hk) hg h1 h2 h3 h4 hx hdb
theorem pe_methF {pl : Sem Bool} (he : PE X o ta) (c : CalM X.prog X.w X.K X.mg X.base CX j C m dvs sp) (hr : Room k X.A) (hx : Passes CX X E) (ha : PA X (e :: es) t) (hk : j ≤ k := by decide)
    (hst : starEach (e :: es) X.env = (false, eval e X.env) :: starEach es X.env := by rfl) (hpl : (backTo pos (starEach es X.env)).any (·.1) = false := by rfl)
    (ht : eval (.Call (.Attribute o m apos) (e :: es) [] pos) X.env = (do
      let ov ← eval o X.env
      standAt apos.atName
      let (f, first) ← holding [ov] (getMethod ov m pl)
      callWith pos f first (backTo pos (starEach (e :: es) X.env)) (backToKw pos (keywordEach [] X.env))) := by rfl) :
    PE X (.Call (.Attribute o m apos) (e :: es) [] pos) (tMeth C m sp dvs E ta t) := by
  obtain ⟨f, fd, ps, ds, h1, h3, h4, h5⟩ := c.ex
  exact pe_meth he c.cl h1 h5 (hr.mono hk) h3 h4 hx ha hst hpl ht
theorem pe_methF0 {pl : Sem Bool} (he : PE X o ta) (c : CalM X.prog X.w X.K X.mg X.base CX j C m dvs sp) (hr : Room k X.A) (hx : Passes CX X E) (hk : j ≤ k := by decide)
    (ht : eval (.Call (.Attribute o m apos) [] [] pos) X.env = (do
      let ov ← eval o X.env
      standAt apos.atName
      let (f, first) ← holding [ov] (getMethod ov m pl)
      callWith pos f first (backTo pos (starEach [] X.env)) (backToKw pos (keywordEach [] X.env))) := by rfl) :
    PE X (.Call (.Attribute o m apos) [] [] pos) (tMeth C m sp dvs E ta tNil) := by
  obtain ⟨f, fd, ps, ds, h1, h3, h4, h5⟩ := c.ex
  exact pe_meth0 he c.cl h1 h5 (hr.mono hk) h3 h4 hx ht
theorem pe_makeF (c : CalC X.prog X.w X.K X.mg X.base CX j x C dvs sp) (hr : Room k X.A) (hg : Gl X x) (hx : Passes CX X E) (ha : PA X (e :: es) t) (hk : j + 1 ≤ k := by decide)
    (hdb : (x == ("__debug__" : Str)) = false := by decide) (he : starEach (e :: es) X.env = (false, eval e X.env) :: starEach es X.env := by rfl) (hpl : (backTo pos (starEach es X.env)).any (·.1) = false := by rfl) :
    PE X (.Call (.Name x p) (e :: es) [] pos) (tMake C sp dvs E t) := by
  obtain ⟨f, fd, ps, ds, h1, h2, h3, h4, h5⟩ := c.ex
  exact pe_make h2 h5 (hr.mono hk) hg h1 h3 h4 hx ha hdb he hpl
theorem pe_makeF0 (c : CalC X.prog X.w X.K X.mg X.base CX j x C dvs sp) (hr : Room k X.A) (hg : Gl X x) (hx : Passes CX X E) (hk : j + 1 ≤ k := by decide)
    (hdb : (x == ("__debug__" : Str)) = false := by decide) : PE X (.Call (.Name x p) [] [] pos) (tMake C sp dvs E tNil) := by
  obtain ⟨f, fd, ps, ds, h1, h2, h3, h4, h5⟩ := c.ex
  exact pe_make0 h2 h5 (hr.mono hk) hg h1 h3 h4 hx hdb
end
/-- a walked thing in a for, in a comprehension -/
theorem r_for {wi : TI} {g : TG} {tb : TS} {D : Ends} {σ : L2.St} {H : Hp} (h : wi σ H fun J H1 => ∃ W : Nat → Nat → L2.St → Hp → Prop, (∃ m, W 0 m σ H1) ∧ ∀ i m σ H, W i m σ H →
  (J.stop i H ∧ D.nx σ H) ∨ (J.go i H ∧ ∃ N : L2.St → Hp → Prop, (∀ σ' H', N σ' H' → ∃ m', m' < m ∧ W (i + 1) m' σ' H') ∧ ∀ x H', J.yld i H x H' → g x σ H' fun σ2 H2 => tb { D with nx := N, ct := N, bk := D.nx } σ2 H2)) : tFor wi g tb D σ H := h
theorem r_lc {wi : TI} {g : TG} {tt : TT} {te : TE} {vs : List Nat} {σ : L2.St} {H : Hp} {Q : VK} (h : wi σ H fun J H1 => ∀ D, H1 D = none → ∃ W : Nat → Nat → Hp → Prop, (∃ m, W 0 m (upd H1 D (.lst []))) ∧ ∀ i m H, W i m H →
  (J.stop i H ∧ Q (.ref D) H) ∨ (J.go i H ∧ ∃ Nx : Hp → Prop, (∀ H', Nx H' → ∃ m', m' < m ∧ W (i + 1) m' H') ∧ ∀ x H', J.yld i H x H' → g x (wipe σ vs) H' fun σ2 H2 => wipe σ2 vs = wipe σ vs ∧ tt σ2 H2 fun b H3 =>
    if b = true then te σ2 H3 fun y H4 => ∃ acc, H4 D = some (.lst acc) ∧ acc.length < sizeLine ∧ Nx (upd H4 D (.lst (acc ++ [y]))) else Nx H3)) : tLc wi g tt te vs σ H Q := h
section
variable {K : PySem.W.Frag} {tl : TE} {as : TA} {σ : L2.St} {H : Hp} {R : It → Hp → Prop}
def kList (K : PySem.W.Frag) (R : It → Hp → Prop) : V → Hp → Prop := fun x H1 => ∃ a, x = .ref a ∧ (∃ xs, SqL K H1 a xs) ∧ R (Itl K a) H1
def kTupI (K : PySem.W.Frag) (R : It → Hp → Prop) : V → Hp → Prop := fun x H1 => ∃ a, x = .ref a ∧ (∃ xs, SqT K H1 a xs) ∧ R (Itt K a) H1
def kRng1 (R : It → Hp → Prop) : List V → Hp → Prop := fun vs H1 => ∃ j : Int, vs = [.int j] ∧ -(2 ^ 62) ≤ j ∧ j < 2 ^ 62 ∧ R (Itr 0 j.toNat) H1
def kRng2 (R : It → Hp → Prop) : List V → Hp → Prop := fun vs H1 => ∃ i j : Int, vs = [.int i, .int j] ∧ (-(2 ^ 62) ≤ i ∧ i < 2 ^ 62 ∧ -(2 ^ 62) ≤ j ∧ j < 2 ^ 62) ∧ R (Itr i (j - i).toNat) H1
def kRng3 (R : It → Hp → Prop) : List V → Hp → Prop := fun vs H1 => ∃ (i j c : Int) (n : Nat), vs = [.int i, .int j, .int c] ∧ RgC i j c n ∧ R (Itc i c n) H1
def kEnum (K : PySem.W.Frag) (R : It → Hp → Prop) : List V → Hp → Prop := fun vs H1 => ∃ a xs, vs = [.ref a] ∧ SqL K H1 a xs ∧ R (Ite K a) H1
def kZip (K : PySem.W.Frag) (R : It → Hp → Prop) : List V → Hp → Prop := fun vs H1 => ∃ a b xs ys, vs = [.ref a, .ref b] ∧ SqL K H1 a xs ∧ SqL K H1 b ys ∧ R (Itz K a b) H1
def kRev (K : PySem.W.Frag) (R : It → Hp → Prop) : List V → Hp → Prop := fun vs H1 => ∃ (a : Addr) (xs : List V), vs = [.ref a] ∧ SqL K H1 a xs ∧ R (Itv K a xs.length) H1
theorem r_iList (h : tl σ H (kList K R)) : iList K tl σ H R := h
theorem r_iTup (h : tl σ H (kTupI K R)) : iTup K tl σ H R := h
theorem r_iRng1 (h : as σ H (kRng1 R)) : iRng1 as σ H R := h
theorem r_iRng2 (h : as σ H (kRng2 R)) : iRng2 as σ H R := h
theorem r_iRng3 (h : as σ H (kRng3 R)) : iRng3 as σ H R := h
theorem r_iEnum (h : as σ H (kEnum K R)) : iEnum K as σ H R := h
theorem r_iZip (h : as σ H (kZip K R)) : iZip K as σ H R := h
theorem r_iRev (h : as σ H (kRev K R)) : iRev K as σ H R := h
theorem v_iList {a : Addr} {xs : List V} (h : SqL K H a xs) (k : R (Itl K a) H) : kList K R (.ref a) H := ⟨a, rfl, ⟨xs, h⟩, k⟩
theorem v_iTup {a : Addr} {xs : List V} (h : SqT K H a xs) (k : R (Itt K a) H) : kTupI K R (.ref a) H := ⟨a, rfl, ⟨xs, h⟩, k⟩
theorem v_rng1 {n : Int} (h0 : -(2 ^ 62) ≤ n ∧ n < 2 ^ 62) (k : R (Itr 0 n.toNat) H) : kRng1 R [.int n] H := ⟨n, rfl, h0.1, h0.2, k⟩
theorem v_rng2 {n m : Int} (h0 : -(2 ^ 62) ≤ n ∧ n < 2 ^ 62 ∧ -(2 ^ 62) ≤ m ∧ m < 2 ^ 62) (k : R (Itr n (m - n).toNat) H) : kRng2 R [.int n, .int m] H := ⟨n, m, rfl, h0, k⟩
theorem v_rng3 {i j c : Int} {n : Nat} (h0 : RgC i j c n) (k : R (Itc i c n) H) : kRng3 R [.int i, .int j, .int c] H := ⟨i, j, c, n, rfl, h0, k⟩
theorem v_enum {a : Addr} {xs : List V} (h : SqL K H a xs) (k : R (Ite K a) H) : kEnum K R [.ref a] H := ⟨a, xs, rfl, h, k⟩
theorem v_zip {a b : Addr} {xs ys : List V} (h : SqL K H a xs) (h2 : SqL K H b ys) (k : R (Itz K a b) H) : kZip K R [.ref a, .ref b] H := ⟨a, b, xs, ys, rfl, h, h2, k⟩
theorem v_rev1 {a : Addr} {xs : List V} (h : SqL K H a xs) (k : R (Itv K a xs.length) H) : kRev K R [.ref a] H := ⟨a, xs, rfl, h, k⟩
end
end SH


set_option Elab.async false
set_option linter.all false
set_option maxRecDepth 100000
set_option maxHeartbeats 4000000
/-! SHC: lengths, places, fields, constants -/
namespace SH
open PySem PySem.Spec PyProof.Rows L2

def Sq (K : PySem.W.Frag) (H : Hp) (a : Addr) (xs : List V) : Prop := SqL K H a xs ∨ SqT K H a xs
def aLen (K : PySem.W.Frag) : List V → Hp → VK → Prop := fun vs H Q => match vs with
  | [.ref p] => ∃ xs, Sq K H p xs ∧ Q (.int xs.length) H
  | [.str y] => y.length ≤ sizeLine ∧ Q (.int y.length) H
  | _ => False
def aIx (K : PySem.W.Frag) : R2 := fun x y H Q => match x, y with
  | .ref p, .int i => ∃ xs v, Sq K H p xs ∧ atI xs i = some v ∧ Q v H
  | .str z, .int i => ∃ c, z.length ≤ sizeLine ∧ atI z.cps.toList i = some c ∧ Q (.str ⟨#[c]⟩) H
  | _, _ => False
section
variable {X : Cx} {o e value : Expr} {f : Str} {pos tpos pos' : Pos} {ta tv : TE} {C : Addr}
theorem cLen : CallR X (.builtin "len") (aLen X.K) := by
  intro pins s σ H xs us Q I r h
  match xs, r, h with
  | [], _, h => exact False.elim h
  | [.ref p], r, h =>
    obtain ⟨ys, hq, q⟩ := h
    exact call_len pins s σ H _ us Q I r ⟨.ref p, ys.length, rfl, hq.elim (fun z => .inl ⟨ys, z, rfl⟩) fun z => .inr ⟨ys, z, rfl⟩, q⟩
  | [.str y], r, h => exact call_len pins s σ H _ us Q I r ⟨.str y, y.length, rfl, ⟨h.1, rfl⟩, h.2⟩
  | [.non], _, h => exact False.elim h
  | [.bl _], _, h => exact False.elim h
  | [.int _], _, h => exact False.elim h
  | [.byt _], _, h => exact False.elim h
  | [.flt _], _, h => exact False.elim h
  | [.ty _], _, h => exact False.elim h
  | _ :: _ :: _, _, h => revert h; intro h; simp [aLen] at h
theorem ixA : IxR X (aIx X.K) := by
  intro value slice pins s σ H x y v u Q I rx ry h hs
  cases x <;> cases y <;> first | exact False.elim h | skip
  · obtain ⟨c, h1, h2, q⟩ := h
    exact ix_str value slice pins s σ H _ _ v u Q I rx ry ⟨_, _, c, rfl, rfl, h1, h2, q⟩ hs
  · obtain ⟨xs, w, hq, h2, q⟩ := h
    rcases hq with hq | hq
    · exact ix_list value slice pins s σ H _ _ v u Q I rx ry ⟨_, xs, _, w, rfl, rfl, hq, h2, q⟩ hs
    · exact ix_tup value slice pins s σ H _ _ v u Q I rx ry ⟨_, xs, _, w, rfl, rfl, hq, h2, q⟩ hs
/-- e.f, the class known -/
def tFldF (C : Addr) (ta : TE) (f : Str) : TE := fun σ H Q => ta σ H fun x H1 => ∃ a dx fs v, x = .ref a ∧ H1 a = some (.ins C dx fs) ∧ fs.lookup f = some v ∧ Q v H1
theorem pe_fldF (cl : Cls X.K C) (na : NoAttr X.K C f) (he : PE X e ta) (hb : attributeBase e f X.env (eval e X.env) = eval e X.env := by rfl) : PE X (.Attribute e f pos) (tFldF C ta f) := by
  refine ⟨fun pins s σ H Q I h => ?_⟩
  refine attr_of hb (thn (he.run pins s σ H _ I h) fun u s1 ⟨x, H1, I1, rx, a, dx, fs, v, ex, ea, l, q⟩ => ?_)
  subst ex
  obtain rfl : u = Value.ref a := rx
  exact getattr_ok I1 ea cl na l fun u' s2 I2 ru => ⟨v, H1, I2, ru, q⟩
def sFldF (C : Addr) (ta tv : TE) (f : Str) : TS := fun D σ H => tv σ H fun y H1 => ta σ H1 fun x H2 => ∃ a dx fs, x = .ref a ∧ H2 a = some (.ins C dx fs) ∧ fs.length < 1000 ∧ D.nx σ (upd H2 a (.ins C dx (putF f y fs)))
theorem ps_fldF (cl : Cls X.K C) (na : NoAttr X.K C f) (ha : PE X o ta) (hv : PE X value tv) (hs : swapsWith value (some (.Attribute o f pos')) pos.line X.env = pure false) : PS X (.Assign [.Attribute o f pos'] value pos) (sFldF C ta tv f) := by
  refine ⟨fun pins s σ H D I h => ?_⟩
  refine plainObj_wpAny_Assign_Attribute (thn (hv.run pins s σ H _ I h) fun u s1 ⟨y, H1, I1, ry, q⟩ => thn (ha.run pins s1 σ H1 _ I1 q) fun ov s2 ⟨x, H2, I2, rx, a, dx, fs, ex, ea, l, q2⟩ => ?_) hs
  subst ex
  obtain rfl : ov = Value.ref a := rx
  exact setattr_ok I2 ea cl na l ry fun s3 I3 => ⟨σ, _, I3, q2⟩
def sFldAugF (C : Addr) (ta tv : TE) (rd : V → V → Hp → VK → Prop) (f : Str) : TS := fun D σ H => ta σ H fun x H1 => ∃ a dx fs v, x = .ref a ∧ H1 a = some (.ins C dx fs) ∧ fs.lookup f = some v ∧
  tv σ H1 fun y H2 => rd v y H2 fun z H3 => ∃ dx' fs', H3 a = some (.ins C dx' fs') ∧ fs'.length < 1000 ∧ D.nx σ (upd H3 a (.ins C dx' (putF f z fs')))
theorem ps_fldaugF {op : Operator} {rd : V → V → Hp → VK → Prop} (cl : Cls X.K C) (na : NoAttr X.K C f) (ha : PE X o ta) (hv : PE X value tv) (hop : InOp X op rd) : PS X (.AugAssign (.Attribute o f tpos) op value pos) (sFldAugF C ta tv rd f) := by
  refine ⟨fun pins s σ H D I h => ?_⟩
  refine wpAny_AugAssign_AttributeAny (thn (ha.run pins s σ H _ I h) fun ov s1 ⟨x, H1, I1, rx, a, dx, fs, v, ex, ea, l, q⟩ => ?_)
  subst ex
  obtain rfl : ov = Value.ref a := rx
  refine getattr_ok I1 ea cl na l fun u s2 I2 ru => thn (hv.run pins s2 σ H1 _ I2 q) fun w3 s3 ⟨y, H2, I3, ry, q3⟩ => thn (hop pins s3 σ H2 v y u w3 _ I3 ru ry q3) fun w4 s4 ⟨z, H3, I4, rz, dx', fs', ea', l', q4⟩ => ?_
  exact setattr_ok I4 ea' cl na l' rz fun s5 I5 => ⟨σ, _, I5, q4⟩
theorem in_add' : InOp X .Add aIpAdd := ip_add'
theorem in_sub' : InOp X .Sub aIpSub := ip_sub'
/-- a module's constant that is an int -/
theorem pe_k {x : Str} {v : V} (hm : ∃ u, X.mg x = some u ∧ RelV v u) (hg : Gl X x := by rfl) (hd : (x == ("__debug__" : Str)) = false := by decide) : PE X (.Name x pos) (tC v) := by
  obtain ⟨u, h1, h2⟩ := hm
  exact pe_glob hg h1 h2 hd
/-- xs[i], for xs[i] op= e -/
def aGetL (K : PySem.W.Frag) : V → V → Hp → VK → Prop := fun o i H Q => ∃ p xs k v, o = .ref p ∧ i = .int k ∧ H p = some (.lst xs) ∧ 0 ≤ k ∧ k < 2 ^ 63 ∧ xs[k.toNat]? = some v ∧ Q v H
theorem getL : PGet X (aGetL X.K) := by
  intro pins s σ H o i ov iv Q I ro ri h
  obtain ⟨p, xs, k, v, rfl, rfl, hp, h0, h1, hv, q⟩ := h
  cases ro
  obtain ⟨t, rfl⟩ := ri
  obtain ⟨its, r, pl, hz⟩ := I.list (SqL.of (K := X.K) hp)
  obtain ⟨w, ew, rw'⟩ := r.get hv
  exact wpAny_getItem_list pl.isList h0 h1 (by simpa using ew) ⟨v, H, I, rw', q⟩
end
section
variable {K : PySem.W.Frag} {H : Hp} {Q : VK} {x y v : V} {a p dx C : Addr} {fs : List (Str × V)} {f : Str} {xs : List V} {i : Int} {n : Nat} {ta tv : TE} {σ : L2.St} {D : Ends}
theorem v_lenL (h : SqL K H p xs) (k : Q (.int xs.length) H) : aLen K [.ref p] H Q := ⟨xs, .inl h, k⟩
theorem v_lenLm {α : Type} {f : α → V} {ns : List α} (h : SqL K H p (ns.map f)) (k : Q (.int ns.length) H) : aLen K [.ref p] H Q := ⟨_, .inl h, by rw [List.length_map]; exact k⟩
theorem v_lenTm {α : Type} {f : α → V} {ns : List α} (h : SqT K H p (ns.map f)) (k : Q (.int ns.length) H) : aLen K [.ref p] H Q := ⟨_, .inr h, by rw [List.length_map]; exact k⟩
theorem v_lenT (h : SqT K H p xs) (k : Q (.int xs.length) H) : aLen K [.ref p] H Q := ⟨xs, .inr h, k⟩
theorem v_ixL (h : SqL K H p xs) (ha : atI xs i = some v) (k : Q v H) : aIx K (.ref p) (.int i) H Q := ⟨xs, v, .inl h, ha, k⟩
theorem v_ixT (h : SqT K H p xs) (ha : atI xs i = some v) (k : Q v H) : aIx K (.ref p) (.int i) H Q := ⟨xs, v, .inr h, ha, k⟩
/-- at a place n -/
theorem v_ixLn (h : SqL K H p xs) (e : i = (n : Int)) (ha : xs[n]? = some v) (k : Q v H) : aIx K (.ref p) (.int i) H Q := ⟨xs, v, .inl h, by rw [e]; exact atI_nat ha, k⟩
theorem v_ixTn (h : SqT K H p xs) (e : i = (n : Int)) (ha : xs[n]? = some v) (k : Q v H) : aIx K (.ref p) (.int i) H Q := ⟨xs, v, .inr h, by rw [e]; exact atI_nat ha, k⟩
def kFld (C : Addr) (f : Str) (Q : VK) : VK := fun x H1 => ∃ a dx fs v, x = .ref a ∧ H1 a = some (.ins C dx fs) ∧ fs.lookup f = some v ∧ Q v H1
theorem r_fldF (h : ta σ H (kFld C f Q)) : tFldF C ta f σ H Q := h
theorem v_fld (h : H a = some (.ins C dx fs)) (l : fs.lookup f = some v) (k : Q v H) : kFld C f Q (.ref a) H := ⟨a, dx, fs, v, rfl, h, l, k⟩
def kSfld (C : Addr) (f : Str) (y : V) (R : Hp → Prop) : VK := fun x H2 => ∃ a dx fs, x = .ref a ∧ H2 a = some (.ins C dx fs) ∧ fs.length < 1000 ∧ R (upd H2 a (.ins C dx (putF f y fs)))
theorem r_sfldF (h : tv σ H fun y H1 => ta σ H1 (kSfld C f y (D.nx σ))) : sFldF C ta tv f D σ H := h
theorem v_sfld {fs' : List (Str × V)} {R : Hp → Prop} (h : H a = some (.ins C dx fs)) (l : fs.length < 1000) (e : putF f y fs = fs') (k : R (upd H a (.ins C dx fs'))) : kSfld C f y R (.ref a) H := ⟨a, dx, fs, rfl, h, l, by rw [e]; exact k⟩
def kAug1 (C : Addr) (f : Str) (R : V → Addr → Hp → Prop) : VK := fun x H1 => ∃ a dx fs v, x = .ref a ∧ H1 a = some (.ins C dx fs) ∧ fs.lookup f = some v ∧ R v a H1
def kAug2 (C : Addr) (f : Str) (a : Addr) (R : Hp → Prop) : VK := fun z H3 => ∃ dx' fs', H3 a = some (.ins C dx' fs') ∧ fs'.length < 1000 ∧ R (upd H3 a (.ins C dx' (putF f z fs')))
theorem r_sfldAugF {rd : V → V → Hp → VK → Prop} (h : ta σ H (kAug1 C f fun v a H1 => tv σ H1 fun y H2 => rd v y H2 (kAug2 C f a (D.nx σ)))) : sFldAugF C ta tv rd f D σ H := h
theorem v_aug1 {R : V → Addr → Hp → Prop} (h : H a = some (.ins C dx fs)) (l : fs.lookup f = some v) (k : R v a H) : kAug1 C f R (.ref a) H := ⟨a, dx, fs, v, rfl, h, l, k⟩
theorem v_aug2 {fs' : List (Str × V)} {R : Hp → Prop} (h : H a = some (.ins C dx fs)) (l : fs.length < 1000) (e : putF f y fs = fs') (k : R (upd H a (.ins C dx fs'))) : kAug2 C f a R y H := ⟨dx, fs, h, l, by rw [e]; exact k⟩
theorem v_getL (h : H p = some (.lst xs)) (e : i = (n : Int)) (hn : n < 1000000) (ha : xs[n]? = some v) (k : Q v H) : aGetL K (.ref p) (.int i) H Q := ⟨p, xs, i, v, rfl, rfl, h, by omega, by omega, by rw [e]; exact ha, k⟩
theorem ixN_n {m n : Nat} (h : n < m) : ixN m (n : Int) = some n := by
  unfold ixN
  rw [if_pos (by omega), if_pos (by omega)]
  simp
theorem v_setL {P : Hp → Prop} (h : H p = some (.lst xs)) (e : i = (n : Int)) (hn : n < xs.length) (k : P (upd H p (.lst (xs.set n v)))) : rSetL (.ref p) (.int i) v H P := ⟨p, xs, i, n, rfl, rfl, h, by rw [e]; exact ixN_n hn, k⟩
theorem v_append {P : Hp → Prop} (h : H p = some (.lst xs)) (hn : xs.length < 1000000) (k : P (upd H p (.lst (xs ++ [v])))) : tyV K "list" (.ref p) H ∧ rAppend (.ref p) [v] H (fun _ H' => P H') := ⟨.inl ⟨rfl, xs, SqL.of h⟩, p, xs, v, rfl, rfl, h, Nat.lt_trans hn (by decide), k⟩
theorem ty_list (h : H p = some (.lst xs)) : tyV K "list" (.ref p) H := .inl ⟨rfl, xs, SqL.of h⟩
theorem v_app (h : H p = some (.lst xs)) (hn : xs.length < 1000000) (k : Q .non (upd H p (.lst (xs ++ [v])))) : rAppend (.ref p) [v] H Q := ⟨p, xs, v, rfl, rfl, h, Nat.lt_trans hn (by decide), k⟩
theorem v_ext {b : Addr} {ys : List V} (h : H p = some (.lst xs)) (h2 : H b = some (.lst ys)) (hn : xs.length + ys.length ≤ 1000000) (k : Q .non (upd H p (.lst (xs ++ ys)))) : rExtend (.ref p) [.ref b] H Q := ⟨p, b, xs, ys, rfl, rfl, h, h2, Nat.le_trans hn (by decide), k⟩
theorem v_rev (h : H p = some (.lst xs)) (k : Q .non (upd H p (.lst xs.reverse))) : rReverse (.ref p) [] H Q := ⟨p, xs, rfl, rfl, h, k⟩
theorem v_clear (h : H p = some (.lst xs)) (k : Q .non (upd H p (.lst []))) : rClear (.ref p) [] H Q := ⟨p, xs, rfl, rfl, h, k⟩
theorem v_pop (h : H p = some (.lst xs)) (hv : xs[xs.length - 1]? = some v) (k : Q v (upd H p (.lst xs.dropLast))) : rPop (.ref p) [] H Q := ⟨p, xs, v, rfl, rfl, h, hv, k⟩
theorem v_slL {lo hi : Option Int} (h : SqL K H p xs) (k : ∀ q, H q = none → Q (.ref q) (upd H q (.lst (cutV xs lo hi)))) : rSlL K (.ref p) lo hi H Q := ⟨p, xs, rfl, h, k⟩
theorem v_listL (h : SqL K H p xs) (k : ∀ l, H l = none → Q (.ref l) (upd H l (.lst xs))) : ∃ p' ys, [V.ref p] = [.ref p'] ∧ (SqL K H p' ys ∨ SqT K H p' ys) ∧ ∀ l, H l = none → Q (.ref l) (upd H l (.lst ys)) := ⟨p, xs, rfl, .inl h, k⟩
theorem v_listT (h : SqT K H p xs) (k : ∀ l, H l = none → Q (.ref l) (upd H l (.lst xs))) : ∃ p' ys, [V.ref p] = [.ref p'] ∧ (SqL K H p' ys ∨ SqT K H p' ys) ∧ ∀ l, H l = none → Q (.ref l) (upd H l (.lst ys)) := ⟨p, xs, rfl, .inr h, k⟩
theorem v_sum {ns : List Int} (h : SqL K H p (ns.map V.int)) (k : Q (.int ns.sum) H) : rSum K [.ref p] H Q := ⟨p, ns, rfl, h, k⟩
theorem v_isi {c : V} {t u : Value} {b : Bool} (h1 : ClsV c u) (h2 : TyX K H x t) (h3 : PySem.W.kitOne K t u = some b) (k : Q (.bl b) H) : rIsi K [x, c] H Q := ⟨x, c, t, u, b, rfl, h1, h2, h3, k⟩
theorem v_max2 {n m : Int} (k : Q (.int (if m > n then m else n)) H) : ∃ i j, [V.int n, V.int m] = [.int i, .int j] ∧ Q (.int (if j > i then j else i)) H := ⟨n, m, rfl, k⟩
theorem v_min2 {n m : Int} (k : Q (.int (if m < n then m else n)) H) : ∃ i j, [V.int n, V.int m] = [.int i, .int j] ∧ Q (.int (if j < i then j else i)) H := ⟨n, m, rfl, k⟩
theorem v_bits {n : Int} (k : Q (.int (Builtin.Int.intBits n : Nat)) H) : ∃ i, V.int n = .int i ∧ Q (.int (Builtin.Int.intBits i : Nat)) H := ⟨n, rfl, k⟩
theorem r_bits (h : ta σ H fun x H1 => ∃ i, x = .int i ∧ Q (.int (Builtin.Int.intBits i : Nat)) H1) : tBits ta σ H Q := h
end

/-- 10 ** 60 -/
def big60 : Int := 10 ^ 60
theorem big60_pos : 0 < big60 := by unfold big60; decide
theorem big60_lt : big60 < 2 ^ 200 := by unfold big60; decide +kernel
section
variable {K : PySem.W.Frag} {H : Hp} {Q : VK} {x : V}
theorem v_pow60 (k : Q (.int big60) H) : aPow (.int 10) (.int 60) H Q := ⟨⟨by decide, by decide, by decide⟩, k⟩
theorem v_isiIT {n : Int} (k : Q (.bl true) H) : rIsi K [.int n, .ty "int"] H Q := ⟨.int n, .ty "int", .type "int", .type "int", true, rfl, .ty _, .base (.int n), by rfl, k⟩
theorem v_isiIB {n : Int} (k : Q (.bl false) H) : rIsi K [.int n, .ty "bool"] H Q := ⟨.int n, .ty "bool", .type "int", .type "bool", false, rfl, .ty _, .base (.int n), by rfl, k⟩
end
theorem map_at {α : Type} {f : α → V} {ns : List α} {i : Nat} {x : V} (h : (ns.map f)[i]? = some x) : ∃ n, ns[i]? = some n ∧ x = f n := by
  rw [List.getElem?_map] at h
  cases e : ns[i]? with
  | none => rw [e] at h; cases h
  | some n => rw [e] at h; exact ⟨n, rfl, (Option.some.inj h).symm⟩
/-- a cut of any list -/
def cutL {α : Type} (xs : List α) (lo hi : Option Int) : List α := (xs.drop (HT.sIx xs.length 0 lo)).take (HT.sIx xs.length xs.length hi - HT.sIx xs.length 0 lo)
theorem cut_map {α : Type} (f : α → V) (ns : List α) (lo hi : Option Int) : cutV (ns.map f) lo hi = (cutL ns lo hi).map f := by
  unfold cutV cutL
  rw [List.length_map, List.map_take, List.map_drop]
theorem cutL_mem {α : Type} {xs : List α} {lo hi : Option Int} {x : α} (h : x ∈ cutL xs lo hi) : x ∈ xs := List.mem_of_mem_drop (List.mem_of_mem_take h)
theorem cutL_len {α : Type} (xs : List α) (lo hi : Option Int) : (cutL xs lo hi).length ≤ xs.length := by
  unfold cutL
  rw [List.length_take, List.length_drop]
  omega
theorem cutL_upto {α : Type} (xs : List α) (k : Nat) : cutL xs none (some (k : Int)) = xs.take k := by
  unfold cutL
  rw [HT.sIx_none, HT.sIx_nat, List.drop_zero, Nat.sub_zero, List.take_eq_take_iff]
  omega
theorem cutL_from {α : Type} (xs : List α) (k : Nat) : cutL xs (some (k : Int)) none = xs.drop k := by
  unfold cutL
  rw [HT.sIx_none, HT.sIx_nat]
  by_cases h : k ≤ xs.length
  · rw [Nat.min_eq_left h, List.take_of_length_le (by rw [List.length_drop]; omega)]
  · have e1 : min k xs.length = xs.length := by omega
    rw [e1, List.drop_length, List.drop_of_length_le (by omega), List.take_nil]
theorem cutL_span {α : Type} (xs : List α) (i j : Nat) : cutL xs (some (i : Int)) (some (j : Int)) = (xs.drop i).take (j - i) := by
  unfold cutL
  rw [HT.sIx_nat, HT.sIx_nat]
  by_cases h : i ≤ xs.length
  · rw [Nat.min_eq_left h]
    by_cases h2 : j ≤ xs.length
    · rw [Nat.min_eq_left h2]
    · rw [Nat.min_eq_right (by omega), List.take_of_length_le (by rw [List.length_drop]; omega), List.take_of_length_le (by rw [List.length_drop]; omega)]
  · have e1 : min i xs.length = xs.length := by omega
    rw [e1, List.drop_length, List.drop_of_length_le (by omega), List.take_nil, List.take_nil]
/-- what a law is asked: the script's ints in, True out -/
def lawSp (K : PySem.W.Frag) : Sp := fun vs H Q _ => ∃ (a : Addr) (ns : List Int), vs = [.ref a] ∧ SqL K H a (ns.map V.int) ∧ ns.length ≤ 63 ∧ ∀ H', Q (.bl true) H'
end SH

set_option Elab.async false
set_option linter.all false
set_option maxRecDepth 100000
set_option maxHeartbeats 4000000
/-! SHD: functions that are made by a def and handed out -/
namespace SH
open PySem PySem.Spec PyProof.Rows L2 NdefX LamX

/-- the cell at c holds v -/
def cellO (c : Addr) (v : V) : HO := .ext fun h => ∃ u, L2.RelV v u ∧ h.IsCell c (some u)
theorem cellO_ok {P : Program} {w : World} {H : Hp} {h : Heap} {c : Addr} {v : V} {u : Value} (r : L2.RelV v u) (e : h.IsCell c (some u)) : ObjOk P w H h c (cellO c v) := by
  refine ⟨⟨u, r, e⟩, ?_, fun h1 h2 ⟨u', r', o, ho, hd⟩ st => ⟨u', r', o, st o ho, hd⟩⟩
  obtain ⟨o, ho, _⟩ := e
  exact ⟨o, ho⟩
theorem cellO_at {P : Program} {w : World} {H : Hp} {h : Heap} {c : Addr} {v : V} (hok : HOk P w H h) (e : H c = some (cellO c v)) : ∃ u, L2.RelV v u ∧ h.IsCell c (some u) := (hok c _ e).1
/-- at f stands a function of the text st, made in the def of the name before it; its captured names fr hold ws -/
structure Clo (H : Hp) (f : Addr) (st : Stmt) (name qual : Str) (fr : List Str) (ws : List V) (cl : List (Str × Addr)) (c' : Addr) : Prop where
  fn : H f = some (FnO f (NF.of st name qual cl c'))
  code : H c' = some (CodeO c' qual)
  len : ws.length = fr.length
  cells : ∀ y c, (y, c) ∈ cl → ∃ v, H c = some (cellO c v)
  inj : ∀ x y c, cl.lookup x = some c → cl.lookup y = some c → x = y
  has : ∀ (i : Nat) (y : Str), fr[i]? = some y → ∃ c v, cl.lookup y = some c ∧ ws[i]? = some v ∧ H c = some (cellO c v)
theorem Clo.step {M : List Addr} {H H' : Hp} {f : Addr} {st : Stmt} {name qual : Str} {fr : List Str} {ws : List V} {cl : List (Str × Addr)} {c' : Addr} (c : Clo H f st name qual fr ws cl c') (s : Stp M H H') : Clo H' f st name qual fr ws cl c' := by
  refine ⟨s.fix c.fn True.intro, s.fix c.code True.intro, c.len, fun y a e => ?_, c.inj, fun i y e => ?_⟩
  · obtain ⟨v, h⟩ := c.cells y a e
    exact ⟨v, s.fix h True.intro⟩
  · obtain ⟨a, v, h1, h2, h3⟩ := c.has i y e
    exact ⟨a, v, h1, h2, s.fix h3 True.intro⟩

/-- the cells of a list tracked too -/
def track (cl : List (Str × Addr)) (val : Addr → HO) (H : Hp) : Hp := fun b => match H b with
  | some o => some o
  | none => if b ∈ cl.map (·.2) then some (val b) else none
theorem track_some {cl : List (Str × Addr)} {val : Addr → HO} {H : Hp} {b : Addr} {o : HO} (h : H b = some o) : track cl val H b = some o := by
  unfold track; rw [h]
theorem track_cell {cl : List (Str × Addr)} {val : Addr → HO} {H : Hp} {b : Addr} (h : H b = none) (m : b ∈ cl.map (·.2)) : track cl val H b = some (val b) := by
  unfold track; rw [h]; exact if_pos m
theorem track_out {cl : List (Str × Addr)} {val : Addr → HO} {H : Hp} {b : Addr} (m : b ∉ cl.map (·.2)) : track cl val H b = H b := by
  unfold track
  cases h : H b with
  | some o => rfl
  | none => exact if_neg m
theorem track_none {cl : List (Str × Addr)} {val : Addr → HO} {H : Hp} {b : Addr} (h : track cl val H b = none) : H b = none ∧ b ∉ cl.map (·.2) := by
  unfold track at h
  cases e : H b with
  | some o => rw [e] at h; cases h
  | none =>
    rw [e] at h
    refine ⟨rfl, fun m => ?_⟩
    have h : (if b ∈ cl.map (·.2) then some (val b) else none) = none := h
    rw [if_pos m] at h
    cases h
theorem track_ok {P : Program} {w : World} {H : Hp} {h : Heap} {cl : List (Str × Addr)} {val : Addr → HO} (hok : HOk P w H h) (hv : ∀ b ∈ cl.map (·.2), H b = none → ObjOk P w (track cl val H) h b (val b)) : HOk P w (track cl val H) h := fun b o e => by
  cases q : H b with
  | some u =>
    rw [track_some q] at e
    cases e
    exact (hok b o q).stay (fun _ _ _ z => z) (fun c z => track_some z) fun c xs z => track_some z
  | none =>
    by_cases m : b ∈ cl.map (·.2)
    · rw [track_cell q m] at e
      cases e
      exact hv b m q
    · rw [track_out m, q] at e; cases e

/-- the body of a def that makes a function and hands it out has come to its end -/
def Made (X : Cx) (σ : L2.St) (H : Hp) (T : List NTab) (i : Nat) (st : Stmt) (nm : Str) : Flow → Shared → Prop := fun fl s' => ∃ f' c' H1, Inv X [] (σ.set i (some (.ref f'))) H1 s' ∧ fl = .ret (.ref f') ∧ ExtN H H1 ∧ (∀ b, H1 b = Option.none → H b = Option.none) ∧ TabsN T H1 ∧ H f' = none ∧
  H1 f' = some (FnO f' (NF.of st nm (X.env.qual ++ nm) (cloFrom X.env.cells (C8.fnScope st).names []) c')) ∧ H1 c' = some (CodeO c' (X.env.qual ++ nm))
theorem mk_body {X : Cx} {σ : L2.St} {H : Hp} {s : Shared} {c P' : Addr} {nm : Str} {pos pos2 pos3 : Pos} {T : List NTab} {nmf : Nat → Nat → Str} {i : Nat} {st : Stmt} (I : Inv X [] σ H s)
    (hst : st = .FunctionDef nm (C8.fnArgs st) (C8.fnBody st) [] none [] (C8.fnScope st) none nm pos)
    (TB : TabB X.base X.mg c P') (hcode : X.env.code = .ref c) (hm : (P', nmf) ∈ T) (hn : nmf pos.line pos.col = X.env.qual ++ nm) (hu : ∀ p ∈ T, p.1 = P' → p.2 = nmf)
    (hfree : ∀ y ∈ (C8.fnScope st).names, y.2 = .free → X.env.scope.names.lookup y.1 = some .cell)
    (hd0 : (C8.fnArgs st).defaults = []) (hk0 : (C8.fnArgs st).kw_defaults = []) (ha : annTrees (C8.fnArgs st) none X.env = []) (hN : X.N.Nodup) (hf : X.fn nm = true ∨ X.env.scope.names.lookup nm = some .local)
    (hi : X.N[i]? = some nm) (hx : X.env.scope.names.lookup nm = some .local) (hdb : (nm == ("__debug__" : Str)) = false) (hcb : (nm == ("__classdict__" : Str)) = false) (hT : TabsN T H) :
    wpAny (model X.prog X.w) X.A (execs [st, .Return (some (.Name nm pos3)) pos2] X.env) (Made X σ H T i st nm) X.xe s := by
  have first := ps_ndefMS (X := X) (i := i) (T := T) (nm := nmf) (P := P') (c := c) hst TB hcode hm hn hu (fun y hy e => .inl (hfree y hy e)) hd0 hk0 ha hN hi (.inl hx) hf
  refine wpAny_execs_cons (thn (first.run [] s σ H ⟨fun σ1 H1 => ∃ f' c', σ1 = σ.set i (some (.ref f')) ∧ ExtN H H1 ∧ (∀ b, H1 b = Option.none → H b = Option.none) ∧ TabsN T H1 ∧ H f' = none ∧
      H1 f' = some (FnO f' (NF.of st nm (X.env.qual ++ nm) (cloFrom X.env.cells (C8.fnScope st).names []) c')) ∧ H1 c' = some (CodeO c' (X.env.qual ++ nm)), fun _ _ => False, fun _ _ => False, fun _ _ => False⟩ I
        ⟨hT, fun f' c' H1 e n t z e1 e2 => ⟨f', c', rfl, e, n, t, z, e1, e2⟩⟩) fun fl s2 q => ?_)
  cases fl with
  | next =>
    obtain ⟨σ1, H1, I1, f', c', rfl, e1, e2, e3, e4, e5, e6⟩ := q
    have hv : (σ.set i (some (V.ref f')))[i]? = some (some (.ref f')) := by
      have hlt : i < X.N.length := (List.getElem?_eq_some_iff.mp hi).1
      rw [List.getElem?_set_self (by rw [I.len]; exact hlt)]
    refine wpAny_execs_cons (wpAny_Return_some (pos := pos2) (thn ((pe_var (X := X) (pos := pos3) hi (.inl hx) hdb hcb).run [] s2 _ H1 (fun v H2 => v = .ref f' ∧ H2 = H1) I1 ⟨.ref f', hv, rfl, rfl⟩) fun u s3 q3 => ?_))
    obtain ⟨v, H2, I2, r2, ev, eH⟩ := q3
    subst ev
    subst eH
    obtain rfl : u = Value.ref f' := r2
    exact ⟨f', c', _, I2, rfl, e1, e2, e3, e4, e5, e6⟩
  | ret v => obtain ⟨_, _, _, _, _, z⟩ := q; exact z.elim
  | brk => obtain ⟨_, _, _, z⟩ := q; exact z.elim
  | cont => obtain ⟨_, _, _, z⟩ := q; exact z.elim
section
variable {P : Program} {w : World} {K : PySem.W.Frag} {mg : Str → Option Value} {base : Heap} {CX : CXT}

/-- a def that makes a function of its parameters and hands it out -/
theorem maker {k : Nat} {f c P' : Addr} {name qual nm : Str} {params : Arguments} {body : List Stmt} {scope : Scope} {dV kV doc pm ct oc : Value} {an od : Option Addr} {pos pos2 pos3 : Pos}
    {osl : Array (Option Value)} {N ps fr : List Str} {sp : Sp} {T : List NTab} {nmf : Nat → Nat → Str} {i : Nat} {st : Stmt} {ix : List Nat} (lk : K.lookup f = some ⟨oc, od, .func (PySem.W.fnOf name qual params body scope dV kV doc pm an (.ref c) ct), osl⟩) (hcd : PySem.W.codeIn K (.ref c) qual = true) (S : FnScope N ps scope)
    (hst : st = .FunctionDef nm (C8.fnArgs st) (C8.fnBody st) [] none [] (C8.fnScope st) none nm pos)
    (hbody : body = [st, .Return (some (.Name nm pos3)) pos2])
    (TB : TabB base mg c P') (hm : (P', nmf) ∈ T) (hn : nmf pos.line pos.col = (qual ++ ".<locals>.") ++ nm) (hu : ∀ p ∈ T, p.1 = P' → p.2 = nmf) (hq : ∀ n g, (envOfC qual scope n g (.ref c)).qual = qual ++ ".<locals>.")
    (hfree : ∀ y ∈ (C8.fnScope st).names, y.2 = .free → scope.names.lookup y.1 = some .cell) (hfr : ∀ y ∈ fr, (y, NameKind.free) ∈ (C8.fnScope st).names) (hfr2 : ∀ y ∈ (C8.fnScope st).names, y.2 = .free → y.1 ∈ fr)
    (hd0 : (C8.fnArgs st).defaults = []) (hk0 : (C8.fnArgs st).kw_defaults = []) (ha : ∀ env, annTrees (C8.fnArgs st) none env = [])
    (hi : N[i]? = some nm) (hx : scope.names.lookup nm = some .local) (hip : ps.length ≤ i) (hdb : (nm == ("__debug__" : Str)) = false) (hcb : (nm == ("__classdict__" : Str)) = false)
    (hix : ix.map (fun j => ps[j]?) = fr.map some)
    (len : ∀ vs H Q E, sp vs H Q E → vs.length = ps.length)
    (hsp : ∀ vs H Q E, sp vs H Q E → TabsN T H ∧ ∀ (f' : Addr) (H' : Hp) (cl : List (Str × Addr)) (c' : Addr), ExtN H H' → (∀ b, H' b = Option.none → H b = Option.none) → TabsN T H' → H f' = none → Clo H' f' st nm ((qual ++ ".<locals>.") ++ nm) fr (ix.map fun j => vs.getD j .non) cl c' → Q (.ref f') H') :
    FnOk P w K mg base CX (k + 1) f (PySem.W.fnOf name qual params body scope dV kV doc pm an (.ref c) ct) ps sp := by
  refine ⟨len, fun A outer s H args us vs Q E hr e0 hb r hs => ?_⟩
  have hl := len _ _ _ _ hs
  have KX : K.In s.heap := e0.mod.kin.keeps fun b o e => (e0.bs b o e).1
  have lim : s.heap.NoLimit := e0.mod.nolimit.keeps fun b o e => (e0.bs b o e).1
  have hkind : ∀ y ∈ ps.zip us, scope.names.lookup y.1 = some .local ∨ (scope.names.lookup y.1 = some .cell ∧ ((cellsFrom (s.heap.objs.size + 1) scope.names []).lookup y.1).isSome = true) := fun ⟨n, v⟩ hy => by
    rcases S.par n (List.of_mem_zip hy).1 with q | q
    · exact .inl q
    · exact .inr ⟨q, PySem.W.cellsFrom_some _ _ _ (.inl q)⟩
  refine codeAny_call_function hr.depth (KX _ _ lk) rfl S.co S.gen rfl (PySem.W.codeRec_of KX hcd) (hb _ _ _ _ ?_)
  refine wpAny_newFunctionEnv_cells S.kind hkind fun env he s1 x => ?_
  subst he
  refine ⟨lim.keeps x.toInCall.keep, codeAny_func ?_⟩
  obtain ⟨hT, hend⟩ := hsp vs H Q E hs
  have I : Inv (cxOf CX P w K mg base N qual scope f (.ref c) A outer s H E) [] (L2.start N vs) H s1 := inv_start S hr.hd e0 hl r x
  have X0 : (cxOf CX P w K mg base N qual scope f (.ref c) A outer s H E).env.qual = qual ++ ".<locals>." := hq _ _
  have B := mk_body (X := cxOf CX P w K mg base N qual scope f (.ref c) A outer s H E) (pos2 := pos2) (pos3 := pos3) I hst TB rfl hm (by rw [X0]; exact hn) hu hfree hd0 hk0 (ha _) S.nd (.inl rfl) hi hx hdb hcb hT
  rw [← hbody] at B
  refine wpAny_mono B (fun fl s' hs => ?_) fun e s' hs => hs
  obtain ⟨f', c', H1, J, rfl, e1, e2, e3, e4, e5, e6⟩ := hs
  rw [X0] at e5 e6
  generalize hcl : cloFrom (cxOf CX P w K mg base N qual scope f (.ref c) A outer s H E).env.cells (C8.fnScope st).names [] = cl at e5
  have hcells : ∀ y ∈ (C8.fnScope st).names, y.2 = .free → ∃ a, (cxOf CX P w K mg base N qual scope f (.ref c) A outer s H E).env.cells.lookup y.1 = some a := fun y hy e => J.ok.has _ (.inl (hfree y hy e))
  have clm : ∀ y a, cl.lookup y = some a → (cxOf CX P w K mg base N qual scope f (.ref c) A outer s H E).env.cells.lookup y = some a := fun y a e => clo_cm hcells (by rw [hcl]; exact e)
  have clf : ∀ y a, (y, a) ∈ cl → y ∈ fr ∧ cl.lookup y = some a := fun y a m => by
    rw [← hcl] at m
    rcases cloFrom_mem m with z | ⟨z1, z2⟩
    · cases z
    · obtain ⟨a1, h1⟩ := hcells _ z1 rfl
      have h1 : (cxOf CX P w K mg base N qual scope f (.ref c) A outer s H E).env.cells.lookup y = some a1 := h1
      have h2 := clo_has hcells z1 h1
      rw [hcl] at h2
      have e : a = a1 := by rw [z2, h1]; rfl
      rw [e]
      exact ⟨hfr2 _ z1 rfl, h2⟩
  -- what each captured name holds
  have val : ∀ y ∈ fr, ∃ a v u, cl.lookup y = some a ∧ L2.RelV v u ∧ s'.heap.IsCell a (some u) ∧ ∀ m : Nat, fr[m]? = some y → (ix.map fun j => vs.getD j .non)[m]? = some v := by
    intro y hy
    obtain ⟨m, hm'⟩ := List.mem_iff_getElem?.mp hy
    have q : (ix.map fun j => ps[j]?)[m]? = some (some y) := by rw [hix, List.getElem?_map, hm']; rfl
    rw [List.getElem?_map] at q
    cases ej : ix[m]? with
    | none => rw [ej] at q; cases q
    | some j =>
      rw [ej] at q
      have hj : ps[j]? = some y := Option.some.inj q
      have hjl : j < ps.length := (List.getElem?_eq_some_iff.mp hj).1
      have hNj : N[j]? = some y := by
        rw [← hj, ← S.pre, List.getElem?_take_of_lt hjl]
      obtain ⟨v, hv⟩ : ∃ v, vs[j]? = some v := ⟨vs[j]'(by omega), by simp [show j < vs.length by omega]⟩
      have hs : ((L2.start N vs).set i (some (V.ref f')))[j]? = some (some v) := by
        rw [List.getElem?_set_ne (by omega)]
        unfold L2.start
        rw [List.getElem?_append_left (by rw [List.length_map]; omega), List.getElem?_map, hv] <;> rfl
      have kc : scope.names.lookup y = some .cell := hfree _ (hfr y hy) rfl
      obtain ⟨mm, hn2, hl2⟩ := J.loc
      obtain ⟨u, ru, lk2⟩ := hl2 j y v hNj hs (.inr (.inl kc))
      rcases lk2 with ⟨z, _⟩ | ⟨_, a, ha2, hcell⟩
      · have z' : scope.names.lookup y = some .local := z
        rw [kc] at z'; cases z'
      · have h2 := clo_has hcells (hfr y hy) ha2
        rw [hcl] at h2
        refine ⟨a, v, u, h2, ru, hcell, fun m' hm2 => ?_⟩
        -- any place of y
        have q2 : (ix.map fun j => ps[j]?)[m']? = some (some y) := by rw [hix, List.getElem?_map, hm2]; rfl
        rw [List.getElem?_map] at q2
        cases ej2 : ix[m']? with
        | none => rw [ej2] at q2; cases q2
        | some j2 =>
          rw [ej2] at q2
          have hj2 : ps[j2]? = some y := Option.some.inj q2
          have ndP : ps.Nodup := by rw [← S.pre]; exact S.nd.sublist (List.take_sublist _ _)
          have : j2 = j := L2.nodup_ix ndP hj2 hj
          subst this
          rw [List.getElem?_map, ej2]
          show some (vs.getD j2 .non) = some v
          rw [List.getD_eq_getElem?_getD, hv] <;> rfl
  let pick : Addr → HO := fun a => cellO a (match cl.find? (fun p => p.2 == a) with | some p => (match fr.findIdx? (fun z => z == p.1) with | some m => (ix.map fun j => vs.getD j .non).getD m .non | none => .non) | none => .non)
  have pick_of : ∀ y a, cl.lookup y = some a → ∀ v, (∀ m : Nat, fr[m]? = some y → (ix.map fun j => vs.getD j .non)[m]? = some v) → y ∈ fr → pick a = cellO a v := by
    intro y a hya v hv hy
    show cellO a _ = cellO a v
    have hmem : (y, a) ∈ cl := PySem.mem_of_lookup hya
    cases ef : cl.find? (fun p => p.2 == a) with
    | none =>
      have := List.find?_eq_none.mp ef (y, a) hmem
      simp at this
    | some p =>
      have hp1 := List.find?_some ef
      have hp2 := List.mem_of_find?_eq_some ef
      have e1 : p.2 = a := by simpa using hp1
      obtain ⟨hpf, hpl⟩ := clf p.1 p.2 hp2
      rw [e1] at hpl
      have ey : p.1 = y := J.ok.inj _ _ _ (clm _ _ hpl) (clm _ _ hya)
      show cellO a (match fr.findIdx? (fun z => z == p.1) with | some m => (ix.map fun j => vs.getD j .non).getD m .non | none => .non) = cellO a v
      rw [ey]
      cases ei : fr.findIdx? (fun z => z == y) with
      | none =>
        have := List.findIdx?_eq_none_iff.mp ei y hy
        simp at this
      | some m =>
        obtain ⟨hm1, hm2, _⟩ := List.findIdx?_eq_some_iff_getElem.mp ei
        have e2 : fr[m] = y := by simpa using hm2
        have := hv m (by rw [List.getElem?_eq_getElem hm1, e2])
        show cellO a ((ix.map fun j => vs.getD j .non).getD m .non) = cellO a v
        rw [List.getD_eq_getElem?_getD, this] <;> rfl
  have offc : ∀ a, a ∈ cl.map (·.2) → H1 a = none ∧ s.heap.objs.size ≤ a := fun a m => by
    obtain ⟨p, hp, rfl⟩ := List.mem_map.mp m
    obtain ⟨_, h2⟩ := clf p.1 p.2 hp
    exact ⟨J.freeC _ _ (clm _ _ h2), J.ok.cab _ _ rfl (clm _ _ h2)⟩
  have hok2 : HOk P w (track cl pick H1) s'.heap := track_ok J.hok fun a m _ => by
    obtain ⟨p, hp, rfl⟩ := List.mem_map.mp m
    obtain ⟨hy, h2⟩ := clf p.1 p.2 hp
    obtain ⟨a', v, u, h3, h4, h5, h6⟩ := val p.1 hy
    rw [h2] at h3
    cases h3
    rw [pick_of _ _ h2 v h6 hy]
    exact cellO_ok h4 h5
  have un2 : Un (frs outer) [] H (track cl pick H1) s.heap s'.heap := by
    have u := J.base
    refine ⟨u.keep, u.slot, fun b o q n hb => ?_, u.there, fun b xs q => track_some (u.tups b xs q), fun b o xs q => track_some (u.frzs b o xs q), fun b xs q => ?_⟩
    · rw [track_out fun m => absurd (Heap.lt_size q) (Nat.not_lt.mpr (offc b m).2)]
      exact u.free b o q n hb
    · obtain ⟨more, h2⟩ := u.tbls b xs q
      exact ⟨more, track_some h2⟩
  refine ⟨.ref f', track cl pick H1, J.os, J.bare, un2, hok2, rfl, hend f' _ cl c' (fun b o q n => track_some (e1 b o q n)) (fun b q => e2 b (track_none q).1) (e3.ext fun b o q => track_some q) e4 ?_⟩
  refine ⟨track_some e5, track_some e6, ?_, fun y a e => ?_, fun x y a h1 h2 => J.ok.inj _ _ _ (clm _ _ h1) (clm _ _ h2), fun m y e => ?_⟩
  · have := congrArg List.length hix
    rw [List.length_map, List.length_map] at this
    rw [List.length_map]; exact this
  · have m : a ∈ cl.map (·.2) := List.mem_map.mpr ⟨(y, a), e, rfl⟩
    exact ⟨_, track_cell (offc a m).1 m⟩
  · have hy := List.mem_of_getElem? e
    obtain ⟨a, v, u, h3, h4, h5, h6⟩ := val y hy
    have m' : a ∈ cl.map (·.2) := List.mem_map.mpr ⟨(y, a), PySem.mem_of_lookup h3, rfl⟩
    refine ⟨a, v, h3, h6 m e, ?_⟩
    rw [track_cell (offc a m').1 m', pick_of _ _ h3 v h6 hy]

/-! ### such a function called -/
def untrack (cl : List (Str × Addr)) (H : Hp) : Hp := fun b => if b ∈ cl.map (·.2) then none else H b
def retrack (cl : List (Str × Addr)) (H H' : Hp) : Hp := fun b => match H' b with
  | some o => some o
  | none => if b ∈ cl.map (·.2) then H b else none
theorem retrack_some {cl : List (Str × Addr)} {H H' : Hp} {b : Addr} {o : HO} (h : H' b = some o) : retrack cl H H' b = some o := by unfold retrack; rw [h]
theorem retrack_cell {cl : List (Str × Addr)} {H H' : Hp} {b : Addr} (h : H' b = none) (m : b ∈ cl.map (·.2)) : retrack cl H H' b = H b := by unfold retrack; rw [h]; exact if_pos m
theorem retrack_out {cl : List (Str × Addr)} {H H' : Hp} {b : Addr} (m : b ∉ cl.map (·.2)) : retrack cl H H' b = H' b := by
  unfold retrack
  cases h : H' b with
  | some o => rfl
  | none => exact if_neg m
theorem untrack_out {cl : List (Str × Addr)} {H : Hp} {b : Addr} (m : b ∉ cl.map (·.2)) : untrack cl H b = H b := if_neg m
theorem untrack_in {cl : List (Str × Addr)} {H : Hp} {b : Addr} (m : b ∈ cl.map (·.2)) : untrack cl H b = none := if_pos m
theorem untrack_some {cl : List (Str × Addr)} {H : Hp} {b : Addr} {o : HO} (h : untrack cl H b = some o) : b ∉ cl.map (·.2) ∧ H b = some o := by
  unfold untrack at h
  by_cases m : b ∈ cl.map (·.2)
  · rw [if_pos m] at h; cases h
  · rw [if_neg m] at h; exact ⟨m, h⟩
/-- no function, no cell -/
def Low : HO → Prop
  | .ext _ => False
  | _ => True
/-- what such a function promises; fin hands its end back to the caller's heap -/
structure COk (P : Program) (w : World) (K : PySem.W.Frag) (mg : Str → Option Value) (base : Heap) (CX : CXT) (k : Nat) (st : Stmt) (nm qual : Str) (ps fr : List Str) (sp : List V → Sp) : Prop where
  len : ∀ ws vs H Q E, sp ws vs H Q E → vs.length = ps.length
  run : ∀ (A : Around) (outer : List Env) (s : Shared) (H : Hp) (us : List Value) (vs : List V) (f : Addr) (cl : List (Str × Addr)) (c' : Addr) (ws : List V) (Q : VK) (E : XK), Room k A → Env0 P w K mg base A outer s H → Clo H f st nm qual fr ws cl c' → Vals vs us → sp ws vs H Q E →
    codeAny (model P w) A (.call (.ref f) ⟨us, []⟩) (CR CX0 outer P w H s Q E) s
theorem clo_mem {H : Hp} {f : Addr} {st : Stmt} {nm qual : Str} {fr : List Str} {ws : List V} {cl : List (Str × Addr)} {c' : Addr} (C : Clo H f st nm qual fr ws cl c') {b : Addr} (m : b ∈ cl.map (·.2)) : ∃ v, H b = some (cellO b v) := by
  obtain ⟨p, hp, rfl⟩ := List.mem_map.mp m
  exact C.cells p.1 p.2 hp
theorem cok_of {k : Nat} {st : Stmt} {nm qual : Str} {N ps fr : List Str} {sp : List V → Sp} (S : NScope N ps fr (C8.fnScope st))
    (hb : ∀ (cl : List (Str × Addr)) (c' : Addr) (doc pm ctv : Value) (us : List Value), us.length = ps.length → bindArgs ((NF.of st nm qual cl c').fd doc pm ctv) ⟨us, []⟩ = pure (ps.zip us)) (len : ∀ ws vs H Q E, sp ws vs H Q E → vs.length = ps.length)
    (hbody : ∀ (A : Around) (outer : List Env) (s : Shared) (f : Addr) (cl : List (Str × Addr)) (c' : Addr) (H H0 : Hp) (vs : List V) (ws : List V) (Q Q0 : VK) (E : XK), Room k (A.deeper (envF (NF.of st nm qual cl c') f s.heap.objs.size)) → sp ws vs H Q E → ws.length = fr.length →
      (∀ b o, H b = some o → Low o → H0 b = some o) → (∀ (v : V) (M : List Addr) (H2 : Hp), Stp M H0 H2 → (∀ H', Stp M H H' → (∀ b o, H2 b = some o → H' b = some o) → Q v H') → Q0 v H2) →
      ∃ t, PSs (ncx CX0 P w K mg base N (NF.of st nm qual cl c') f A outer s H0 E) (C8.fnBody st) t ∧ t { nx := fun _ H' => Q0 .non H', rt := Q0 } (startF N vs (ws.map some)) H0) :
    COk P w K mg base CX (k + 1) st nm qual ps fr sp := by
  refine ⟨len, fun A outer s H us vs f cl c' ws Q E hr e0 C r hsp => ?_⟩
  have cellN : ∀ b, b ∈ cl.map (·.2) → ∃ v, H b = some (cellO b v) := fun b m => clo_mem C m
  have lo : ∀ b o, H b = some o → (∀ v, o ≠ cellO b v) → untrack cl H b = some o := fun b o e n => by
    rw [untrack_out fun m => ?_]
    · exact e
    · obtain ⟨v, hv⟩ := cellN b m
      rw [e] at hv
      exact n v (Option.some.inj hv)
  have nf : untrack cl H f = some (FnO f (NF.of st nm qual cl c')) := by
    have ho := fnO_at e0.hok C.fn
    rw [untrack_out fun m => ?_]
    · exact C.fn
    · obtain ⟨v, hv⟩ := cellN f m
      obtain ⟨u, _, o, h1, h2⟩ := cellO_at e0.hok hv
      obtain ⟨od, sl, doc, pm, ctv, h3⟩ := ho
      rw [h1] at h3
      cases h3
      cases h2
  have nc : untrack cl H c' = some (CodeO c' qual) := by
    have ho := codeO_at e0.hok C.code
    rw [untrack_out fun m => ?_]
    · exact C.code
    · obtain ⟨v, hv⟩ := cellN c' m
      obtain ⟨u, _, o, h1, h2⟩ := cellO_at e0.hok hv
      obtain ⟨c2, oc, vs2, t, e1, h3, h4, _⟩ := ho
      cases e1
      rw [h1] at h3
      cases h3
      rw [h2] at h4
      cases h4
  have hok0 : HOk P w (untrack cl H) s.heap := fun b o e => by
    obtain ⟨m, e⟩ := untrack_some e
    refine (e0.hok b o e).stay (fun _ _ _ z => z) (fun d z => lo d _ z fun v q => ?_) fun d xs z => lo d _ z fun v q => ?_
    · cases q
    · cases q
  have env0 : Env0 P w K mg base A outer s (untrack cl H) := ⟨e0.frames, e0.mod, fun b o e => ⟨(e0.bs b o e).1, by
      unfold untrack
      split
      · rfl
      · exact (e0.bs b o e).2⟩, e0.bsz, e0.funs, fun b hb => by
      unfold untrack
      split
      · rfl
      · exact e0.frf b hb, hok0, e0.bare⟩
  have cells : CellsAt cl fr (ws.map some) s.heap (untrack cl H) := by
    refine ⟨by rw [List.length_map]; exact C.len, fun y a e => ?_, C.inj, fun i y e => ?_⟩
    · have m : a ∈ cl.map (·.2) := List.mem_map.mpr ⟨(y, a), PySem.mem_of_lookup e, rfl⟩
      obtain ⟨v, hv⟩ := cellN a m
      obtain ⟨u, _, z⟩ := cellO_at e0.hok hv
      exact ⟨untrack_in m, _, z⟩
    · obtain ⟨a, v, h1, h2, h3⟩ := C.has i y e
      refine ⟨a, h1, fun v' e' => ?_⟩
      rw [List.getElem?_map, h2] at e'
      cases e'
      exact cellO_at e0.hok h3
  let Q0 : VK := fun v H2 => (∀ b ∈ cl.map (·.2), H2 b = none) → Q v (retrack cl H H2)
  have nok : NOk P w K mg base CX0 (k + 1) f (NF.of st nm qual cl c') ps fr (fun ws' vs' H' Q' E' => ws' = ws.map some ∧ vs' = vs ∧ H' = untrack cl H ∧ Q' = Q0 ∧ E' = E) := by
    refine nok_of S (hb cl c') (fun _ _ _ _ _ h => by obtain ⟨_, rfl, _⟩ := h; exact len _ _ _ _ _ hsp) fun A1 outer1 s1 H1 vs1 ws1 Q1 E1 hr1 hf hc hl h => ?_
    obtain ⟨rfl, rfl, rfl, rfl, rfl⟩ := h
    refine hbody A1 outer1 s1 f cl c' H _ vs1 ws Q Q0 E1 hr1 hsp C.len (fun b o e n => lo b o e fun v q => ?_) fun v M H2 st2 hq hc2 => ?_
    · subst q; exact n
    · refine hq _ ⟨fun b o e n => ?_, fun b e => ?_⟩ fun b o e => retrack_some e
      · by_cases m : b ∈ cl.map (·.2)
        · rw [retrack_cell (hc2 b m) m]; exact e
        · exact retrack_some (st2.same b o (by rw [untrack_out m]; exact e) n)
      · by_cases m : b ∈ cl.map (·.2)
        · rw [retrack_cell (hc2 b m) m] at e; exact e
        · rw [retrack_out m] at e
          have := st2.dom b e
          rw [untrack_out m] at this
          exact this
  refine codeAny_mono (nok.run A outer s _ us vs _ Q0 E hr env0 nf nc cells r ⟨rfl, rfl, rfl, rfl, rfl⟩) fun rr s' hq => ?_
  cases rr with
  | error e => exact hq
  | ok fl =>
    cases fl with
    | next => exact hq
    | brk => exact hq
    | cont => exact hq
    | ret u =>
      obtain ⟨v, H2, os, bare, un, hok2, rv, q⟩ := hq
      have cellAt : ∀ b, b ∈ cl.map (·.2) → ∃ v u o, H b = some (cellO b v) ∧ L2.RelV v u ∧ s.heap.get? b = some o ∧ o.data = .cell (some u) ∧ untrack cl H b = none := fun b m => by
        obtain ⟨v, hv⟩ := cellN b m
        obtain ⟨u, h1, o, h2, h3⟩ := cellO_at e0.hok hv
        exact ⟨v, u, o, hv, h1, h2, h3, untrack_in m⟩
      have free2 : ∀ b ∈ cl.map (·.2), H2 b = none := fun b m => by
        obtain ⟨v, u, o, h1, h2, h3, h4, h5⟩ := cellAt b m
        exact un.free b o h3 h5 (by simp)
      refine ⟨v, retrack cl H H2, os, bare, ?_, ?_, rv, q free2⟩
      · have un0 : ∀ b, H b = none → untrack cl H b = none := fun b e => by
          unfold untrack
          split
          · rfl
          · exact e
        refine ⟨fun b o e n hb hx => un.keep b o e (un0 b n) hb hx, fun b o e n hb hx => un.slot b o e (un0 b n) hb hx, fun b o e n hx => ?_, un.there, fun b xs e => ?_, fun b o xs e => ?_, fun b xs e => ?_⟩
        · have m : b ∉ cl.map (·.2) := fun m => by
            obtain ⟨v, hv⟩ := cellN b m
            rw [n] at hv; cases hv
          rw [retrack_out m]
          exact un.free b o e (un0 b n) hx
        · exact retrack_some (un.tups b xs (lo b _ e fun v q => by cases q))
        · exact retrack_some (un.frzs b o xs (lo b _ e fun v q => by cases q))
        · obtain ⟨more, h2⟩ := un.tbls b xs (lo b _ e fun v q => by cases q)
          exact ⟨more, retrack_some h2⟩
      · intro b o e
        cases q2 : H2 b with
        | some u2 =>
          rw [retrack_some q2] at e
          cases e
          exact (hok2 b o q2).stay (fun _ _ _ z => z) (fun d z => retrack_some z) fun d xs z => retrack_some z
        | none =>
          by_cases m : b ∈ cl.map (·.2)
          · rw [retrack_cell q2 m] at e
            obtain ⟨v, u, o1, h1, h2, h3, h4, h5⟩ := cellAt b m
            rw [h1] at e
            cases e
            obtain ⟨sl, h6⟩ := un.any h3 h5 (by simp)
            exact cellO_ok h2 ⟨_, h6, h4⟩
          · rw [retrack_out m, q2] at e; cases e

/-- functions that a name may hold, by what they promise -/
structure TelOk (P : Program) (w : World) (K : PySem.W.Frag) (mg : Str → Option Value) (base : Heap) (k : Nat) (at_ : Addr → Hp → Prop) (sp : Addr → Sp) : Prop where
  fn : ∀ (H : Hp) (h : Heap) (f : Addr), HOk P w H h → at_ f H → PySem.W.FnAt f h
  ok : ∀ f vs H Q E, sp f vs H Q E → at_ f H
  run : ∀ (A : Around) (outer : List Env) (s : Shared) (H : Hp) (us : List Value) (vs : List V) (f : Addr) (Q : VK) (E : XK), Room k A → Env0 P w K mg base A outer s H → Vals vs us → sp f vs H Q E →
    codeAny (model P w) A (.call (.ref f) ⟨us, []⟩) (CR CX0 outer P w H s Q E) s
theorem COk.tel {k : Nat} {st : Stmt} {nm qual : Str} {ps fr : List Str} {sp : List V → Sp} (c : COk P w K mg base CX k st nm qual ps fr sp) :
    TelOk P w K mg base k (fun f H => ∃ ws cl c', Clo H f st nm qual fr ws cl c') (fun f vs H Q E => ∃ ws cl c', Clo H f st nm qual fr ws cl c' ∧ sp ws vs H Q E) := by
  refine ⟨fun H h f hok ⟨ws, cl, c', C⟩ => ?_, fun f vs H Q E ⟨ws, cl, c', C, _⟩ => ⟨ws, cl, c', C⟩, fun A outer s H us vs f Q E hr e0 r ⟨ws, cl, c', C, q⟩ => c.run A outer s H us vs f cl c' ws Q E hr e0 C r q⟩
  obtain ⟨od, sl, doc, pm, ctv, ho⟩ := fnO_at hok C.fn
  exact ⟨_, od, _, sl, ho⟩
theorem TelOk.or {k : Nat} {a1 a2 : Addr → Hp → Prop} {s1 s2 : Addr → Sp} (t1 : TelOk P w K mg base k a1 s1) (t2 : TelOk P w K mg base k a2 s2) :
    TelOk P w K mg base k (fun f H => a1 f H ∨ a2 f H) (fun f vs H Q E => s1 f vs H Q E ∨ s2 f vs H Q E) :=
  ⟨fun H h f hok a => a.elim (t1.fn H h f hok) (t2.fn H h f hok), fun f vs H Q E q => q.imp (t1.ok f vs H Q E) (t2.ok f vs H Q E), fun A outer s H us vs f Q E hr e0 r q => q.elim (t1.run A outer s H us vs f Q E hr e0 r) (t2.run A outer s H us vs f Q E hr e0 r)⟩
end
/-- f(..), f a local name -/
def tTel (i : Nat) (at_ : Addr → Hp → Prop) (sp : Addr → Sp) (t : TA) : TE := fun σ H Q => ∃ f, σ[i]? = some (some (.ref f)) ∧ at_ f H ∧ t σ H fun vs H1 => sp f vs H1 Q (fun _ _ _ => False)
section
variable {X : Cx} {k j i : Nat} {at_ : Addr → Hp → Prop} {sp : Addr → Sp} {t : TA} {x : Str} {e : Expr} {es : List Expr} {p pos : Pos}
theorem pe_callTel (c : TelOk X.prog X.w X.K X.mg X.base j at_ sp) (hr : Room k X.A) (hN : X.N[i]? = some x) (hv : Vis X.env.scope x) (ha : PA X (e :: es) t) (hk : j ≤ k := by decide)
    (hd : (x == ("__debug__" : Str)) = false := by decide) (hcd : (x == ("__classdict__" : Str)) = false := by decide)
    (he : starEach (e :: es) X.env = (false, eval e X.env) :: starEach es X.env := by rfl) (hpl : (backTo pos (starEach es X.env)).any (·.1) = false := by rfl) :
    PE X (.Call (.Name x p) (e :: es) [] pos) (tTel i at_ sp t) := by
  refine ⟨fun pins s σ H Q I h => ?_⟩
  obtain ⟨f, hs, hf, ht⟩ := h
  refine wpAny_Call_Name_kw (thn ((pe_var (pos := p) hN hv hd hcd).run pins s σ H (fun v H1 => v = .ref f ∧ H1 = H) I ⟨.ref f, hs, rfl, rfl⟩) fun u s1 ⟨v, H1, I1, r1, q1⟩ => ?_)
  obtain ⟨ev, eH⟩ := q1
  subst ev
  subst eH
  obtain rfl : u = Value.ref f := r1
  refine PySem.W.callWith_F (first := []) (c.fn H1 s1.heap f I1.hok hf) (thn (ha.run pos pins s1 σ H1 _ I1 ht) fun us s2 ⟨vs, H2, I2, r, q⟩ => ⟨c.fn H2 s2.heap f I2.hok (c.ok f vs H2 _ _ q), ?_⟩) he hpl
  show wpAny _ _ (call (.ref f) us) _ _ _
  refine wpAny_call (codeAny_mono (c.run X.A X.stack s2 H2 us vs f Q _ (hr.mono hk) I2.env0 r q) fun r s' hq => ?_)
  cases r with
  | error e => exact hq.elim
  | ok fl =>
    cases fl with
    | ret u => exact I2.after hq
    | next => exact False.elim hq
    | brk => exact False.elim hq
    | cont => exact False.elim hq
theorem r_tel {σ : L2.St} {H : Hp} {Q : VK} {f : Addr} (hs : σ[i]? = some (some (.ref f))) (h : at_ f H) (k : t σ H fun vs H1 => sp f vs H1 Q (fun _ _ _ => False)) : tTel i at_ sp t σ H Q := ⟨f, hs, h, k⟩
end
end SH

set_option Elab.async false
set_option linter.all false
set_option maxRecDepth 100000
set_option maxHeartbeats 4000000
/-! SHE: data, and what == tells of it -/
namespace SH
open PySem PySem.Spec PyProof.Rows L2

/-- Lean values that stand in the heap as data; n: how deep -/
class Enc (α : Type) where
  dec : DecidableEq α
  d : α → PyData
  n : Nat
  lay : ∀ x, (d x).canLay0 = true
  deep : ∀ x, (d x).depth ≤ n
  eqv : ∀ x y, PyData.eqv (d x) (d y) = @decide (x = y) (dec x y)
/-- a tuple of one kind of things -/
structure Tu (α : Type) where
  l : List α
theorem Enc.deepAll {α : Type} [Enc α] : ∀ xs : List α, PyData.depthAll (xs.map Enc.d) ≤ Enc.n α
  | [] => by simp [PyData.depthAll]
  | x :: xs => by
    have h1 := Enc.deep x
    have h2 := Enc.deepAll xs
    simp only [List.map_cons, PyData.depthAll]
    omega
theorem Enc.layAll {α : Type} [Enc α] : ∀ xs : List α, PyData.canLayAll0 (xs.map Enc.d) = true
  | [] => by simp [PyData.canLayAll0]
  | x :: xs => by simp only [List.map_cons, PyData.canLayAll0, Enc.lay x, Enc.layAll xs, Bool.and_self]
theorem Enc.eqvAll {α : Type} [Enc α] : ∀ xs ys : List α, PyData.eqvAll (xs.map Enc.d) (ys.map Enc.d) = @decide (xs = ys) (@instDecidableEqList α Enc.dec xs ys)
  | [], [] => by simp [PyData.eqvAll]
  | x :: xs, [] => by simp [PyData.eqvAll]
  | [], y :: ys => by simp [PyData.eqvAll]
  | x :: xs, y :: ys => by
    rw [List.map_cons, List.map_cons, show PyData.eqvAll (Enc.d x :: xs.map Enc.d) (Enc.d y :: ys.map Enc.d) = (PyData.eqv (Enc.d x) (Enc.d y) && PyData.eqvAll (xs.map Enc.d) (ys.map Enc.d)) by simp only [PyData.eqvAll], Enc.eqv, Enc.eqvAll xs ys]
    have : ∀ (A B C : Prop) (a : Decidable A) (b : Decidable B) (c : Decidable C), (C ↔ A ∧ B) → (@decide A a && @decide B b) = @decide C c := by
      intro A B C a b c h
      by_cases ha : A <;> by_cases hb : B <;> simp [ha, hb, h]
    exact this _ _ _ _ _ _ (by simp)
instance : Enc Int := ⟨inferInstance, .int, 0, fun _ => by simp [PyData.canLay0], fun _ => by simp [PyData.depth], fun x y => by by_cases h : x = y <;> simp [PyData.eqv, h]⟩
instance : Enc Bool := ⟨inferInstance, .bool, 0, fun _ => by simp [PyData.canLay0], fun _ => by simp [PyData.depth], fun x y => by by_cases h : x = y <;> simp [PyData.eqv, h]⟩
instance : Enc Nat := ⟨inferInstance, fun n => .int n, 0, fun _ => by simp [PyData.canLay0], fun _ => by simp [PyData.depth], fun x y => by
  rw [show PyData.eqv (.int (x : Int)) (.int (y : Int)) = ((x : Int) == (y : Int)) by simp only [PyData.eqv]]
  by_cases h : x = y
  · subst h; simp
  · rw [decide_eq_false h]
    exact beq_eq_false_iff_ne.mpr (by omega)⟩
instance {α : Type} [e : Enc α] : Enc (List α) := ⟨@instDecidableEqList α e.dec, fun xs => .list (xs.map Enc.d), Enc.n α + 1, fun xs => by simp only [PyData.canLay0]; exact Enc.layAll xs,
  fun xs => by simp only [PyData.depth]; exact Nat.succ_le_succ (Enc.deepAll xs), fun xs ys => by simp only [PyData.eqv]; exact Enc.eqvAll xs ys⟩
instance {α : Type} [e : Enc α] : Enc (Tu α) := ⟨fun a b => @decidable_of_iff _ (a.l = b.l) (by cases a; cases b; simp) (@instDecidableEqList α e.dec a.l b.l), fun xs => .tuple (xs.l.map Enc.d), Enc.n α + 1, fun xs => by simp only [PyData.canLay0]; exact Enc.layAll xs.l,
  fun xs => by simp only [PyData.depth]; exact Nat.succ_le_succ (Enc.deepAll xs.l), fun xs ys => by
    simp only [PyData.eqv]
    rw [Enc.eqvAll xs.l ys.l]
    cases xs; cases ys
    simp⟩
instance {α β : Type} [e : Enc α] [f : Enc β] : Enc (α × β) := ⟨@instDecidableEqProd α β e.dec f.dec, fun x => .tuple [Enc.d x.1, Enc.d x.2], max (Enc.n α) (Enc.n β) + 1,
  fun x => by simp only [PyData.canLay0, PyData.canLayAll0, Enc.lay]; rfl,
  fun x => by
    have h1 := Enc.deep x.1
    have h2 := Enc.deep x.2
    simp only [PyData.depth, PyData.depthAll]; omega, fun x y => by
    simp only [PyData.eqv, PyData.eqvAll, Enc.eqv, Bool.and_true]
    obtain ⟨a, b⟩ := x
    obtain ⟨c, d⟩ := y
    by_cases ha : a = c <;> by_cases hb : b = d <;> simp [ha, hb]⟩
/-- three in a tuple -/
structure T3 (α β γ : Type) where
  a : α
  b : β
  c : γ
deriving DecidableEq
instance {α β γ : Type} [e : Enc α] [f : Enc β] [g : Enc γ] : Enc (T3 α β γ) := ⟨@instDecidableEqT3 α β γ e.dec f.dec g.dec, fun x => .tuple [Enc.d x.a, Enc.d x.b, Enc.d x.c], max (Enc.n α) (max (Enc.n β) (Enc.n γ)) + 1,
  fun x => by simp only [PyData.canLay0, PyData.canLayAll0, Enc.lay]; rfl,
  fun x => by
    have h1 := Enc.deep x.a
    have h2 := Enc.deep x.b
    have h3 := Enc.deep x.c
    simp only [PyData.depth, PyData.depthAll]; omega, fun x y => by
    simp only [PyData.eqv, PyData.eqvAll, Enc.eqv, Bool.and_true]
    obtain ⟨a, b, c⟩ := x
    obtain ⟨a', b', c'⟩ := y
    by_cases ha : a = a' <;> by_cases hb : b = b' <;> by_cases hc : c = c' <;> simp [ha, hb, hc]⟩

/-- a text of plain signs -/
abbrev SOk := { s : Str // PyData.canLay0 (.str s) = true }
instance : Enc SOk := ⟨inferInstance, fun s => .str s.1, 0, fun s => s.2, fun _ => by simp [PyData.depth], fun x y => by
  rw [show PyData.eqv (.str x.1) (.str y.1) = (x.1 == y.1) by simp only [PyData.eqv]]
  by_cases h : x = y
  · subst h; simp
  · rw [decide_eq_false h]
    exact beq_eq_false_iff_ne.mpr fun z => h (Subtype.ext z)⟩

mutual
theorem dp_stp {K : PySem.W.Frag} {H H' : Hp} (S : Stp [] H H') : ∀ (d : PyData) (v : V), Dp K H v d → Dp K H' v d
  | .none, _, h => by cases h; exact .non
  | .bool _, _, h => by cases h; exact .bl _
  | .int _, _, h => by cases h; exact .int _
  | .str _, _, h => by cases h; exact .str _
  | .list ds, _, h => by
    cases h with
    | lst hs ha => exact .lst (S.sql0 hs) (dp_stpAll S ds _ ha)
  | .tuple ds, _, h => by
    cases h with
    | tup hs ha => exact .tup (S.sqt0 hs) (dp_stpAll S ds _ ha)
  | .dict _, _, h => by cases h
theorem dp_stpAll {K : PySem.W.Frag} {H H' : Hp} (S : Stp [] H H') : ∀ (ds : List PyData) (vs : List V), DpAll K H vs ds → DpAll K H' vs ds
  | [], _, h => by cases h; exact .nil
  | d :: ds, _, h => by
    cases h with
    | cons h1 h2 => exact .cons (dp_stp S d _ h1) (dp_stpAll S ds _ h2)
end

mutual
/-- no list in it -/
def noL : PyData → Bool
  | .none | .bool _ | .int _ | .str _ => true
  | .tuple xs => noLs xs
  | .list _ => false
  | .dict _ => false
def noLs : List PyData → Bool
  | [] => true
  | x :: xs => noL x && noLs xs
end
mutual
theorem dp_stpM {K : PySem.W.Frag} {M : List Addr} {H H' : Hp} (S : Stp M H H') : ∀ (d : PyData) (v : V), noL d = true → Dp K H v d → Dp K H' v d
  | .none, _, _, h => by cases h; exact .non
  | .bool _, _, _, h => by cases h; exact .bl _
  | .int _, _, _, h => by cases h; exact .int _
  | .str _, _, _, h => by cases h; exact .str _
  | .list _, _, n, _ => by simp [noL] at n
  | .tuple ds, _, n, h => by
    cases h with
    | tup hs ha => exact .tup (S.sqtM hs) (dp_stpMs S ds _ (by simpa [noL] using n) ha)
  | .dict _, _, _, h => by cases h
theorem dp_stpMs {K : PySem.W.Frag} {M : List Addr} {H H' : Hp} (S : Stp M H H') : ∀ (ds : List PyData) (vs : List V), noLs ds = true → DpAll K H vs ds → DpAll K H' vs ds
  | [], _, _, h => by cases h; exact .nil
  | d :: ds, _, n, h => by
    have n' : noL d = true ∧ noLs ds = true := by simpa [noLs] using n
    cases h with
    | cons h1 h2 => exact .cons (dp_stpM S d _ n'.1 h1) (dp_stpMs S ds _ n'.2 h2)
end
class Flat (α : Type) [Enc α] : Prop where
  fl : ∀ x : α, noL (Enc.d x) = true
instance : Flat Int := ⟨fun _ => by simp [Enc.d, noL]⟩
instance : Flat Nat := ⟨fun _ => by simp [Enc.d, noL]⟩
instance : Flat Bool := ⟨fun _ => by simp [Enc.d, noL]⟩
instance : Flat SOk := ⟨fun _ => by simp [Enc.d, noL]⟩
instance {α β : Type} [Enc α] [Enc β] [Flat α] [Flat β] : Flat (α × β) := ⟨fun x => by simp only [Enc.d, noL, noLs, Flat.fl]; rfl⟩
instance {α β γ : Type} [Enc α] [Enc β] [Enc γ] [Flat α] [Flat β] [Flat γ] : Flat (T3 α β γ) := ⟨fun x => by simp only [Enc.d, noL, noLs, Flat.fl]; rfl⟩
theorem noLs_map {α : Type} [Enc α] [Flat α] : ∀ xs : List α, noLs (xs.map Enc.d) = true
  | [] => by simp [noLs]
  | x :: xs => by simp only [List.map_cons, noLs, Flat.fl, noLs_map xs, Bool.and_self]
instance {α : Type} [Enc α] [Flat α] : Flat (Tu α) := ⟨fun x => by simp only [Enc.d, noL]; exact noLs_map x.l⟩

/-- v is x, in the heap H -/
def Is {α : Type} [Enc α] (K : PySem.W.Frag) (H : Hp) (v : V) (x : α) : Prop := Dp K H v (Enc.d x)
def IsL {α : Type} [Enc α] (K : PySem.W.Frag) (H : Hp) (vs : List V) (xs : List α) : Prop := DpAll K H vs (xs.map Enc.d)
section
variable {K : PySem.W.Frag} {H H' : Hp} {α β γ : Type} [Enc α] [Enc β] [Enc γ] {p : Addr} {vs : List V} {xs : List α} {v u t : V} {x y : α} {b : β} {c : γ} {Q : VK}
theorem is_int {n : Int} : Is K H (.int n) n := .int n
theorem is_nat {n : Nat} : Is K H (.int n) n := .int n
theorem is_str {s : Str} (h : PyData.canLay0 (.str s) = true) : Is K H (.str s) (⟨s, h⟩ : SOk) := .str s
theorem is_stp (S : Stp [] H H') (h : Is K H v x) : Is K H' v x := dp_stp S _ _ h
theorem isl_stp (S : Stp [] H H') (h : IsL K H vs xs) : IsL K H' vs xs := dp_stpAll S _ _ h
theorem is_stpM [Flat α] {M : List Addr} (S : Stp M H H') (h : Is K H v x) : Is K H' v x := dp_stpM S _ _ (Flat.fl x) h
theorem isl_stpM [Flat α] {M : List Addr} (S : Stp M H H') (h : IsL K H vs xs) : IsL K H' vs xs := dp_stpMs S _ _ (noLs_map xs) h
theorem is_bl {b : Bool} : Is K H (.bl b) b := .bl b
theorem is_lst (h : SqL K H p vs) (k : IsL K H vs xs) : Is K H (.ref p) xs := .lst h k
theorem is_tu (h : SqT K H p vs) (k : IsL K H vs xs) : Is K H (.ref p) (Tu.mk xs) := .tup h k
theorem is_pr (h : SqT K H p [v, u]) (k : Is K H v x) (l : Is K H u b) : Is K H (.ref p) (x, b) := .tup h (.cons k (.cons l .nil))
theorem is_t3 (h : SqT K H p [v, u, t]) (k : Is K H v x) (l : Is K H u b) (m : Is K H t c) : Is K H (.ref p) (T3.mk x b c) := .tup h (.cons k (.cons l (.cons m .nil)))
theorem isl_nil : IsL K H [] ([] : List α) := .nil
theorem isl_cons (h : Is K H v x) (k : IsL K H vs xs) : IsL K H (v :: vs) (x :: xs) := .cons h k
theorem isl_map {f : α → V} (h : ∀ x ∈ xs, Is K H (f x) x) : IsL K H (xs.map f) xs := by
  induction xs with
  | nil => exact .nil
  | cons x xs ih => exact .cons (h x (by simp)) (ih fun y hy => h y (by simp [hy]))
theorem isl_map2 {β : Type} {l : List β} {f : β → V} {g : β → α} (h : ∀ b ∈ l, Is K H (f b) (g b)) : IsL K H (l.map f) (l.map g) := by
  induction l with
  | nil => exact .nil
  | cons x xs ih => exact .cons (h x (by simp)) (ih fun y hy => h y (by simp [hy]))
theorem isl_ints {ns : List Int} : IsL K H (ns.map V.int) ns := isl_map fun _ _ => is_int
theorem isl_nats {ns : List Nat} : IsL K H (ns.map fun n : Nat => V.int n) ns := isl_map fun _ _ => is_nat
theorem isl_bls {ns : List Bool} : IsL K H (ns.map V.bl) ns := isl_map fun _ _ => is_bl
theorem isl_app {vs' : List V} {xs' : List α} (h : IsL K H vs xs) (k : IsL K H vs' xs') : IsL K H (vs ++ vs') (xs ++ xs') := by
  induction vs generalizing xs with
  | nil => cases xs with
    | nil => exact k
    | cons x xs => cases h
  | cons v vs ih => cases xs with
    | nil => cases h
    | cons x xs => cases h with | cons h1 h2 => exact .cons h1 (ih (xs := xs) h2)
theorem isl_len (h : IsL K H vs xs) : vs.length = xs.length := by
  induction vs generalizing xs with
  | nil => cases xs with
    | nil => rfl
    | cons x xs => cases h
  | cons v vs ih => cases xs with
    | nil => cases h
    | cons x xs => cases h with | cons h1 h2 => simp [ih (xs := xs) h2]
theorem isl_at {i : Nat} {v : V} (h : IsL K H vs xs) (e : vs[i]? = some v) : ∃ x, xs[i]? = some x ∧ Is K H v x := by
  induction vs generalizing xs i with
  | nil => cases e
  | cons w vs ih => cases xs with
    | nil => cases h
    | cons x xs => cases h with | cons h1 h2 => cases i with
      | zero => cases e; exact ⟨x, rfl, h1⟩
      | succ i => exact ih (xs := xs) h2 e
theorem isl_get {i : Nat} {x : α} (h : IsL K H vs xs) (e : xs[i]? = some x) : ∃ v, vs[i]? = some v ∧ Is K H v x := by
  induction vs generalizing xs i with
  | nil => cases xs with
    | nil => cases e
    | cons x xs => cases h
  | cons w vs ih => cases xs with
    | nil => cases h
    | cons y xs => cases h with | cons h1 h2 => cases i with
      | zero => cases e; exact ⟨w, rfl, h1⟩
      | succ i => exact ih (xs := xs) h2 e
theorem is_shaped (hn : Enc.n α ≤ 64) : SeqAt.shaped (Enc.d x) = true := by
  unfold SeqAt.shaped
  rw [Enc.lay]
  exact decide_eq_true (Nat.le_trans (Enc.deep x) hn)
theorem v_eqE (h1 : Is K H v x) (h2 : Is K H u y) (k : Q (.bl (@decide (x = y) (Enc.dec x y))) H) (hn : Enc.n α ≤ 64 := by decide) : aEq K v u H Q :=
  v_eqD h1 h2 (is_shaped hn) (is_shaped hn) (by rw [Enc.eqv]; exact k)
theorem v_neE (h1 : Is K H v x) (h2 : Is K H u y) (k : Q (.bl (!@decide (x = y) (Enc.dec x y))) H) (hn : Enc.n α ≤ 64 := by decide) : aNe K v u H Q :=
  v_neD h1 h2 (is_shaped hn) (is_shaped hn) (by rw [Enc.eqv]; exact k)
theorem v_eqL {ns ms : List Int} {q : Addr} (h1 : SqL K H p (ns.map V.int)) (h2 : SqL K H q (ms.map V.int)) (k : Q (.bl (decide (ns = ms))) H) : aEq K (.ref p) (.ref q) H Q :=
  v_eqE (is_lst h1 isl_ints) (is_lst h2 isl_ints) (by rw [show @decide (ns = ms) (Enc.dec ns ms) = decide (ns = ms) by congr]; exact k)
theorem v_neL {ns ms : List Int} {q : Addr} (h1 : SqL K H p (ns.map V.int)) (h2 : SqL K H q (ms.map V.int)) (k : Q (.bl (!decide (ns = ms))) H) : aNe K (.ref p) (.ref q) H Q :=
  v_neE (is_lst h1 isl_ints) (is_lst h2 isl_ints) (by rw [show @decide (ns = ms) (Enc.dec ns ms) = decide (ns = ms) by congr]; exact k)
theorem v_neL0 {ns : List Int} {q : Addr} (h1 : SqL K H p (ns.map V.int)) (h2 : SqL K H q []) (k : Q (.bl (!decide (ns = []))) H) : aNe K (.ref p) (.ref q) H Q := v_neL (ms := []) h1 h2 k
theorem v_ixLast {ys : List V} (h : SqL K H p (ys ++ [v])) (k : Q v H) : aIx K (.ref p) (.int (-1)) H Q := ⟨_, v, .inl h, atI_last ys v, k⟩
theorem v_neN0 {ns : List Nat} {q : Addr} (h1 : SqL K H p (ns.map fun n : Nat => V.int n)) (h2 : SqL K H q []) (k : Q (.bl (!decide (ns = []))) H) : aNe K (.ref p) (.ref q) H Q :=
  v_neE (y := []) (is_lst h1 isl_nats) (is_lst h2 isl_nil) (by rw [show @decide (ns = []) (Enc.dec ns []) = decide (ns = []) by congr]; exact k)
theorem v_ixMod {vs : List V} {c : Int} {m : Nat} (h : SqL K H p vs) (hl : vs.length = m) (hm : 0 < m) (k : ∀ v ∈ vs, Q v H) : aIx K (.ref p) (.int (c % (m : Int))) H Q := by
  have h0 := Int.emod_nonneg c (show (m : Int) ≠ 0 by omega)
  have h1 := Int.emod_lt_of_pos c (show (0 : Int) < m by omega)
  have e : c % (m : Int) = ((c % (m : Int)).toNat : Int) := by omega
  have hlt : (c % (m : Int)).toNat < vs.length := by omega
  exact v_ixLn h e (List.getElem?_eq_getElem hlt) (k _ (List.getElem_mem hlt))
theorem v_ixAny {vs : List V} {i : Int} {n : Nat} (h : SqL K H p vs) (e : i = n) (hn : n < vs.length) (k : ∀ v ∈ vs, Q v H) : aIx K (.ref p) (.int i) H Q := v_ixLn h e (List.getElem?_eq_getElem hn) (k _ (List.getElem_mem hn))
/-- all are ints -/
def Ints (vs : List V) : Prop := ∀ v ∈ vs, ∃ n : Int, v = .int n
theorem ints_nil : Ints [] := fun _ h => by cases h
theorem ints_cons {n : Int} {vs : List V} (h : Ints vs) : Ints (.int n :: vs) := fun v hv => by
  rcases List.mem_cons.mp hv with rfl | hv
  · exact ⟨n, rfl⟩
  · exact h v hv
/-- a place of a list of ints -/
def getE (es : List Int) (i : Nat) : Int := es.getD i 0
theorem getE_at {es : List Int} {i : Nat} (h : i < es.length) : (es.map V.int)[i]? = some (V.int (getE es i)) := by simp [getE, h]
theorem getE_app {es : List Int} {i : Nat} {y : Int} (h : i < es.length) : getE (es ++ [y]) i = getE es i := by simp [getE, List.getElem?_append, h]
theorem getE_last {es : List Int} {i : Nat} {y : Int} (h : es.length = i) : getE (es ++ [y]) i = y := by subst h; simp [getE]
theorem v_ixE {es : List Int} {i : Int} {n : Nat} (h : SqL K H p (es.map V.int)) (e : i = n) (hn : n < es.length) (k : Q (.int (getE es n)) H) : aIx K (.ref p) (.int i) H Q := v_ixLn h e (getE_at hn) k
theorem v_ixTE {es : List Int} {i : Int} {n : Nat} (h : SqT K H p (es.map V.int)) (e : i = n) (hn : n < es.length) (k : Q (.int (getE es n)) H) : aIx K (.ref p) (.int i) H Q := v_ixTn h e (getE_at hn) k
theorem v_ixEl {es : List Int} {n : Nat} (h : SqL K H p (es.map V.int)) (e : es.length = n + 1) (k : Q (.int (getE es n)) H) : aIx K (.ref p) (.int (-1)) H Q := by
  rcases List.eq_nil_or_concat es with z | ⟨ys, y, z⟩
  · subst z; cases e
  · have hz : es = ys ++ [y] := by simpa using z
    subst hz
    rw [List.map_append] at h
    have hl : ys.length = n := by simpa using e
    rw [getE_last hl] at k
    exact v_ixLast h k
theorem v_eqLL {ns ms : List Int} {q : Addr} (h1 : SqL K H p (ns.map V.int)) (h2 : SqL K H q (ms.map V.int)) (e : ns = ms) (k : Q (.bl true) H) : aEq K (.ref p) (.ref q) H Q := v_eqL h1 h2 (by rw [decide_eq_true e]; exact k)
theorem v_lenQ {n : Nat} (h : SqL K H p vs) (e : vs.length = n) (k : Q (.int n) H) : aLen K [.ref p] H Q := ⟨_, .inl h, by rw [e]; exact k⟩
theorem v_lenU {n : Nat} (h : SqT K H p vs) (e : vs.length = n) (k : Q (.int n) H) : aLen K [.ref p] H Q := ⟨_, .inr h, by rw [e]; exact k⟩
/-- tuple(xs) -/
theorem v_tuL (h : SqL K H p vs) (k : ∀ l, H l = none → Q (.ref l) (upd H l (.tup vs))) : ∃ p' ys, [V.ref p] = [.ref p'] ∧ ((SqL K H p' ys ∧ ∀ l, H l = none → Q (.ref l) (upd H l (.tup ys))) ∨ (SqT K H p' ys ∧ Q (.ref p') H)) := ⟨p, vs, rfl, .inl ⟨h, k⟩⟩
/-- xs.pop(i) -/
theorem v_popAt {i : Int} {n : Nat} (h : H p = some (.lst vs)) (e : i = n) (hn : n < 1000000) (hv : vs[n]? = some v) (k : Q v (upd H p (.lst (vs.eraseIdx n)))) : rPopAt (.ref p) [.int i] H Q := by
  refine ⟨p, vs, i, n, v, rfl, rfl, h, by omega, by omega, ?_, hv, k⟩
  subst e
  exact (ixN_seq (ixN_n (List.getElem?_eq_some_iff.mp hv).1)).1
/-- sorted(xs), ints -/
theorem v_sortI {ns : List Int} (h : SqL K H p (ns.map V.int)) (k : ∀ (ns' : List Int) (q : Addr), ns'.Perm ns → ns'.Pairwise (· ≤ ·) → H q = none → Q (.ref q) (upd H q (.lst (ns'.map V.int)))) : rSortedI K [.ref p] H Q := ⟨p, ns, rfl, h, k⟩
/-- list(range(n)) -/
def kLrg1 (Q : VK) : VK := fun x H1 => ∃ n : Int, x = .int n ∧ RgOk 0 n ∧ ∀ q, H1 q = none → Q (.ref q) (upd H1 q (.lst (rgV 0 n)))
theorem r_lrg1 {ta : TE} {σ : L2.St} (h : ta σ H (kLrg1 Q)) : tLstRg (tRg1 ta) σ H Q := h
theorem rgV_nat (n : Nat) : rgV 0 (n : Int) = (List.range n).map fun i : Nat => V.int i := by unfold rgV; simp
theorem v_lrg1 {i : Int} {n : Nat} (e : i = n) (hn : n ≤ 1000000) (k : ∀ q, H q = none → Q (.ref q) (upd H q (.lst ((List.range n).map fun i : Nat => V.int i)))) : kLrg1 Q (.int i) H := by
  refine ⟨i, rfl, RgOk.of_le (by omega) (by omega) (by omega) (by omega), ?_⟩
  rw [e, rgV_nat]
  exact k
def kLrg2 (Q : VK) (x : V) : VK := fun y H2 => ∃ i j : Int, x = .int i ∧ y = .int j ∧ RgOk i j ∧ ∀ q, H2 q = none → Q (.ref q) (upd H2 q (.lst (rgV i j)))
theorem r_lrg2 {ta tb : TE} {σ : L2.St} (h : ta σ H fun x H1 => tb σ H1 (kLrg2 Q x)) : tLstRg (tRg2 ta tb) σ H Q := h
theorem rgV_nats (n m : Nat) : rgV (n : Int) (m : Int) = (List.range' n (m - n)).map fun i : Nat => V.int i := by
  unfold rgV
  rw [show ((m : Int) - (n : Int)).toNat = m - n by omega, List.range'_eq_map_range, List.map_map]
  exact List.map_congr_left fun i _ => by simp
theorem v_lrg2 {i j : Int} {n m : Nat} (e : i = n) (e2 : j = m) (hn : n ≤ 1000000) (hm : m ≤ 1000000) (k : ∀ q, H q = none → Q (.ref q) (upd H q (.lst ((List.range' n (m - n)).map fun i : Nat => V.int i)))) : kLrg2 Q (.int i) (.int j) H := by
  refine ⟨i, j, rfl, rfl, RgOk.of_le (by omega) (by omega) (by omega) (by omega), ?_⟩
  rw [e, e2, rgV_nats]
  exact k
end
section
variable {X : Cx} {a b : Expr} {ta tb : TE} {p p2 pos pos2 : Pos}
theorem pe_listrange (hg : Gl X "list") (hm : X.mg "list" = none) (hg2 : Gl X "range") (hm2 : X.mg "range" = none) (ha : PE X a ta) (hc : X.calm = true := by rfl) (na : starEach [a] X.env = (false, eval a X.env) :: starEach [] X.env := by rfl)
    (na2 : starEach [.Call (.Name "range" p2) [a] [] pos2] X.env = (false, eval (.Call (.Name "range" p2) [a] [] pos2) X.env) :: starEach [] X.env := by rfl) : PE X (.Call (.Name "list" p) [.Call (.Name "range" p2) [a] [] pos2] [] pos) (tLstRg (tRg1 ta)) :=
  pe_listRg hc hg hm (prg_1 hg2 hm2 ha na) na2
theorem pe_listrange2 (hg : Gl X "list") (hm : X.mg "list" = none) (hg2 : Gl X "range") (hm2 : X.mg "range" = none) (ha : PE X a ta) (hb : PE X b tb) (hc : X.calm = true := by rfl) (na : starEach [a, b] X.env = (false, eval a X.env) :: starEach [b] X.env := by rfl)
    (nb : starEach [b] X.env = (false, eval b X.env) :: starEach [] X.env := by rfl) (hp : (backTo pos2 (starEach [b] X.env)).any (·.1) = false := by rfl)
    (na2 : starEach [.Call (.Name "range" p2) [a, b] [] pos2] X.env = (false, eval (.Call (.Name "range" p2) [a, b] [] pos2) X.env) :: starEach [] X.env := by rfl) : PE X (.Call (.Name "list" p) [.Call (.Name "range" p2) [a, b] [] pos2] [] pos) (tLstRg (tRg2 ta tb)) :=
  pe_listRg hc hg hm (prg_2 hg2 hm2 ha hb na nb hp) na2
end
section
variable {C : Addr} {m : Str} {sp : Sp} {dvs vs : List V} {E : XK} {ta : TE} {t : TA} {σ : L2.St} {H : Hp} {Q : VK} {a dx : Addr} {fs : List (Str × V)}
def kMeth (C : Addr) (m : Str) (sp : Sp) (dvs : List V) (E : XK) (t : TA) (σ : L2.St) (Q : VK) : VK := fun x H1 => ∃ a dx fs, x = .ref a ∧ H1 a = some (.ins C dx fs) ∧ fs.lookup m = none ∧ t σ H1 fun vs H2 => sp (x :: (vs ++ dvs)) H2 Q E
theorem r_meth (h : ta σ H (kMeth C m sp dvs E t σ Q)) : tMeth C m sp dvs E ta t σ H Q := h
theorem v_meth (h : H a = some (.ins C dx fs)) (l : fs.lookup m = none) (k : t σ H fun vs H2 => sp (.ref a :: (vs ++ dvs)) H2 Q E) : kMeth C m sp dvs E t σ Q (.ref a) H := ⟨a, dx, fs, rfl, h, l, k⟩
def kMake (C : Addr) (sp : Sp) (dvs : List V) (E : XK) (Q : VK) : List V → Hp → Prop := fun vs H1 => ∀ x dx, H1 x = none → H1 dx = none → dx ≠ x → sp (.ref x :: (vs ++ dvs)) (upd (upd H1 dx (.own x)) x (.ins C dx [])) (fun v H2 => v = .non ∧ Q (.ref x) H2) E
theorem r_make (h : t σ H (kMake C sp dvs E Q)) : tMake C sp dvs E t σ H Q := h
theorem v_make (k : ∀ x dx, H x = none → H dx = none → dx ≠ x → sp (.ref x :: (vs ++ dvs)) (upd (upd H dx (.own x)) x (.ins C dx [])) (fun v H2 => v = .non ∧ Q (.ref x) H2) E) : kMake C sp dvs E Q vs H := k
theorem isi_bl_int {K : PySem.W.Frag} {b : Bool} (k : Q (.bl true) H) : rIsi K [.bl b, .ty "int"] H Q := ⟨.bl b, .ty "int", .type "bool", .type "int", true, rfl, .ty _, .base (.bl b), by rfl, k⟩
theorem isi_bl_bool {K : PySem.W.Frag} {b : Bool} (k : Q (.bl true) H) : rIsi K [.bl b, .ty "bool"] H Q := ⟨.bl b, .ty "bool", .type "bool", .type "bool", true, rfl, .ty _, .base (.bl b), by rfl, k⟩
theorem isi_L {K : PySem.W.Frag} {xs : List V} (h : H a = some (.lst xs)) (k : Q (.bl true) H) : rIsi K [.ref a, .ty "list"] H Q := ⟨.ref a, .ty "list", .type "list", .type "list", true, rfl, .ty _, .base (.lst h), by rfl, k⟩
theorem isi_T {K : PySem.W.Frag} {xs : List V} (h : H a = some (.tup xs)) (k : Q (.bl true) H) : rIsi K [.ref a, .ty "tuple"] H Q := ⟨.ref a, .ty "tuple", .type "tuple", .type "tuple", true, rfl, .ty _, .base (.tup h), by rfl, k⟩
end
section
variable {f g : Str} {v x : V} {r r' : List (Str × V)} {a1 a2 a3 a4 a5 a6 : Str × V}
theorem pf_nil : putF f v [] = [(f, v)] := rfl
theorem pf_hit : putF f v ((f, x) :: r) = (f, v) :: r := by simp [putF]
theorem pf_miss (h : g ≠ f) (k : putF f v r = r') : putF f v ((g, x) :: r) = (g, x) :: r' := by simp [putF, h, k]
theorem few0 : ([] : List (Str × V)).length < 1000 := by simp
theorem few1 : [a1].length < 1000 := by simp
theorem few2 : [a1, a2].length < 1000 := by simp
theorem few3 : [a1, a2, a3].length < 1000 := by simp
theorem few4 : [a1, a2, a3, a4].length < 1000 := by simp
theorem few5 : [a1, a2, a3, a4, a5].length < 1000 := by simp
theorem few6 : [a1, a2, a3, a4, a5, a6].length < 1000 := by simp
end
theorem mul64 {i j : Int} (h : -18446744073709551616 < i ∧ i < 18446744073709551616) (k : -18446744073709551616 < j ∧ j < 18446744073709551616) : IntMulOk i j :=
  (mulx_ok (a := 64) (b := 64) (by have : (2 : Nat) ^ 64 = 18446744073709551616 := by decide
                                   omega) (by have : (2 : Nat) ^ 64 = 18446744073709551616 := by decide
                                              omega) (by decide)).ok
theorem ne_of_none' {H : Hp} {a p : Addr} {o : HO} (hp : H p = none) (h : H a = some o) : a ≠ p := ne_of_none h hp
theorem r_ty {K : PySem.W.Frag} {H : Hp} {p : Addr} {xs : List V} {B : Prop} (h : H p = some (.lst xs)) (k : B) : tyV K "list" (.ref p) H ∧ B := ⟨ty_list h, k⟩
/-! built-ins by names of their own -/
def rListOf (K : PySem.W.Frag) : List V → Hp → VK → Prop := fun xs H Q => ∃ p ys, xs = [.ref p] ∧ (SqL K H p ys ∨ SqT K H p ys) ∧ ∀ l, H l = none → Q (.ref l) (upd H l (.lst ys))
def rTupOf (K : PySem.W.Frag) : List V → Hp → VK → Prop := fun xs H Q => ∃ p ys, xs = [.ref p] ∧ ((SqL K H p ys ∧ ∀ l, H l = none → Q (.ref l) (upd H l (.tup ys))) ∨ (SqT K H p ys ∧ Q (.ref p) H))
def rMax2 : List V → Hp → VK → Prop := fun xs H Q => ∃ i j, xs = [.int i, .int j] ∧ Q (.int (if j > i then j else i)) H
def rMin2 : List V → Hp → VK → Prop := fun xs H Q => ∃ i j, xs = [.int i, .int j] ∧ Q (.int (if j < i then j else i)) H
def rIns : V → List V → Hp → VK → Prop := fun x vs H Q => ∃ (l : Addr) (xs : List V) (i : Int) (y : V), x = .ref l ∧ vs = [.int i, y] ∧ H l = some (.lst xs) ∧ xs.length < sizeLine ∧ 0 ≤ i ∧ i < 2 ^ 63 ∧ Q .non (upd H l (.lst (xs.take i.toNat ++ [y] ++ xs.drop i.toNat)))
section
variable {X : Cx} {K : PySem.W.Frag} {H : Hp} {Q : VK} {p : Addr} {vs : List V} {v : V} {i j : Int}
theorem cListOf : CallR X (.type "list") (rListOf X.K) := call_list_of
theorem cTupOf : CallR X (.type "tuple") (rTupOf X.K) := call_tuple_of
theorem cMax2 (hc : X.calm = true) : CallR X (.builtin "max") rMax2 := call_max2 hc
theorem cMin2 (hc : X.calm = true) : CallR X (.builtin "min") rMin2 := call_min2 hc
theorem mIns : MtR X "list.insert" rIns := mt_insert
theorem w_listL (h : SqL K H p vs) (k : ∀ l, H l = none → Q (.ref l) (upd H l (.lst vs))) : rListOf K [.ref p] H Q := ⟨p, vs, rfl, .inl h, k⟩
theorem w_listT (h : SqT K H p vs) (k : ∀ l, H l = none → Q (.ref l) (upd H l (.lst vs))) : rListOf K [.ref p] H Q := ⟨p, vs, rfl, .inr h, k⟩
theorem w_tupL (h : SqL K H p vs) (k : ∀ l, H l = none → Q (.ref l) (upd H l (.tup vs))) : rTupOf K [.ref p] H Q := ⟨p, vs, rfl, .inl ⟨h, k⟩⟩
theorem w_tupT (h : SqT K H p vs) (k : Q (.ref p) H) : rTupOf K [.ref p] H Q := ⟨p, vs, rfl, .inr ⟨h, k⟩⟩
theorem w_max (k : Q (.int (if j > i then j else i)) H) : rMax2 [.int i, .int j] H Q := ⟨i, j, rfl, k⟩
theorem w_min (k : Q (.int (if j < i then j else i)) H) : rMin2 [.int i, .int j] H Q := ⟨i, j, rfl, k⟩
theorem w_ins {n : Nat} (h : H p = some (.lst vs)) (e : i = n) (hn : n < 1000000) (hl : vs.length < 1000000) (k : Q .non (upd H p (.lst (vs.take n ++ [v] ++ vs.drop n)))) : rIns (.ref p) [.int i, v] H Q :=
  ⟨p, vs, i, v, rfl, rfl, h, Nat.lt_trans hl (by decide), by omega, by omega, by rw [e]; exact k⟩
theorem w_insI (h : H p = some (.lst vs)) (h0 : 0 ≤ i) (h1 : i < 1000000) (hl : vs.length < 1000000) (k : Q .non (upd H p (.lst (vs.take i.toNat ++ [v] ++ vs.drop i.toNat)))) : rIns (.ref p) [.int i, v] H Q :=
  ⟨p, vs, i, v, rfl, rfl, h, Nat.lt_trans hl (by decide), h0, by omega, k⟩
end
/-! one layer of a heap taken off -/
section
variable {K : PySem.W.Frag} {H : Hp} {a p : Addr} {xs : List V} {o u : HO}
theorem off_old (hp : H p = none) (h : H a = some o) : upd H p u a = some o := upd_old h hp
theorem off_far (n : a ≠ p) (h : H a = some o) : upd H p u a = some o := upd_far n h
theorem sql_off (hp : H p = none) (h : SqL K H a xs) : SqL K (upd H p u) a xs := sql_upd h hp
theorem sql_offar (n : a ≠ p) (h : SqL K H a xs) : SqL K (upd H p u) a xs := sql_far h n
theorem sqt_off (hp : H p = none) (h : SqT K H a xs) : SqT K (upd H p u) a xs := sqt_upd h hp
theorem sqt_offar (n : a ≠ p) (h : SqT K H a xs) : SqT K (upd H p u) a xs := sqt_far h n
end
/-! x is True, for a truth x -/
def aIsB : R2 := fun x y H Q => ∃ b c, x = .bl b ∧ y = .bl c ∧ Q (.bl (decide (b = c))) H
def aNotB : R2 := fun x y H Q => ∃ b c, x = .bl b ∧ y = .bl c ∧ Q (.bl (!decide (b = c))) H
section
variable {X : Cx} {K : PySem.W.Frag} {H : Hp} {Q : VK} {b c : Bool} {x y : V} {d : PyData}
theorem oIsB : OpR X (compareOp .Is) aIsB := by
  intro pins s σ H x y v u Q I rx ry h
  obtain ⟨b, c, rfl, rfl, q⟩ := h
  cases rx
  cases ry
  show wpAny _ _ ((isSame (Value.bool b) (Value.bool c)) >>= fun z => pure (Value.bool z)) _ _ s
  exact wpAny_bind (wpAny_isSame_plain (by rfl) (wpAny_pure (fin_bl I q (by cases b <;> cases c <;> rfl))))
theorem oNotB : OpR X (compareOp .IsNot) aNotB := by
  intro pins s σ H x y v u Q I rx ry h
  obtain ⟨b, c, rfl, rfl, q⟩ := h
  cases rx
  cases ry
  show wpAny _ _ ((isSame (Value.bool b) (Value.bool c)) >>= fun z => pure (Value.bool (!z))) _ _ s
  exact wpAny_bind (wpAny_isSame_plain (by rfl) (wpAny_pure (fin_bl I q (by cases b <;> cases c <;> rfl))))
theorem w_isB (k : Q (.bl (decide (b = c))) H) : aIsB (.bl b) (.bl c) H Q := ⟨b, c, rfl, rfl, k⟩
theorem w_notB (k : Q (.bl (!decide (b = c))) H) : aNotB (.bl b) (.bl c) H Q := ⟨b, c, rfl, rfl, k⟩
mutual
theorem eqv_refl : ∀ d : PyData, d.canLay0 = true → PyData.eqv d d = true
  | .none, _ => by simp [PyData.eqv]
  | .bool _, _ => by simp [PyData.eqv]
  | .int _, _ => by simp [PyData.eqv]
  | .str _, _ => by simp [PyData.eqv]
  | .list ds, h => by simp only [PyData.eqv]; exact eqvAll_refl ds (by simpa [PyData.canLay0] using h)
  | .tuple ds, h => by simp only [PyData.eqv]; exact eqvAll_refl ds (by simpa [PyData.canLay0] using h)
  | .dict _, h => by simp [PyData.canLay0] at h
theorem eqvAll_refl : ∀ ds : List PyData, PyData.canLayAll0 ds = true → PyData.eqvAll ds ds = true
  | [], _ => by simp [PyData.eqvAll]
  | d :: ds, h => by
    have h' : d.canLay0 = true ∧ PyData.canLayAll0 ds = true := by simpa [PyData.canLayAll0] using h
    simp only [PyData.eqvAll, eqv_refl d h'.1, eqvAll_refl ds h'.2, Bool.and_self]
end
/-- the same data -/
theorem v_eqR (h1 : Dp K H x d) (h2 : Dp K H y d) (hs : SeqAt.shaped d = true) (k : Q (.bl true) H) : aEq K x y H Q :=
  v_eqD h1 h2 hs hs (by rw [eqv_refl d (SeqAt.canLay_of_shaped hs)]; exact k)
theorem v_neR (h1 : Dp K H x d) (h2 : Dp K H y d) (hs : SeqAt.shaped d = true) (k : Q (.bl false) H) : aNe K x y H Q :=
  v_neD h1 h2 hs hs (by rw [eqv_refl d (SeqAt.canLay_of_shaped hs)]; exact k)
end
/-- an if whose two ways meet again -/
theorem r_wJ {c : Prop} [Decidable c] {t1 t2 : TS} {D : Ends} {σ : L2.St} {H : Hp} (W : L2.St → Hp → Prop) (hk : ∀ σ' H', W σ' H' → D.nx σ' H')
    (h1 : c → ∀ N : L2.St → Hp → Prop, (∀ σ' H', W σ' H' → N σ' H') → t1 { D with nx := N } σ H) (h2 : ¬ c → ∀ N : L2.St → Hp → Prop, (∀ σ' H', W σ' H' → N σ' H') → t2 { D with nx := N } σ H) :
    if decide c = true then t1 D σ H else t2 D σ H := r_w (fun h => h1 h D.nx hk) fun h => h2 h D.nx hk
theorem r_nwJ {c : Prop} [Decidable c] {t1 t2 : TS} {D : Ends} {σ : L2.St} {H : Hp} (W : L2.St → Hp → Prop) (hk : ∀ σ' H', W σ' H' → D.nx σ' H')
    (h1 : ¬ c → ∀ N : L2.St → Hp → Prop, (∀ σ' H', W σ' H' → N σ' H') → t1 { D with nx := N } σ H) (h2 : c → ∀ N : L2.St → Hp → Prop, (∀ σ' H', W σ' H' → N σ' H') → t2 { D with nx := N } σ H) :
    if (!decide c) = true then t1 D σ H else t2 D σ H := r_nw (fun h => h1 h D.nx hk) fun h => h2 h D.nx hk
/-! a heap without one address -/
def wo (D : Addr) (H : Hp) : Hp := fun b => if b = D then none else H b
theorem wo_at {D b : Addr} {H : Hp} {o : HO} (n : b ≠ D) (h : H b = some o) : wo D H b = some o := by unfold wo; rw [if_neg n]; exact h
theorem wo_upd {D : Addr} {H : Hp} {o : HO} : wo D (upd H D o) = wo D H := by
  funext b
  unfold wo
  by_cases h : b = D
  · rw [if_pos h, if_pos h]
  · rw [if_neg h, if_neg h, upd_ne h]
theorem wo_stp {D : Addr} {H : Hp} : Stp [] (wo D H) H := ⟨fun b o e _ => by
  unfold wo at e
  by_cases h : b = D
  · rw [if_pos h] at e; cases e
  · rw [if_neg h] at e; exact e, fun b e => by
  unfold wo
  by_cases h : b = D
  · rw [if_pos h]
  · rw [if_neg h]; exact e⟩
theorem wo_mono {D : Addr} {H H' : Hp} (S : Stp [] H H') : Stp [] (wo D H) (wo D H') := ⟨fun b o e _ => by
  unfold wo at e ⊢
  by_cases h : b = D
  · rw [if_pos h] at e; cases e
  · rw [if_neg h] at e ⊢; exact S.keep0 e, fun b e => by
  unfold wo at e ⊢
  by_cases h : b = D
  · rw [if_pos h]
  · rw [if_neg h] at e ⊢; exact S.dom b e⟩
/-- data gathered in the list at D -/
theorem dp_gather {K : PySem.W.Frag} {D : Addr} {H1 H2 : Hp} {us : List V} {ds : List PyData} {x : V} {d : PyData} {o : HO} (S : Stp [] H1 H2) (h : DpAll K (wo D H1) us ds) (k : Dp K (wo D H2) x d) : DpAll K (wo D (upd H2 D o)) (us ++ [x]) (ds ++ [d]) := by
  rw [wo_upd]
  have h2 := dp_stpAll (wo_mono S) _ _ h
  clear h
  induction us generalizing ds with
  | nil => cases h2; exact .cons k .nil
  | cons u us ih => cases h2 with | cons h1 h2 => exact .cons h1 (ih h2)
theorem st_new {M : List Addr} {H H1 : Hp} {p : Addr} {o : HO} (h : H1 p = none) (a : Stp M H H1) : Stp M H (upd H1 p o) := a.new h
theorem st_trans {M : List Addr} {H H1 H2 : Hp} (b : Stp [] H1 H2) (a : Stp M H H1) : Stp M H H2 := a.then0 b
theorem st_put {M : List Addr} {H H1 : Hp} {p : Addr} {o : HO} (h : H p = none) (a : Stp M H H1) : Stp M H (upd H1 p o) := a.putN h
theorem st_fr {H H' : Hp} {p : Addr} (h : H' p = none) (S : Stp [] H H') : H p = none := S.dom p h
theorem dpall_len {K : PySem.W.Frag} {H : Hp} : ∀ {us : List V} {ds : List PyData}, DpAll K H us ds → us.length = ds.length
  | [], _, h => by cases h; rfl
  | u :: us, _, h => by cases h with | cons h1 h2 => simp [dpall_len h2]
theorem dpall_get {K : PySem.W.Frag} {H : Hp} {us : List V} {ds : List PyData} {i : Nat} {d : PyData} (h : DpAll K H us ds) (e : ds[i]? = some d) : ∃ v, us[i]? = some v ∧ Dp K H v d := by
  induction us generalizing ds i with
  | nil => cases h; cases e
  | cons u us ih => cases h with | cons h1 h2 => cases i with
    | zero => cases e; exact ⟨u, rfl, h1⟩
    | succ i => exact ih h2 e
theorem dpall_map {K : PySem.W.Frag} {H : Hp} {β : Type} {l : List β} {f : β → V} {g : β → PyData} (h : ∀ b ∈ l, Dp K H (f b) (g b)) : DpAll K H (l.map f) (l.map g) := by
  induction l with
  | nil => exact .nil
  | cons x xs ih => exact .cons (h x (by simp)) (ih fun y hy => h y (by simp [hy]))
theorem shaped_list {ds : List PyData} (h : ∀ d ∈ ds, PyData.canLay0 d = true ∧ PyData.depth d ≤ 1) : SeqAt.shaped (.list ds) = true := by
  have h1 : PyData.canLayAll0 ds = true ∧ PyData.depthAll ds ≤ 1 := by
    induction ds with
    | nil => exact ⟨by simp [PyData.canLayAll0], by simp [PyData.depthAll]⟩
    | cons d ds ih =>
      obtain ⟨a, b⟩ := h d (by simp)
      obtain ⟨c, e⟩ := ih fun x hx => h x (by simp [hx])
      exact ⟨by simp only [PyData.canLayAll0, a, c, Bool.and_self], by simp only [PyData.depthAll]; omega⟩
  unfold SeqAt.shaped
  rw [show PyData.canLay0 (.list ds) = true by simp only [PyData.canLay0]; exact h1.1]
  exact decide_eq_true (by simp only [PyData.depth]; omega)
/-! defs with defaults -/
section
variable {P : Program} {w : World} {K : PySem.W.Frag} {mg : Str → Option Value} {base : Heap}
theorem funD_mk {x qual : Str} {st : Stmt} {f T : Addr} {oc oT : Value} {od an oU : Option Addr} {osl tsl : Array (Option Value)} {kV doc pm cdv ct : Value} {its : List Value} {n : Nat} {dvs : List V}
    (l : K.lookup f = some ⟨oc, od, .func (PySem.W.fnOf x qual (defArgs st) (defBody st) (defScope st) (.ref T) kV doc pm an cdv ct), osl⟩) (t : K.lookup T = some ⟨oT, oU, .seq its.toArray n, tsl⟩) (r : Vals dvs its) (hd : dvs ≠ [])
    (c : PySem.W.codeIn K cdv qual = true) (k : PySem.W.keepIn K (.ref f) = true) : FunD K x qual (defArgs st) (defBody st) (defScope st) dvs [] f (PySem.W.fnOf x qual (defArgs st) (defBody st) (defScope st) (.ref T) kV doc pm an cdv ct) :=
  ⟨⟨oc, od, _, kV, doc, pm, an, cdv, ct, osl, rfl, l, c, .inr ⟨hd, T, _, its, n, rfl, t, rfl, r⟩, .inl rfl⟩, k⟩
theorem funD_ok {x qual : Str} {st : Stmt} {dvs : List V} {f : Addr} {fd : FuncData} {N ps : List Str} {k : Nat} {sp : Sp} (F : FunD K x qual (defArgs st) (defBody st) (defScope st) dvs [] f fd) (S : FnScope N ps (defScope st)) (len : ∀ vs H Q E, sp vs H Q E → vs.length = ps.length)
    (hb : ∀ (cdv : Value) (A : Around) (outer : List Env) (s : Shared) (H : Hp) (vs : List V) (Q : VK) (E : XK), Room k (A.deeper (envOfC qual (defScope st) s.heap.objs.size f cdv)) → sp vs H Q E →
      ∃ t, PSs (cxOf CX0 P w K mg base N qual (defScope st) f cdv A outer s H E).nox (defBody st) t ∧ t { nx := fun _ H' => Q .non H', rt := Q } (start N vs) H) : FnOk P w K mg base CX0 (k + 1) f fd ps sp :=
  F.ok S len fun cdv A outer s H vs Q E hr h => by
    obtain ⟨t, h1, h2⟩ := hb cdv A outer s H vs Q E hr h
    exact ⟨t, h1.nox, h2⟩
end
theorem Stp.putI {M : List Addr} {H H1 : Hp} {p C d : Addr} {fs : List (Str × V)} {o : HO} (a : Stp M H H1) (h : p ∈ M) (h1 : H1 p = some (.ins C d fs)) : Stp M H (upd H1 p o) := a.putM h h1 (fun z => z)
theorem Stp.putL {M : List Addr} {H H1 : Hp} {p : Addr} {xs : List V} {o : HO} (a : Stp M H H1) (h : p ∈ M) (h1 : H1 p = some (.lst xs)) : Stp M H (upd H1 p o) := a.putM h h1 (fun z => z)
theorem v_tup1 {H : Hp} {Q : VK} {x : V} (h : ∀ p, H p = none → Q (.ref p) (upd H p (.tup [x]))) : SH.kTup Q [x] H := v_tup (by simp) h
/-- a statement of a def's body -/
def inDef (s : Stmt) (j : Nat) : Stmt := (defBody s).getD j (.Pass ⟨0, 0, 0, 0⟩)
/-- a table that tells nothing as yet -/
theorem tabN_empty {H : Hp} {P : Addr} {nm : Nat → Nat → Str} (h : H P = some (.tbl #[])) : NdefX.TabN H P nm := ⟨#[], h, by trivial, fun pos cv hc => by cases hc⟩
/-! rules with the frag by its name (in a comprehension the context is not to be seen from outside) -/
section
variable {X : Cx}
theorem opK {op : Value → Value → Sem Value} (r : PySem.W.Frag → R2) (K : PySem.W.Frag) (h : OpR X op (r X.K)) (e : X.K = K := by rfl) : OpR X op (r K) := e ▸ h
theorem ixK (r : PySem.W.Frag → R2) (K : PySem.W.Frag) (h : IxR X (r X.K)) (e : X.K = K := by rfl) : IxR X (r K) := e ▸ h
theorem crK {v : Value} (r : PySem.W.Frag → List V → Hp → VK → Prop) (K : PySem.W.Frag) (h : CallR X v (r X.K)) (e : X.K = K := by rfl) : CallR X v (r K) := e ▸ h
theorem slK (r : PySem.W.Frag → V → Option Int → Option Int → Hp → VK → Prop) (K : PySem.W.Frag) (h : SlR X (r X.K)) (e : X.K = K := by rfl) : SlR X (r K) := e ▸ h
theorem piK {tg e : Expr} (r : PySem.W.Frag → TI) (K : PySem.W.Frag) (h : PI X tg e (r X.K)) (e' : X.K = K := by rfl) : PI X tg e (r K) := e' ▸ h
theorem peK {e : Expr} (r : PySem.W.Frag → TE) (K : PySem.W.Frag) (h : PE X e (r X.K)) (e' : X.K = K := by rfl) : PE X e (r K) := e' ▸ h
end
end SH

set_option Elab.async false
set_option linter.all false
set_option maxRecDepth 100000
set_option maxHeartbeats 4000000
/-! SHF: list(reversed(xs)), a new list -/
namespace SH
open PySem PySem.Spec PyProof.Rows L2
section
variable {prog : Program} {w : World} {A : Around} {E : Value → Shared → Prop} {s : Shared}
theorem ext_lrev {R : Result → Shared → Prop} {it l : Addr} {items : Array Value} (hh : A.handled = none) (hit : s.heap.IsRevIter it l ((items.size : Int) - 1)) (hl : s.heap.IsList l items) (hne : l ≠ it) (hn : items.size ≤ sizeLine)
    (S : Addr) (c0 : Nat) (hS : s.heap.get? S = some { cls := .type "list", data := .seq #[] c0 }) (nSi : S ≠ it) (nSl : S ≠ l)
    (hR : ∀ h' tk acc c', (∀ b o, b ≠ S → b ≠ it → s.heap.get? b = some o → h'.get? b = some o) → h'.get? S = some { cls := .type "list", dict := none, data := .seq acc c', slots := #[] } →
      ItemsOf (fun i v => items[items.size - 1 - i]? = some v) acc items.size → R (.ok (.ret .none)) { s with heap := h', toks := tk }) :
    wpAny (model prog w) A.in1 (Builtin.List.listExtendWith (.ref S) (.ref it) .none)
      (fun z s' => match z with | .done u => R (.ok u) s' | .again c' => c'.quiet = true ∧ codeAny (model prog w) A c' R s') (fun e s' => R (.error e) s') s := by
  have W := (Walks.listRev (prog := prog) (w := w) (A := A.in1) hh it l hne items).toS
  have nf : S ∉ [it, l] := by simp only [List.mem_cons, List.not_mem_nil, or_false, not_or]; exact ⟨nSi, nSl⟩
  have ty : s.TypeIs (.ref it) "list_reverseiterator" := Heap.IsRevIter.typeIs (s := s) hit
  have same : Builtin.List.listSameRef (.ref S) (.ref it) = false := by simp [Builtin.List.listSameRef, nSi]
  unfold Builtin.List.listExtendWith; refine wpAny_bind (wpAny_typeOf ty ?_); rw [if_neg (by rw [same]; decide)]
  refine wpAny_bind (wpAny_pyIter_revIter (s := s) hit ?_); refine wpAny_bind (wpAny_holding ?_); unfold Builtin.List.listLengthHint
  refine wpAny_bind (wpAny_specialOf ty RT.nolen_lri ?_); show wpAny _ A.in1 (specialOf (Value.ref it) (Str.ofString "__length_hint__") >>= _) _ _ _
  refine wpAny_bind (wpAny_specialOf ty RT.hint_lri ?_); generalize hid : ("list_reverseiterator.__length_hint__" : String) = id0
  wp_delta; rw [show splitId id0 = some ("list_reverseiterator", "__length_hint__") from by subst hid; decide +kernel]; subst hid
  refine wpAny_bind (wpAny_isInstance (b := true) ty (by rw [isSubtype_type]; kernel_rfl) ?_); refine wpAny_pure ?_; rw [if_neg (by decide)]
  have z0 : ((items.size : Nat) : Int) - 1 - ((0 : Nat) : Int) = (items.size : Int) - 1 := by omega
  refine wpAny_pure ⟨plainId_quiet F.plain_extend_loop _, codeAny_extend_loopS W hn _ nf _ items.size 0 _ _ _ rfl (Nat.zero_le _) ⟨Nat.zero_le _, by rw [z0]; exact hit, hl⟩ hS (ItemsOf.nil _) fun s' acc c' hm hS' ha => ?_⟩
  rw [Moved.eq_with hm]; refine hR s'.heap s'.toks acc c' (fun b o n1 n2 e => hm.heap b o (fun hmem => ?_) e) hS' ha
  rcases List.mem_cons.mp hmem with e' | hmem
  · exact n1 e'
  · exact n2 (List.mem_singleton.mp hmem)
theorem call_list_rev {it l : Addr} {items : Array Value} {Q : Value → Shared → Prop} (hh : A.handled = none) (hit : s.heap.IsRevIter it l ((items.size : Int) - 1)) (hl : s.heap.IsList l items) (hne : l ≠ it) (hn : items.size ≤ sizeLine)
    (hQ : ∀ h' tk acc c', (∀ b o, b ≠ it → s.heap.get? b = some o → h'.get? b = some o) → h'.get? s.heap.objs.size = some { cls := .type "list", dict := none, data := .seq acc c', slots := #[] } →
      ItemsOf (fun i v => items[items.size - 1 - i]? = some v) acc items.size → Q (.ref s.heap.objs.size) { s with heap := h', toks := tk }) :
    wpAny (model prog w) A (call (.type "list") [.ref it]) Q E s := by
  refine callType_codes (Q₁ := fun ob s1 => ob = .ref s.heap.objs.size ∧ s1 = { s with heap := s.heap.push { cls := .type "list", data := .seq #[] } }) F.called_list (F.typeCall_list_1 _) F.entry_list_init (code_list_new _ ⟨rfl, rfl⟩) fun ob s1 h1 => ?_
  obtain ⟨e1, e2⟩ := h1; subst e1; subst e2
  have hS : (s.heap.push { cls := .type "list", data := .seq #[] }).get? s.heap.objs.size = some { cls := .type "list", data := .seq #[] } := by exact Heap.get?_push_size _ rfl
  obtain ⟨oi, hoi, _⟩ := id hit; obtain ⟨ol, hol, hol'⟩ := id hl
  have nSi : s.heap.objs.size ≠ it := Nat.ne_of_gt (Heap.lt_size hoi); have nSl : s.heap.objs.size ≠ l := Nat.ne_of_gt (Heap.lt_size hol)
  refine ⟨⟨_, hS, rfl⟩, F.args_list_init_2 _ _, ?_⟩
  show wpAny _ _ (do let old ← Builtin.List.listItems (.ref s.heap.objs.size); Builtin.List.listUpdate (.ref s.heap.objs.size) (fun _ => #[]); letGo old.toList.reverse; Builtin.List.listExtendWith (.ref s.heap.objs.size) (.ref it) .none) _ _ _
  refine wpAny_bind ?_; unfold Builtin.List.listItems; refine wpAny_bind (wpAny_seqItems hS rfl (wpAny_pure ?_))
  show wpAny _ _ (updateSeq s.heap.objs.size (fun _ => #[]) >>= fun _ => letGo (#[] : Array Value).toList.reverse >>= fun _ => Builtin.List.listExtendWith (.ref s.heap.objs.size) (.ref it) .none) _ _ _
  refine wpAny_bind (wpAny_updateSeq hS rfl ?_); have hS2 := Heap.get?_update_self (Obj.mapSeq (fun _ => (#[] : Array Value))) hS rfl
  have oth : ∀ b o, b ≠ s.heap.objs.size → s.heap.get? b = some o → ((s.heap.push { cls := .type "list", data := .seq #[] }).update s.heap.objs.size (Obj.mapSeq (fun _ => (#[] : Array Value)))).get? b = some o :=
    fun b o hb e => (Heap.get?_update_other _ _ (Ne.symm hb)).trans (Heap.get?_push_of_some _ e)
  refine wpAny_bind (wpAny_letGo ?_)
  refine ext_lrev (A := A.in1) (R := wants (fun r s2 => r = Value.none ∧ Q (.ref s.heap.objs.size) s2) E) (s := { s with heap := (s.heap.push { cls := .type "list", data := .seq #[] }).update s.heap.objs.size (Obj.mapSeq (fun _ => (#[] : Array Value))) }) hh (hit.at fun o e => oth it o (Ne.symm nSi) e) ?_ hne hn _ _ hS2 nSi nSl fun h' tk acc c' hk hS' ha => ?_
  · exact ⟨ol, oth l ol (Ne.symm nSl) hol, hol'⟩
  · exact ⟨rfl, hQ h' tk acc c' (fun b o n2 e => hk b o (Nat.ne_of_lt (Heap.lt_size e)) n2 (oth b o (Nat.ne_of_lt (Heap.lt_size e)) e)) hS' ha⟩
end
/-- list(reversed(xs)) -/
def kLstRev (K : PySem.W.Frag) (Q : VK) : VK := fun v H1 => ∃ (a : Addr) (xs : List V), v = .ref a ∧ SqL K H1 a xs ∧ ∀ q, H1 q = none → Q (.ref q) (upd H1 q (.lst xs.reverse))
def tLstRev (K : PySem.W.Frag) (te : TE) : TE := fun σ H Q => te σ H (kLstRev K Q)
theorem r_lrev {K : PySem.W.Frag} {te : TE} {σ : L2.St} {H : Hp} {Q : VK} (h : te σ H (kLstRev K Q)) : tLstRev K te σ H Q := h
theorem v_lrev {K : PySem.W.Frag} {H : Hp} {Q : VK} {a : Addr} {xs : List V} (h : SqL K H a xs) (k : ∀ q, H q = none → Q (.ref q) (upd H q (.lst xs.reverse))) : kLstRev K Q (.ref a) H := ⟨a, xs, rfl, h, k⟩
section
variable {X : Cx}
theorem pe_lstRev {e : Expr} {te : TE} {p p2 pos pos2 : Pos} (hg : Gl X "list") (hm : X.mg "list" = none) (hg2 : Gl X "reversed") (hm2 : X.mg "reversed" = none) (he : PE X e te) (hc : X.calm = true := by rfl)
    (hs : starEach [e] X.env = (false, eval e X.env) :: starEach [] X.env := by rfl)
    (hs2 : starEach [.Call (.Name "reversed" p2) [e] [] pos2] X.env = (false, eval (.Call (.Name "reversed" p2) [e] [] pos2) X.env) :: starEach [] X.env := by rfl) :
    PE X (.Call (.Name "list" p) [.Call (.Name "reversed" p2) [e] [] pos2] [] pos) (tLstRev X.K te) := by
  refine ⟨fun pins s σ H Q I h => ?_⟩
  refine Call_ (ld_blt I hg hm boot_list (PyProof.Rows.callWith_type1 (args_cons (Call_ (ld_blt I hg2 hm2 PyProof.Rows.boot_reversed (PyProof.Rows.callWith_type1 (args_cons (thn (he.run pins s σ H _ I h) fun u s1 ⟨v, H1, I1, r1, q1⟩ => args_nil ?_) hs) hs rfl))) hs2) hs2 rfl))
  obtain ⟨a, xs, ev, hq, q⟩ := q1; subst ev; obtain rfl : u = Value.ref a := r1; obtain ⟨its, rv, p', hz⟩ := I1.list hq
  refine call_reversed_list p'.isList (args_nil ?_)
  have I2 : Inv X pins σ H1 { s1 with heap := s1.heap.push (revObj a ((its.toArray.size : Int) - 1)) } := by exact I1.kept (t' := s1.toks) fun b o e => Heap.get?_push_of_some _ e
  obtain ⟨f0, f1, f2, f3, f4, f5⟩ := I1.fpOk (H' := H1) (b := s1.heap.objs.size) (Nat.le_refl _) (I1.hok.fresh (Nat.le_refl _)); have hl := p'.isList; obtain ⟨ol, hol, _⟩ := id hl
  have hne : a ≠ s1.heap.objs.size := by exact Nat.ne_of_lt (Heap.lt_size hol)
  have hn : its.toArray.size ≤ sizeLine := by rw [List.size_toArray, ← rv.length]; exact (by exact hz)
  refine call_list_rev (s := { s1 with heap := s1.heap.push (revObj a ((its.toArray.size : Int) - 1)) }) (I1.ok.hd hc) ⟨_, Heap.get?_push_size _ rfl, rfl, rfl⟩ (hl.push _) hne hn fun h' tk acc c' hk hS' hi => ?_
  have z : s1.heap.objs.size ≤ (s1.heap.push (revObj a ((its.toArray.size : Int) - 1))).objs.size := by simp [Heap.push]
  have k1 : ∀ b o, s1.heap.get? b = some o → h'.get? b = some o := fun b o e => hk b o (Nat.ne_of_lt (Heap.lt_size e)) (by exact Heap.get?_push_of_some _ e)
  refine ⟨.ref _, upd H1 (s1.heap.push (revObj a ((its.toArray.size : Int) - 1))).objs.size (.lst xs.reverse), I1.laid (t' := tk) k1 z (show ObjOk X.prog X.w _ _ _ (.lst xs.reverse) from ⟨by rw [List.length_reverse]; exact hz, acc.toList, c', RT.vals_rev rv hi, ?_⟩), rfl, q _ (I1.hok.fresh z)⟩
  rw [Array.toArray_toList]; exact (by exact hS')
end
theorem cutL_from_len {α : Type} (xs : List α) (i : Nat) (hi : Option Int) : (cutL xs (some (i : Int)) hi).length ≤ xs.length - i := by
  unfold cutL
  rw [HT.sIx_nat, List.length_take, List.length_drop]
  omega
theorem r_ckw2 {r : List V → List V → Hp → VK → Prop} {t tk : TA} {σ : L2.St} {H : Hp} {Q : VK} (h : t σ H fun vs H1 => tk σ H1 fun zs H2 => r vs zs H2 Q) : tCKw r t tk σ H Q := h
end SH

set_option Elab.async false
set_option linter.all false
set_option maxRecDepth 100000
set_option maxHeartbeats 4000000
/-! SHG: max(xs, default=d), ints -/
namespace SH
open PySem PySem.Spec PyProof.Rows L2
def rMaxDef (K : PySem.W.Frag) : List V → List V → Hp → VK → Prop := fun vs zs H Q => ∃ (a : Addr) (ns : List Int) (d : Int), vs = [V.ref a] ∧ zs = [V.int d] ∧ SqL K H a (ns.map V.int) ∧ (ns = [] → Q (.int d) H) ∧ ∀ m, m ∈ ns → (∀ y, y ∈ ns → y ≤ m) → Q (.int m) H
theorem foldl_max : ∀ (r : List Int) (n : Int), r.foldl max n ∈ n :: r ∧ ∀ y ∈ n :: r, y ≤ r.foldl max n
  | [], n => ⟨by simp, by simp⟩
  | k :: r, n => by
    obtain ⟨h1, h2⟩ := foldl_max r (max n k)
    rw [List.foldl_cons]
    constructor
    · rcases List.mem_cons.mp h1 with e | e
      · rw [e]
        by_cases z : n ≤ k
        · rw [Int.max_eq_right z]; simp
        · rw [Int.max_eq_left (by omega)]; simp
      · simp [e]
    · intro y hy
      have hm := h2 (max n k) (by simp)
      rcases List.mem_cons.mp hy with e | hy
      · omega
      · rcases List.mem_cons.mp hy with e | hy
        · omega
        · exact h2 y (by simp [hy])
theorem depth_ints : ∀ ns : List Int, PyData.depthAll (ns.map PyData.int) = 0
  | [] => by simp [PyData.depthAll]
  | n :: r => by simp [PyData.depthAll, PyData.depth, depth_ints r]
theorem dp_ints {K : PySem.W.Frag} {H : Hp} : ∀ ns : List Int, DpAll K H (ns.map V.int) (ns.map PyData.int)
  | [] => .nil
  | n :: r => .cons (.int n) (dp_ints r)
section
variable {X : Cx}
theorem cr_maxDef (hc : X.calm = true) (hu : X.A.units + 64 < cLine) : CallRK X (.builtin "max") [Str.ofString "default"] (rMaxDef X.K) := by
  intro pins s σ H vs zs us ws Q I r rz h
  obtain ⟨a, ns, d, rfl, rfl, hs, h0, h1⟩ := h
  obtain rfl := Vals.ref1 r
  obtain ⟨w1, rfl, e1⟩ := vals1 rz
  obtain ⟨t, rfl⟩ := e1
  obtain ⟨its, rv, hl, hz⟩ := I.list hs
  obtain ⟨as, hr⟩ := Dp.readsAll I (ns.map PyData.int) _ its (dp_ints ns) rv
  have al : PySem.W.AlikeAll (ns.map PyData.int) := ⟨fun x hx y hy => by
    obtain ⟨i, _, rfl⟩ := List.mem_map.mp hx
    obtain ⟨j, _, rfl⟩ := List.mem_map.mp hy
    rfl, fun x hx => by
    obtain ⟨i, _, rfl⟩ := List.mem_map.mp hx
    intro z; cases z⟩
  refine PySem.W.max_list_default (xs := ns.map PyData.int) (I.ok.hd hc) hl.isList (by simpa using hr) al (by rw [depth_ints]; omega) (fun e h' tk hk => ⟨.int d, H, I.kept hk, ⟨t, rfl⟩, h0 (by simpa using e)⟩) fun y ys i v h' tk bs e hv hR hk => ?_
  cases ns with
  | nil => cases e
  | cons n r =>
    rw [List.map_cons] at e
    cases e
    rw [PySem.W.maxD_ints] at hR
    obtain ⟨m1, m2⟩ := foldl_max r n
    generalize r.foldl max n = m at hR m1 m2
    cases hR
    exact ⟨.int m, H, I.kept hk, ⟨_, rfl⟩, h1 m m1 m2⟩
end
theorem r_ckw {r : List V → List V → Hp → VK → Prop} {t tk : TA} {σ : L2.St} {H : Hp} {Q : VK} (h : t σ H fun vs H1 => tk σ H1 fun zs H2 => r vs zs H2 Q) : tCKw r t tk σ H Q := h
end SH

set_option Elab.async false
set_option linter.all false
set_option maxRecDepth 100000
set_option maxHeartbeats 4000000
/-! SHI: xs[i] op= e, dicts with tuples as keys, int(truth) -/
namespace SH
open PySem PySem.Spec PyProof.Rows L2
section
variable {K : PySem.W.Frag} {σ : L2.St} {H : Hp} {Q : VK} {D : Ends} {to ti te td ty tv : TE} {tget : V → V → Hp → VK → Prop} {tip : TIp} {tset : TSet} {P : Hp → Prop} {d b : Addr} {kvs : List (List Key × V)} {ks : List Key} {v x y : V}
/-- a, b = x, y -/
def kPar2 (i j : Nat) (σ : L2.St) (P : L2.St → Hp → Prop) : List V → Hp → Prop := fun vs H1 => ∃ v w, vs = [v, w] ∧ P ((σ.set i (some v)).set j (some w)) H1
theorem r_par {i j : Nat} {ta : TA} (h : ta σ H (kPar2 i j σ D.nx)) : tPar i j ta D σ H := h
theorem v_par {i j : Nat} {w : V} {σ1 σ2 : L2.St} {R : L2.St → Hp → Prop} (e1 : σ.set i (some v) = σ1) (e2 : σ1.set j (some w) = σ2) (h : R σ2 H) : kPar2 i j σ R [v, w] H := ⟨v, w, rfl, by rw [e1, e2]; exact h⟩
def kPar3 (i j l : Nat) (σ : L2.St) (P : L2.St → Hp → Prop) : List V → Hp → Prop := fun vs H1 => ∃ u v w, vs = [u, v, w] ∧ P (((σ.set i (some u)).set j (some v)).set l (some w)) H1
theorem r_par3 {i j l : Nat} {ta : TA} (h : ta σ H (kPar3 i j l σ D.nx)) : tPar3 i j l ta D σ H := h
theorem v_par3 {i j l : Nat} {u w : V} {σ1 σ2 σ3 : L2.St} {R : L2.St → Hp → Prop} (e1 : σ.set i (some u) = σ1) (e2 : σ1.set j (some v) = σ2) (e3 : σ2.set l (some w) = σ3) (h : R σ3 H) : kPar3 i j l σ R [u, v, w] H := ⟨u, v, w, rfl, by rw [e1, e2, e3]; exact h⟩
theorem r_augS (h : to σ H fun o H1 => ti σ H1 fun i H2 => tget o i H2 fun x H3 => te σ H3 fun y H4 => tip x y H4 fun z H5 => tset o i z H5 fun H6 => D.nx σ H6) : tAugS to ti te tget tip tset D σ H := h
theorem r_dnewT (h : ∀ p, H p = none → Q (.ref p) (upd H p (.dT []))) : tDNewT σ H Q := h
theorem r_dnewK (h : ∀ p, H p = none → Q (.ref p) (upd H p (.dK []))) : tDNewK σ H Q := h
def kDPut (x y v : V) (H3 : Hp) (P : Hp → Prop) : Prop := ∃ a H4, x = .ref a ∧ DPut H3 a y v H4 ∧ P H4
theorem r_dput (h : tv σ H fun v H1 => td σ H1 fun x H2 => ty σ H2 fun y H3 => kDPut x y v H3 (D.nx σ)) : sDPut td ty tv D σ H := h
theorem v_dputT (hd : H d = some (.dT kvs)) (hk : H b = some (.tup (ks.map kV))) (hl : kvs.length < 1000000) (k : P (upd H d (.dT (putK kvs ks v)))) : kDPut (.ref d) (.ref b) v H P := ⟨d, _, rfl, DPut.t hd hk (Nat.lt_trans hl (by decide)), k⟩
def kDGet1 (ty : TE) (σ : L2.St) (Q : VK) : VK := fun x H1 => ∃ a, x = .ref a ∧ IsD H1 a ∧ ty σ H1 fun y H2 => ∃ o, DGet H2 a y o ∧ Q (o.getD .non) H2
theorem r_dget1 (h : td σ H (kDGet1 ty σ Q)) : tDGet1 td ty σ H Q := h
theorem v_dget1 (hd : H d = some (.dT kvs)) (h : ty σ H fun y H2 => ∃ o, DGet H2 d y o ∧ Q (o.getD .non) H2) : kDGet1 ty σ Q (.ref d) H := ⟨d, rfl, .inr ⟨kvs, .inl hd⟩, h⟩
theorem v_dgetT {R : Option V → Prop} (hd : H d = some (.dT kvs)) (hk : H b = some (.tup (ks.map kV))) (q : R (valV kvs ks)) : ∃ o, DGet H d (.ref b) o ∧ R o := ⟨_, DGet.t hd hk, q⟩
def kDGet (x y : V) (H2 : Hp) (Q : VK) : Prop := ∃ a v, x = .ref a ∧ DGet H2 a y (some v) ∧ Q v H2
theorem r_dgetI (h : td σ H fun x H1 => ty σ H1 fun y H2 => kDGet x y H2 Q) : tDGet td ty σ H Q := h
theorem v_dgetI (hd : H d = some (.dT kvs)) (hk : H b = some (.tup (ks.map kV))) (e : valV kvs ks = some v) (q : Q v H) : kDGet (.ref d) (.ref b) H Q := ⟨d, v, rfl, by rw [← e]; exact DGet.t hd hk, q⟩
def kDIn (y x : V) (H2 : Hp) (Q : VK) : Prop := ∃ a o, x = .ref a ∧ DGet H2 a y o ∧ Q (.bl o.isSome) H2
def kDNi (y x : V) (H2 : Hp) (Q : VK) : Prop := ∃ a o, x = .ref a ∧ DGet H2 a y o ∧ Q (.bl (!o.isSome)) H2
theorem r_din (h : ty σ H fun y H1 => td σ H1 fun x H2 => kDIn y x H2 Q) : tDIn ty td σ H Q := h
theorem r_dnotin (h : ty σ H fun y H1 => td σ H1 fun x H2 => kDNi y x H2 Q) : tDNotIn ty td σ H Q := h
theorem v_din (hd : H d = some (.dT kvs)) (hk : H b = some (.tup (ks.map kV))) (q : Q (.bl (valV kvs ks).isSome) H) : kDIn (.ref b) (.ref d) H Q := ⟨d, _, rfl, DGet.t hd hk, q⟩
theorem v_dnotin (hd : H d = some (.dT kvs)) (hk : H b = some (.tup (ks.map kV))) (q : Q (.bl (!(valV kvs ks).isSome)) H) : kDNi (.ref b) (.ref d) H Q := ⟨d, _, rfl, DGet.t hd hk, q⟩
end
/-- int(truth) or int(int) -/
def rInt1 : List V → Hp → VK → Prop := fun xs H Q => (∃ i, xs = [.int i] ∧ Q (.int i) H) ∨ ∃ k, xs = [.bl k] ∧ Q (.int (if k then 1 else 0)) H
section
variable {X : Cx} {H : Hp} {Q : VK} {i : Int} {b : Bool}
theorem cInt1 : CallR X (.type "int") rInt1 := call_int1
theorem w_intI (k : Q (.int i) H) : rInt1 [.int i] H Q := .inl ⟨i, rfl, k⟩
theorem w_intB (k : Q (.int (b.toNat : Nat)) H) : rInt1 [.bl b] H Q := .inr ⟨b, rfl, by cases b <;> exact k⟩
end
/-! a dict of answers -/
def pk (a b : Nat) : List Key := [.inl (a : Int), .inl (b : Int)]
theorem pk_map {a b : Nat} : (pk a b).map kV = [.int (a : Nat), .int (b : Nat)] := rfl
theorem pk_inj {a b c d : Nat} : pk a b = pk c d ↔ a = c ∧ b = d := by
  unfold pk
  constructor
  · intro h
    injection h with h1 h2
    injection h2 with h2 _
    injection h1 with h1
    injection h2 with h2
    exact ⟨by omega, by omega⟩
  · rintro ⟨rfl, rfl⟩; rfl
/-- what is known behind so many answers -/
def kn (es : List (T3 Nat Nat Bool)) : List (List Key × V) := es.foldl (fun acc e => putK acc (pk e.a e.b) (.bl e.c)) []
theorem kn_app {es : List (T3 Nat Nat Bool)} {e : T3 Nat Nat Bool} : kn (es ++ [e]) = putK (kn es) (pk e.a e.b) (.bl e.c) := by simp [kn]
theorem kn_len (es : List (T3 Nat Nat Bool)) : (kn es).length ≤ es.length := by
  have : ∀ (es : List (T3 Nat Nat Bool)) (acc : List (List Key × V)), (es.foldl (fun acc e => putK acc (pk e.a e.b) (.bl e.c)) acc).length ≤ acc.length + es.length := by
    intro es
    induction es with
    | nil => intro acc; simp
    | cons e es ih => intro acc; have := ih (putK acc (pk e.a e.b) (.bl e.c)); have := length_putK acc (pk e.a e.b) (.bl e.c); simp only [List.foldl_cons, List.length_cons]; omega
  simpa [kn] using this es []
theorem kn_val {es : List (T3 Nat Nat Bool)} {f : Nat → Nat → Bool} (h : ∀ e ∈ es, e.c = f e.a e.b) (a b : Nat) [Decidable (∃ e ∈ es, e.a = a ∧ e.b = b)] : valV (kn es) (pk a b) = if (∃ e ∈ es, e.a = a ∧ e.b = b) then some (.bl (f a b)) else none := by
  have key : ∀ (es : List (T3 Nat Nat Bool)), (∀ e ∈ es, e.c = f e.a e.b) → ((∃ e ∈ es, e.a = a ∧ e.b = b) → valV (kn es) (pk a b) = some (.bl (f a b))) ∧ ((¬ ∃ e ∈ es, e.a = a ∧ e.b = b) → valV (kn es) (pk a b) = none) := by
    intro es h
    obtain ⟨n, hn⟩ : ∃ n, n = es.length := ⟨_, rfl⟩
    induction n generalizing es with
    | zero =>
      have : es = [] := List.length_eq_zero_iff.mp hn.symm
      subst this
      exact ⟨fun ⟨e, he, _⟩ => by simp at he, fun _ => rfl⟩
    | succ n ih =>
      obtain ⟨fs, e, rfl⟩ : ∃ fs e, es = fs ++ [e] := ⟨es.dropLast, es.getLast (by intro z; subst z; simp at hn), (List.dropLast_concat_getLast _).symm⟩
      obtain ⟨i1, i2⟩ := ih fs (fun x hx => h x (by simp [hx])) (by simp at hn; omega)
      rw [kn_app, valV_put]
      have he := h e (by simp)
      by_cases z : pk a b = pk e.a e.b
      · obtain ⟨z1, z2⟩ := pk_inj.mp z
        subst z1; subst z2
        simp only [if_true]
        exact ⟨fun _ => by rw [he], fun n => (n ⟨e, by simp, rfl, rfl⟩).elim⟩
      · rw [if_neg z]
        have z' : ¬ (e.a = a ∧ e.b = b) := fun ⟨p, q⟩ => z (pk_inj.mpr ⟨p.symm, q.symm⟩)
        refine ⟨fun ⟨x, hx, q⟩ => i1 ?_, fun n => i2 fun ⟨x, hx, q⟩ => n ⟨x, by simp [hx], q⟩⟩
        rcases List.mem_append.mp hx with hx | hx
        · exact ⟨x, hx, q⟩
        · rw [List.mem_singleton] at hx; subst hx; exact (z' q).elim
  by_cases c : ∃ e ∈ es, e.a = a ∧ e.b = b
  · rw [if_pos c]; exact (key es h).1 c
  · rw [if_neg c]; exact (key es h).2 c
theorem kn_get {es : List (T3 Nat Nat Bool)} {f : Nat → Nat → Bool} (h : ∀ e ∈ es, e.c = f e.a e.b) {a b : Nat} (hm : ∃ e ∈ es, e.a = a ∧ e.b = b) : valV (kn es) (pk a b) = some (.bl (f a b)) := by
  classical
  rw [kn_val h, if_pos hm]
theorem kn_none {es : List (T3 Nat Nat Bool)} {f : Nat → Nat → Bool} (h : ∀ e ∈ es, e.c = f e.a e.b) {a b : Nat} (hm : ¬ ∃ e ∈ es, e.a = a ∧ e.b = b) : valV (kn es) (pk a b) = none := by
  classical
  rw [kn_val h, if_neg hm]
end SH

set_option Elab.async false
set_option linter.all false
set_option maxRecDepth 100000
set_option maxHeartbeats 4000000
/-! SHJ: (k, p) >= (k', q); t[:2] -/
namespace SH
open PySem PySem.Spec PySem.W PyProof.Rows L2
theorem dataLt_pair {k p k' p' : Int} : dataLt (.tuple [.int k, .int p]) (.tuple [.int k', .int p']) = decide (k < k' ∨ (k = k' ∧ p < p')) := by
  unfold dataLt
  simp only [keyToks, keyToksAll, List.cons_append, List.nil_append]
  rw [lex_self (O := itemOrd)]
  by_cases e : k = k'
  · subst e
    rw [lex_self (O := itemOrd), lex_self (O := itemOrd)]
    by_cases e2 : p = p'
    · subst e2
      rw [lex_self (O := itemOrd), lex_self (O := itemOrd)]
      simp [PyProof.Rows.lexLt]
    · rw [lex_diff (O := itemOrd) (by simpa using e2)]
      show decide (p < p') = _
      exact decide_eq_decide.mpr (by omega)
  · rw [lex_diff (O := itemOrd) (by simpa using e)]
    show decide (k < k') = _
    exact decide_eq_decide.mpr (by omega)
def aGeT (K : PySem.W.Frag) : R2 := fun x y H Q => ∃ a b k p k' p', x = .ref a ∧ y = .ref b ∧ SqT K H a [.int k, .int p] ∧ SqT K H b [.int k', .int p'] ∧ Q (.bl (decide (¬ (k < k' ∨ (k = k' ∧ p < p'))))) H
theorem oGeT {X : Cx} (hu : X.A.units + 64 < cLine) : OpR X (compareOp .GtE) (aGeT X.K) := by
  intro pins s σ H x y v u Q I rx ry h
  obtain ⟨a, b, k, p, k', p', rfl, rfl, h1, h2, q⟩ := h
  obtain ⟨as, r1⟩ := Dp.reads I (.tuple [.int k, .int p]) _ v (.tup h1 (.cons (.int k) (.cons (.int p) .nil))) rx
  obtain ⟨bs, r2⟩ := Dp.reads I (.tuple [.int k', .int p']) _ u (.tup h2 (.cons (.int k') (.cons (.int p') .nil))) ry
  refine ge_data r1 r2 rfl (fun z => by cases z) ?_ ⟨.bl _, H, I, rfl, ?_⟩
  · have : (PyData.tuple [.int k, .int p]).depth ≤ 64 := by show 1 ≤ 64; decide
    omega
  · rw [dataLt_pair]
    have e : (!decide (k < k' ∨ (k = k' ∧ p < p'))) = decide (¬ (k < k' ∨ (k = k' ∧ p < p'))) := decide_not.symm
    rw [e]
    exact q
theorem v_geT {K : PySem.W.Frag} {H : Hp} {Q : VK} {a b : Addr} {k p k' p' : Int} (h1 : SqT K H a [.int k, .int p]) (h2 : SqT K H b [.int k', .int p']) (q : Q (.bl (decide (¬ (k < k' ∨ (k = k' ∧ p < p'))))) H) : aGeT K (.ref a) (.ref b) H Q := ⟨a, b, k, p, k', p', rfl, rfl, h1, h2, q⟩
def aGtT (K : PySem.W.Frag) : R2 := fun x y H Q => ∃ a b k p k' p', x = .ref a ∧ y = .ref b ∧ SqT K H a [.int k, .int p] ∧ SqT K H b [.int k', .int p'] ∧ Q (.bl (decide (k' < k ∨ (k' = k ∧ p' < p)))) H
theorem oGtT {X : Cx} (hu : X.A.units + 64 < cLine) : OpR X (compareOp .Gt) (aGtT X.K) := by
  intro pins s σ H x y v u Q I rx ry h
  obtain ⟨a, b, k, p, k', p', rfl, rfl, h1, h2, q⟩ := h
  obtain ⟨as, r1⟩ := Dp.reads I (.tuple [.int k, .int p]) _ v (.tup h1 (.cons (.int k) (.cons (.int p) .nil))) rx
  obtain ⟨bs, r2⟩ := Dp.reads I (.tuple [.int k', .int p']) _ u (.tup h2 (.cons (.int k') (.cons (.int p') .nil))) ry
  refine gt_data r1 r2 rfl (fun z => by cases z) ?_ ⟨.bl _, H, I, rfl, ?_⟩
  · have : (PyData.tuple [.int k, .int p]).depth ≤ 64 := by show 1 ≤ 64; decide
    omega
  · rw [dataLt_pair]
    exact q
theorem v_gtT {K : PySem.W.Frag} {H : Hp} {Q : VK} {a b : Addr} {k p k' p' : Int} (h1 : SqT K H a [.int k, .int p]) (h2 : SqT K H b [.int k', .int p']) (q : Q (.bl (decide (k' < k ∨ (k' = k ∧ p' < p)))) H) : aGtT K (.ref a) (.ref b) H Q := ⟨a, b, k, p, k', p', rfl, rfl, h1, h2, q⟩
/-- t[:2] of three -/
theorem v_slT2 {K : PySem.W.Frag} {H : Hp} {Q : VK} {a : Addr} {x y z : V} (h : SqT K H a [x, y, z]) (q : ∀ p, H p = none → Q (.ref p) (upd H p (.tup [x, y]))) : rSlT K (.ref a) none (some 2) H Q :=
  ⟨a, _, rfl, h, by rintro ⟨_, h⟩; exact absurd (show (2 : Nat) = 3 from h) (by decide), q⟩
end SH

set_option Elab.async false
set_option linter.all false
set_option maxRecDepth 100000
set_option maxHeartbeats 4000000
/-! SHK: d.update(d2), keys that are tuples; a method whose class is known at the run alone -/
namespace SH
open PySem PySem.Spec PyProof.Rows L2
/-- d.update(d2) -/
def mergK (kvs more : List (List Key × V)) : List (List Key × V) := more.foldl (fun acc p => putK acc p.1 p.2) kvs
theorem mergK_len : ∀ (more kvs : List (List Key × V)), (mergK kvs more).length ≤ kvs.length + more.length
  | [], kvs => by simp [mergK]
  | p :: ps, kvs => by
    have h1 := mergK_len ps (putK kvs p.1 p.2)
    have h2 := length_putK kvs p.1 p.2
    show (mergK (putK kvs p.1 p.2) ps).length ≤ _
    rw [List.length_cons]; omega
theorem mergK_val : ∀ (more kvs : List (List Key × V)) (k : List Key), (∃ p ∈ more, p.1 = k ∧ valV (mergK kvs more) k = some p.2) ∨ ((∀ p ∈ more, p.1 ≠ k) ∧ valV (mergK kvs more) k = valV kvs k)
  | [], kvs, k => .inr ⟨by simp, rfl⟩
  | p :: ps, kvs, k => by
    show (∃ q ∈ p :: ps, q.1 = k ∧ valV (mergK (putK kvs p.1 p.2) ps) k = some q.2) ∨ ((∀ q ∈ p :: ps, q.1 ≠ k) ∧ valV (mergK (putK kvs p.1 p.2) ps) k = valV kvs k)
    rcases mergK_val ps (putK kvs p.1 p.2) k with ⟨q, hq, e1, e2⟩ | ⟨h1, h2⟩
    · exact .inl ⟨q, List.mem_cons_of_mem _ hq, e1, e2⟩
    · rw [valV_put] at h2
      by_cases e : k = p.1
      · rw [if_pos e] at h2
        exact .inl ⟨p, List.mem_cons_self .., e.symm, h2⟩
      · rw [if_neg e] at h2
        refine .inr ⟨fun q hq => ?_, h2⟩
        rcases List.mem_cons.mp hq with rfl | hq
        · exact fun z => e z.symm
        · exact h1 q hq
theorem mem_putK {kvs : List (List Key × V)} {k : List Key} {v : V} {p : List Key × V} (h : p ∈ putK kvs k v) : p = (k, v) ∨ p ∈ kvs := by
  unfold putK at h
  split at h
  · obtain ⟨q, hq, e⟩ := List.mem_map.mp h
    by_cases z : q.1 = k
    · rw [if_pos z] at e
      exact .inl (by rw [← e, z])
    · rw [if_neg z] at e
      exact .inr (by rw [← e]; exact hq)
  · rcases List.mem_append.mp h with h | h
    · exact .inr h
    · exact .inl (List.mem_singleton.mp h)
theorem putK_same {kvs : List (List Key × V)} {k : List Key} {v : V} : (k, v) ∈ putK kvs k v := by
  unfold putK
  split
  · rename_i h
    obtain ⟨q, hq, e⟩ := List.any_eq_true.mp h
    exact List.mem_map.mpr ⟨q, hq, by rw [if_pos (of_decide_eq_true e), of_decide_eq_true e]⟩
  · exact List.mem_append_right _ (List.mem_singleton.mpr rfl)
theorem putK_other {kvs : List (List Key × V)} {k : List Key} {v : V} {p : List Key × V} (h : p ∈ kvs) (n : p.1 ≠ k) : p ∈ putK kvs k v := by
  unfold putK
  split
  · exact List.mem_map.mpr ⟨p, h, by rw [if_neg n]⟩
  · exact List.mem_append_left _ h
theorem KT_all {H : Hp} : ∀ {more : List (List Key × V)} {ps : List (List Key × Addr × Value)} {kvs : List (List Key × V)} {xs : List (List Key × Addr × Value)}, KT H kvs xs → KT H more ps → KT H (mergK kvs more) (storedAllH xs ps)
  | _, _, kvs, xs, h, .nil => h
  | _, _, kvs, xs, h, .cons (a := p) (b := q) (l₁ := more) (l₂ := ps) hq t => by
    obtain ⟨e1, e2, e3⟩ := hq
    show KT H (mergK (putK kvs p.1 p.2) more) (storedAllH (storedH xs q.1 q.2.1 q.2.2) ps)
    exact KT_all (by rw [← e1]; exact h.put p.1 e2 e3) t
def rUpdT : V → List V → Hp → VK → Prop := fun x xs H Q => ∃ (a b : Addr) (kvs more : List (List Key × V)), x = .ref a ∧ xs = [.ref b] ∧ H a = some (.dT kvs) ∧ H b = some (.dT more) ∧ a ≠ b ∧ kvs ≠ [] ∧ kvs.length + more.length ≤ 1000000 ∧ Q .non (upd H a (.dT (mergK kvs more)))
theorem mt_updT {X : Cx} (hu : X.A.units + 1 < cLine) : MtR X "dict.update" rUpdT := by
  intro pins s σ H x xs v us Q I rx rxs h
  obtain ⟨a, b, kvs, more, rfl, rfl, ha, hb, hab, hne, hl, q⟩ := h
  cases rx
  obtain rfl := Vals.ref1 rxs
  obtain ⟨z, hd, xs', rel, dd⟩ := dt_of I.hok ha
  obtain ⟨z2, hd2, ps, rel2, dd2⟩ := dt_of I.hok hb
  have e1 := Paired.length rel
  have e2 := Paired.length rel2
  have hz : xs'.length + ps.length ≤ sizeLine := by rw [← e1, ← e2]; exact Nat.le_trans hl (by decide)
  refine call_update_dictH (knd := tupleKind (mixKind X.prog X.w)) (tupleKind_room_in1 hu) hab hd2 dd dd2 (.inl fun e => hne ?_) hz fun h' dd' _ hs => ?_
  · rw [e] at e1
    exact List.length_eq_zero_iff.mp e1
  · obtain ⟨o, es, ep, hq, h2, h3, h4, _, h5⟩ := dd'
    have hml : (mergK kvs more).length ≤ sizeLine := Nat.le_trans (mergK_len more kvs) (Nat.le_trans hl (by decide))
    have I2 : Inv X pins σ (upd H a (.dT (mergK kvs more))) { s with heap := h' } :=
      d_write (t' := s.toks) I (by rw [ha]; exact True.intro) hs ⟨o, hq⟩ ⟨hml, hd, _, (KT_all rel rel2).keeps (fun c ys ec => (by rw [upd_ne (ne_of ec ha (fun z => nomatch z))]; exact ec)), o, es, ep, hq, h2, h3, h4, h5⟩
    exact ⟨.non, _, I2, rfl, q⟩
theorem w_upd {H : Hp} {Q : VK} {a b : Addr} {kvs more : List (List Key × V)} (ha : H a = some (.dT kvs)) (hb : H b = some (.dT more)) (hab : a ≠ b) (hne : kvs ≠ []) (hl : kvs.length + more.length ≤ 1000000) (q : Q .non (upd H a (.dT (mergK kvs more)))) : rUpdT (.ref a) [.ref b] H Q :=
  ⟨a, b, kvs, more, rfl, rfl, ha, hb, hab, hne, hl, q⟩
theorem ty_dT {K : PySem.W.Frag} {H : Hp} {a : Addr} {kvs : List (List Key × V)} (ha : H a = some (.dT kvs)) : tyV K "dict" (.ref a) H := .inr (.inr (.inl ⟨rfl, .inr ⟨kvs, ha⟩⟩))
/-- either rule will do -/
theorem peOr {X : Cx} {e : Expr} {t u : TE} (h : PE X e t) (k : PE X e u) : PE X e (fun σ H Q => t σ H Q ∨ u σ H Q) := ⟨fun pins s σ H Q I q => q.elim (h.run pins s σ H Q I) (k.run pins s σ H Q I)⟩
/-- either rule will do, by name -/
def tOrE (t u : TE) : TE := fun σ H Q => t σ H Q ∨ u σ H Q
theorem peOrE {X : Cx} {e : Expr} {t u : TE} (h : PE X e t) (k : PE X e u) : PE X e (tOrE t u) := peOr h k
theorem r_orL {t u : TE} {σ : L2.St} {H : Hp} {Q : VK} (h : t σ H Q) : tOrE t u σ H Q := .inl h
theorem r_orR {t u : TE} {σ : L2.St} {H : Hp} {Q : VK} (h : u σ H Q) : tOrE t u σ H Q := .inr h
/-- an if by two tests, whose ways meet again -/
theorem r_waJ {c : Prop} [Decidable c] {te : TT} {t1 t2 : TS} {D : Ends} {σ : L2.St} {H : Hp} (W : L2.St → Hp → Prop) (hk : ∀ σ' H', W σ' H' → D.nx σ' H')
    (h1 : c → ∀ N : L2.St → Hp → Prop, (∀ σ' H', W σ' H' → N σ' H') → te σ H fun b H1 => if b = true then t1 { D with nx := N } σ H1 else t2 { D with nx := N } σ H1) (h2 : ¬ c → ∀ N : L2.St → Hp → Prop, (∀ σ' H', W σ' H' → N σ' H') → t2 { D with nx := N } σ H) :
    if decide c = true then te σ H (fun b H1 => if b = true then t1 D σ H1 else t2 D σ H1) else if false = true then t1 D σ H else t2 D σ H := r_w (fun h => h1 h D.nx hk) fun h => r_F (h2 h D.nx hk)
theorem r_naJ {c : Prop} [Decidable c] {te : TT} {t1 t2 : TS} {D : Ends} {σ : L2.St} {H : Hp} (W : L2.St → Hp → Prop) (hk : ∀ σ' H', W σ' H' → D.nx σ' H')
    (h1 : ¬ c → ∀ N : L2.St → Hp → Prop, (∀ σ' H', W σ' H' → N σ' H') → te σ H fun b H1 => if b = true then t1 { D with nx := N } σ H1 else t2 { D with nx := N } σ H1) (h2 : c → ∀ N : L2.St → Hp → Prop, (∀ σ' H', W σ' H' → N σ' H') → t2 { D with nx := N } σ H) :
    if (!decide c) = true then te σ H (fun b H1 => if b = true then t1 D σ H1 else t2 D σ H1) else if false = true then t1 D σ H else t2 D σ H := r_nw (fun h => h1 h D.nx hk) fun h => r_F (h2 h D.nx hk)
theorem inV_nats {p : Nat} {xs : List Nat} : inV (.int (p : Nat)) (xs.map fun n : Nat => V.int n) = decide (p ∈ xs) := by
  unfold inV
  rw [List.any_map]
  induction xs with
  | nil => simp
  | cons x xs ih =>
    rw [List.any_cons, ih]
    by_cases e : p = x
    · subst e; simp [eqV]
    · have e2 : ¬ ((x : Int) = (p : Int)) := by omega
      simp [eqV, e, e2]
theorem flat_nats {xs : List Nat} : (xs.map fun n : Nat => V.int n).all flatV = true := by
  rw [List.all_map]
  exact List.all_eq_true.mpr fun _ _ => rfl
section
variable {K : PySem.W.Frag} {H : Hp} {Q : VK} {a : Addr} {xs : List Nat} {p : Nat}
theorem v_inN (h : SqL K H a (xs.map fun n : Nat => V.int n)) (k : Q (.bl (decide (p ∈ xs))) H) : rIn K false (.int (p : Nat)) (.ref a) H Q := ⟨a, _, rfl, .inl h, rfl, flat_nats, by rw [inV_nats]; exact k⟩
theorem v_niN (h : SqL K H a (xs.map fun n : Nat => V.int n)) (k : Q (.bl (!decide (p ∈ xs))) H) : rIn K true (.int (p : Nat)) (.ref a) H Q := ⟨a, _, rfl, .inl h, rfl, flat_nats, by rw [inV_nats]; exact k⟩
end
/-! dicts of numbers -/
theorem v_dputK {H : Hp} {P : Hp → Prop} {d : Addr} {kvs : List (Key × V)} {i : Int} {v : V} (hd : H d = some (.dK kvs)) (hl : kvs.length < 1000000) (k : P (upd H d (.dK (putK kvs (.inl i) v)))) : kDPut (.ref d) (.int i) v H P := ⟨d, _, rfl, DPut.k (k := .inl i) hd (Nat.lt_trans hl (by decide)), k⟩
theorem v_dgetK {H : Hp} {Q : VK} {d : Addr} {kvs : List (Key × V)} {i : Int} {v : V} (hd : H d = some (.dK kvs)) (e : valV kvs (.inl i) = some v) (q : Q v H) : kDGet (.ref d) (.int i) H Q := ⟨d, v, rfl, by rw [← e]; exact DGet.k (k := .inl i) hd, q⟩
/-! isinstance of an own class -/
structure IsiC (K : PySem.W.Frag) (C : Addr) : Prop where
  ca : PySem.W.findIn K (.ref C) "__class__" = some (some (.builtin "object.__class__"))
  cn : PySem.W.specialIn K (.builtin "object.__class__") "__get__" = some (some (.builtin "getset_descriptor.__get__"))
  ct : PySem.W.takesIn K (.builtin "object.__class__") = some true
  cm : PySem.W.mroIn K C (.type "object") = some true
theorem isi_ins {K : PySem.W.Frag} {H : Hp} {Q : VK} {a C D dx : Addr} {fs : List (Str × V)} {b : Bool} (ho : H a = some (.ins C dx fs)) (cl : Cls K C) (i : IsiC K C) (kt : PySem.W.kitOne K (.ref C) (.ref D) = some b) (k : Q (.bl b) H) : rIsi K [.ref a, .ref D] H Q :=
  v_isi (.own D) (.base (.ins ho cl i.ca i.cn i.ct i.cm)) kt k
end SH

set_option Elab.async false
set_option linter.all false
set_option maxRecDepth 100000
set_option maxHeartbeats 4000000
/-! SHN: C(e, .., k = v): an instance made with keywords -/
namespace SH
open PySem PySem.Spec PyProof.Rows L2
structure CalCK (P : Program) (w : World) (K : PySem.W.Frag) (mg : Str → Option Value) (base : Heap) (CX : CXT) (k : Nat) (x : Str) (C : Addr) (n : Nat) (ks : List Str) (gV : List V → List V → List V) (sp : Sp) : Prop where
  ex : ∃ (f : Addr) (fd : FuncData) (ps : List Str) (g : List Value → List Value → List Value), mg x = some (.ref C) ∧ L2.Mk K C f ∧ KBn K fd ps (n + 1) ks g gV ∧ FnOk P w K mg base CX k f fd ps sp
section
variable {X : Cx} {CX : CXT} {k j n : Nat} {C : Addr} {sp : Sp} {gV : List V → List V → List V} {ks : List Str} {E : XK} {x : Str} {p pos : Pos} {e : Expr} {es : List Expr} {kws : List Keyword} {t tk : TA}
theorem pe_makeKF (c : CalCK X.prog X.w X.K X.mg X.base CX j x C n ks gV sp) (hr : Room k X.A) (hg : Gl X x) (hx : Passes CX X E) (ha : PA X (e :: es) t) (hkw : PK X kws tk) (hk : j + 1 ≤ k := by decide)
    (hall : (backToKw pos (keywordEach kws X.env)).all (·.1.isSome) = true := by rfl) (hks : (backToKw pos (keywordEach kws X.env)).filterMap (·.1) = ks := by rfl)
    (hdb : (x == ("__debug__" : Str)) = false := by decide) (he : starEach (e :: es) X.env = (false, eval e X.env) :: starEach es X.env := by rfl)
    (hpl : ((backTo pos (starEach (e :: es) X.env)).any (·.1) || (backToKw pos (keywordEach kws X.env)).any (·.1.isNone)) = false := by rfl) :
    PE X (.Call (.Name x p) (e :: es) kws pos) (tMakeN C n ks.length sp gV E t tk) := by
  obtain ⟨f, fd, ps, g, h1, h2, h3, h5⟩ := c.ex
  exact pe_makeN h2 h5 (hr.mono hk) hg h1 h3 hx ha hkw hall hks hdb he hpl
def kMakeN (C : Addr) (n m : Nat) (sp : Sp) (gV : List V → List V → List V) (E : XK) (Q : VK) (vs zs : List V) (H2 : Hp) : Prop := vs.length = n ∧ zs.length = m ∧
  ∀ x dx, H2 x = none → H2 dx = none → dx ≠ x → sp (gV (.ref x :: vs) zs) (upd (upd H2 dx (.own x)) x (.ins C dx [])) (fun v H3 => v = .non ∧ Q (.ref x) H3) E
theorem r_makeN {C : Addr} {n m : Nat} {σ : L2.St} {H : Hp} {Q : VK} (h : t σ H fun vs H1 => tk σ H1 fun zs H2 => kMakeN C n m sp gV E Q vs zs H2) : tMakeN C n m sp gV E t tk σ H Q := h
end
/-! a name of one's own that holds a def of the module -/
section
variable {X : Cx} {k j i : Nat} {f : Addr} {sp : Sp} {x : Str} {p pos : Pos} {e : Expr} {es : List Expr} {t : TA}
theorem pe_callLF (c : Held X.prog X.w X.K X.mg X.base j f sp) (hr : Room k X.A) (hN : X.N[i]? = some x) (hv : Vis X.env.scope x) (ha : PA X (e :: es) t) (hk : j ≤ k := by decide)
    (hdb : (x == ("__debug__" : Str)) = false := by decide) (hcd : (x == ("__classdict__" : Str)) = false := by decide)
    (he : starEach (e :: es) X.env = (false, eval e X.env) :: starEach es X.env := by rfl) (hpl : (backTo pos (starEach es X.env)).any (·.1) = false := by rfl) : PE X (.Call (.Name x p) (e :: es) [] pos) (tCallL i f sp [] (fun _ _ _ => False) t) := by
  obtain ⟨fd, ps, F, h1, h2⟩ := c.ex
  exact pe_callL F (hr.mono hk) hN hv h1 h2 .nil (fun _ _ _ _ _ _ _ z => z.elim) ha hdb hcd he hpl
theorem r_callL {σ : L2.St} {H : Hp} {Q : VK} {E : XK} (hs : σ[i]? = some (some (.ref f))) (k : t σ H fun vs H1 => sp (vs ++ []) H1 Q E) : tCallL i f sp [] E t σ H Q := ⟨hs, k⟩
end
end SH

set_option Elab.async false
set_option linter.all false
set_option maxRecDepth 100000
set_option maxHeartbeats 4000000
/-! SHR: C() where C has no __init__ but object's -/
namespace SH
open PySem PySem.Spec PyProof.Rows L2
structure MkP (K : PySem.W.Frag) (C : Addr) : Prop where
  makes : PySem.W.makesIn K C = true
  init : PySem.W.findIn K (.ref C) "__init__" = some (some (.builtin "object.__init__"))
  kp : PySem.W.keepIn K (.ref C) = true
def tMakeP (C : Addr) : TE := fun σ H Q => ∀ x dx, H x = none → H dx = none → dx ≠ x → Q (.ref x) (upd (upd H dx (.own x)) x (.ins C dx []))
theorem pe_makeP {X : Cx} {C : Addr} {x : Str} {p pos : Pos} (M : MkP X.K C) (hg : Gl X x) (hm : X.mg x = some (.ref C)) (hdb : (x == ("__debug__" : Str)) = false := by decide) : PE X (.Call (.Name x p) [] [] pos) (tMakeP C) := by
  refine ⟨fun pins s σ H Q I h => ?_⟩
  refine wpAny_Call_Name_kw (ld_glob I hg hm ?_ hdb)
  refine PySem.W.callWith_K0 I.kIn M.kp ?_
  have hq := h (s.heap.objs.size + 1) s.heap.objs.size (I.hok.fresh (Nat.le_succ _)) (I.hok.fresh (Nat.le_refl _)) (Nat.ne_of_lt (Nat.lt_succ_self _))
  have I2 := Inv.made (C := C) I
  refine wpAny_call (make_map0 I.kIn M.makes M.init (fun self => PySem.W.Looks.of_pure (PySem.W.oi_bind self)) ?_)
  have hx : ((s.heap.push PySem.W.emptyDict).push (PySem.W.instObj C s.heap.objs.size)).get? (s.heap.objs.size + 1) = some (PySem.W.instObj C s.heap.objs.size) := by heap_get
  refine codeAny_call_builtin PySem.W.oi_plain PySem.W.entry_oi (PySem.W.check_slot PySem.W.oi_kind PySem.W.oi_split ?_ (PySem.W.oi_args _) ?_)
  · have LT : PySem.W.Looks (model X.prog X.w) ((s.heap.push PySem.W.emptyDict).push (PySem.W.instObj C s.heap.objs.size)) (typeOf (.ref (s.heap.objs.size + 1))) (.ref C) := fun A Q E s k q => wpAny_typeOf_ref (k _ _ hx) q
    exact LT.andThen (PySem.W.looks_mroIn I2.kIn (mro_obj M.makes))
  · rw [PySem.W.oi_run]
    exact wpAny_pure ⟨rfl, ⟨V.ref (s.heap.objs.size + 1), _, I2, rfl, hq⟩⟩
/-! membership of data in a list of data -/
def rInD (K : PySem.W.Frag) (neg : Bool) : R2 := fun x y H Q => ∃ d ds, Dp K H x d ∧ Dp K H y (.list ds) ∧ d.canLay0 = true ∧ PyData.canLayAll0 ds = true ∧ d.depth ≤ 8 ∧ Q (.bl (if neg then !(ds.any fun e => PyData.eqv e d) else ds.any fun e => PyData.eqv e d)) H
theorem op_inD {X : Cx} (hu : X.A.units + 64 < cLine) : OpR X (compareOp .In) (rInD X.K false) := by
  intro pins s σ H x y v u Q I rx ry h
  obtain ⟨d, ds, hd, he, sd, se, hdp, q⟩ := h
  obtain ⟨as, r1⟩ := Dp.reads I d x v hd rx
  obtain ⟨bs, r2⟩ := Dp.reads I _ y u he ry
  refine SeqAt.in_list_reads r2 r1 se sd ?_ ⟨.bl _, H, I, rfl, q⟩
  have := Nat.min_le_right (PyData.depthAll ds) d.depth
  omega
theorem op_notInD {X : Cx} (hu : X.A.units + 64 < cLine) : OpR X (compareOp .NotIn) (rInD X.K true) := by
  intro pins s σ H x y v u Q I rx ry h
  obtain ⟨d, ds, hd, he, sd, se, hdp, q⟩ := h
  obtain ⟨as, r1⟩ := Dp.reads I d x v hd rx
  obtain ⟨bs, r2⟩ := Dp.reads I _ y u he ry
  refine SeqAt.notIn_list_reads r2 r1 se sd ?_ ⟨.bl _, H, I, rfl, q⟩
  have := Nat.min_le_right (PyData.depthAll ds) d.depth
  omega
section
variable {K : PySem.W.Frag} {H : Hp} {α : Type} [Enc α] {p : Addr} {vs : List V} {xs : List α} {v : V} {x : α} {Q : VK}
theorem v_notInE (h1 : Is K H v x) (h2 : SqL K H p vs) (h3 : IsL K H vs xs) (k : ∀ b : Bool, (b = true ↔ x ∈ xs) → Q (.bl (!b)) H) (hn : Enc.n α ≤ 8 := by decide) : rInD K true v (.ref p) H Q := by
  refine ⟨Enc.d x, xs.map Enc.d, h1, .lst h2 h3, Enc.lay x, Enc.layAll xs, Nat.le_trans (Enc.deep x) hn, ?_⟩
  rw [if_pos rfl]
  refine k _ ?_
  rw [List.any_map, List.any_eq_true]
  constructor
  · rintro ⟨y, hy, e⟩
    have e' : PyData.eqv (Enc.d y) (Enc.d x) = true := e
    rw [Enc.eqv] at e'
    obtain rfl := @of_decide_eq_true _ (Enc.dec y x) e'
    exact hy
  · intro h
    refine ⟨x, h, ?_⟩
    show PyData.eqv (Enc.d x) (Enc.d x) = true
    rw [Enc.eqv]
    exact @decide_eq_true _ (Enc.dec x x) rfl
end
end SH

set_option Elab.async false
set_option linter.all false
set_option maxRecDepth 100000
set_option maxHeartbeats 4000000
/-! SHV: list.count of flat values; lists of the same objects compared; None in a list of objects; closures under growing heaps -/
namespace SH
open PySem PySem.Spec PyProof.Rows L2 NdefX LamX
section
variable {X : Cx}
def rCntF (K : PySem.W.Frag) : V → List V → Hp → VK → Prop := fun x xs H Q => ∃ (p : Addr) (ys : List V) (k : V), x = .ref p ∧ xs = [k] ∧ SqL K H p ys ∧ flatV k = true ∧ ys.all flatV = true ∧ Q (.int (ys.countP fun y => eqV y k : Nat)) H
theorem count_eqU {x : V} : ∀ {xs : List V} {us : List Value}, Vals xs us → xs.all flatV = true → us.countP (eqU x) = xs.countP fun y => eqV y x
  | _, _, .nil, _ => rfl
  | y :: xs, u :: us, .cons r t, f => by
    rw [List.all_cons, Bool.and_eq_true] at f
    rw [List.countP_cons, List.countP_cons, count_eqU t f.2, eqU_of r f.1]
theorem mt_lcountF : MtR X "list.count" (rCntF X.K) := by
  intro pins s σ H x xs v us Q I rx rxs h
  obtain ⟨p, ys, k, rfl, rfl, hs, fk, fs, q⟩ := h
  cases rx
  obtain ⟨u, rfl, ru⟩ := rxs.one
  obtain ⟨its, rv, ⟨⟨cls, dd, data, sl⟩, n, ho, hc, hdn, hd⟩, hlen⟩ := I.list hs
  simp only at hc hd
  subst hc hd
  refine call_meets PySem.F.slot_list_count ⟨_, ho, rfl⟩ PySem.F.entry_list_count (PySem.F.args_list_count_2 _ _)
    (SeqAt.list_countAt p its.toArray n dd sl u (eqU k)) ⟨ho, fun y hy => mem_eqAt ru fk rv fs y (by simpa using hy), ?_⟩
  have ec : its.toArray.toList.countP (eqU k) = ys.countP fun y => eqV y k := count_eqU rv fs
  refine ⟨.int (ys.countP fun y => eqV y k : Nat), H, I.tok _, ⟨s.toks, ?_⟩, q⟩
  show Value.int ((its.toArray.toList.countP (eqU k) : Nat) : Int) s.toks = Value.int ((ys.countP (fun y => eqV y k) : Nat) : Int) s.toks
  rw [ec]
/-- two lists of the same objects -/
def rNeSame (K : PySem.W.Frag) : R2 := fun x y H Q => ∃ (a b : Addr) (cs : List Addr), x = .ref a ∧ y = .ref b ∧ SqL K H a (cs.map V.ref) ∧ SqL K H b (cs.map V.ref) ∧ Q (.bl false) H
theorem vals_refs : ∀ {cs : List Addr} {us : List Value}, Vals (cs.map V.ref) us → us = cs.map Value.ref
  | [], _, .nil => rfl
  | c :: cs, u :: us, .cons r t => by
    have e : u = Value.ref c := r
    rw [List.map_cons, e, vals_refs t]
theorem op_neSame (hu : X.A.units + 64 < cLine) : OpR X (compareOp .NotEq) (rNeSame X.K) := by
  intro pins s σ H x y v u Q I rx ry h
  obtain ⟨a, b, cs, rfl, rfl, ha, hb, q⟩ := h
  cases rx
  cases ry
  obtain ⟨us, r1, p1, _⟩ := I.list ha
  obtain ⟨ws, r2, p2, _⟩ := I.list hb
  rw [vals_refs r1] at p1
  rw [vals_refs r2] at p2
  have h := SeqAt.RcNeAt.lists (A := X.A) (e := fun _ => true) p1.isList p2.isList rfl (by omega) (fun j h1 h2 => SeqAt.EqAt.same _)
  refine h X.prog X.w _ _ ?_
  have e : (!(List.range ((cs.map Value.ref).toArray.size)).all fun _ => true) = false := by
    rw [List.all_eq_true.mpr fun _ _ => rfl]; rfl
  rw [e]
  exact ⟨.bl false, H, I, rfl, q⟩
end
/-- a class without an __eq__ of its own -/
structure NoEq (K : PySem.W.Frag) (C : Addr) : Prop where
  mro : PySem.W.mroIn K C (.type "object") = some true
  eq : PySem.W.findIn K (.ref C) "__eq__" = some (some (.builtin "object.__eq__"))
theorem Clo.ext {H H' : Hp} {f : Addr} {st : Stmt} {name qual : Str} {fr : List Str} {ws : List V} {cl : List (Str × Addr)} {c' : Addr} (c : Clo H f st name qual fr ws cl c') (e : ExtN H H') : Clo H' f st name qual fr ws cl c' := by
  refine ⟨e _ _ c.fn (by intro ps z; cases z), e _ _ c.code (by intro ps z; cases z), c.len, fun y a h => ?_, c.inj, fun i y h => ?_⟩
  · obtain ⟨v, k⟩ := c.cells y a h
    exact ⟨v, e _ _ k (by intro ps z; cases z)⟩
  · obtain ⟨a, v, h1, h2, h3⟩ := c.has i y h
    exact ⟨a, v, h1, h2, e _ _ h3 (by intro ps z; cases z)⟩
end SH

set_option Elab.async false
set_option linter.all false
set_option maxRecDepth 100000
set_option maxHeartbeats 8000000
/-! the step -/
local macro_rules | `(tactic| walk_at "slot") => `(tactic| (with_reducible first | exact SH.get_z | (apply SH.get_s; walk_at "slot")))
local macro_rules | `(tactic| walk_at "put") => `(tactic| (with_reducible first | exact SH.set_z | (apply SH.set_s; walk_at "put")))
local macro_rules | `(tactic| walk_at "wipe") => `(tactic| (with_reducible first | exact SH.wp_z | apply SH.wp_s (by walk_at "wipe") (by walk_at "put")))
local macro_rules | `(tactic| walk_at "begin") => `(tactic| ((apply SH.r_start (by (repeat (with_reducible first | exact SH.st_z | apply SH.st_c | apply SH.st_n)))); (try dsimp only [L2.Cx.nox, L2.Cx.wish, L2.cxOf])))
local macro_rules | `(tactic| walk_at "r0") => `(tactic| with_reducible first
  | ((apply SH.r_nx (by walk_at "put")))
  | refine SH.r_seq ?_ | refine SH.r_asg ?_ | (apply SH.r_gnw (by walk_at "wipe")) | (apply SH.r_gtw (by walk_at "wipe")) | ((apply SH.r_gname (by walk_at "put")))
  | ((apply SH.r_var (by walk_at "slot"))) | refine SH.r_c ?_ | refine SH.r_op ?_ | refine SH.r_cons ?_ | refine SH.r_nil ?_
  | refine SH.v_addI ?_ | refine SH.v_subI ?_ | refine SH.v_ltI ?_ | refine SH.v_leI ?_ | refine SH.v_gtI ?_ | refine SH.v_geI ?_ | refine SH.v_eqI ?_ | refine SH.v_neI ?_
  | refine SH.v_eqB ?_ | refine SH.v_neB ?_ | refine SH.w_isB ?_ | refine SH.w_notB ?_ | refine SH.v_isN ?_ | refine SH.v_notN ?_ | refine SH.v_ipA ?_ | refine SH.v_ipS ?_ | refine SH.v_and ?_
  | refine SH.r_ifS ?_ | refine SH.r_test ?_ | refine SH.r_bl ?_ | refine SH.r_B ?_ | refine SH.r_and ?_ | refine SH.r_or ?_ | refine SH.r_not ?_ | refine SH.r_andV ?_ | refine SH.r_orV ?_ | refine SH.r_notV ?_
  | refine SH.r_T ?_ | refine SH.r_F ?_ | refine SH.r_nT ?_ | refine SH.r_nF ?_
  | refine SH.r_ret ?_ | refine SH.r_retN ?_ | refine SH.r_drop ?_ | ((apply SH.r_aug (by walk_at "slot"))) | refine SH.r_next ?_ | refine SH.r_if ?_
  | refine SH.r_call ?_ | refine SH.r_cb ?_ | refine SH.r_tup ?_ | refine SH.r_lst ?_ | refine SH.r_part ?_ | refine SH.r_nopart ?_ | refine SH.r_int ?_ | refine SH.r_sl ?_ | refine SH.r_chain ?_
  | refine SH.r_bm ?_ | refine SH.r_bm0 ?_ | refine SH.r_un ?_ | refine SH.r_neg ?_ | refine SH.r_gcons ?_ | refine SH.r_gnil ?_ | refine SH.r_gsub ?_ | refine SH.r_brk ?_ | refine SH.r_cont ?_ | refine SH.r_yes ?_
  | refine SH.r_for ?_ | refine SH.r_lc ?_ | refine SH.r_iList ?_ | refine SH.r_iTup ?_ | refine SH.r_iRng1 ?_ | refine SH.r_iRng2 ?_ | refine SH.r_iRng3 ?_ | refine SH.r_iEnum ?_ | refine SH.r_iZip ?_ | refine SH.r_iRev ?_
  | refine SH.r_fldF ?_ | refine SH.r_sfldF ?_ | refine SH.r_sfldAugF ?_ | refine SH.r_meth ?_ | refine SH.r_make ?_ | refine SH.r_lrg1 ?_ | refine SH.r_lrg2 ?_ | refine SH.r_bits ?_ | refine SH.v_bits ?_ | refine SH.w_max ?_ | refine SH.w_min ?_
  | refine SH.r_par ?_ | refine SH.r_par3 ?_ | (apply SH.v_par (by walk_at "put") (by walk_at "put")) | (apply SH.v_par3 (by walk_at "put") (by walk_at "put") (by walk_at "put"))
  | refine SH.r_callS ?_ | refine SH.r_mkO ?_ | refine SH.r_xf ?_ | refine SH.r_ost ?_ | refine SH.r_methX ?_ | refine SH.r_makeX ?_ | refine SH.r_augS ?_ | refine SH.r_dnewT ?_ | refine SH.r_dput ?_ | refine SH.r_dget1 ?_ | refine SH.r_dgetI ?_ | refine SH.r_din ?_ | refine SH.r_dnotin ?_ | refine SH.w_intI ?_ | refine SH.w_intB ?_ | ((apply SH.v_dget1 (by assumption))))
/-! heap facts -/
local macro_rules | `(tactic| walk_at "ne") => `(tactic| with_reducible first
  | assumption | (apply Ne.symm; assumption)
  | ((apply SH.ne_of_none'); (focus (assumption; done)); (focus (walk_at "lk"))) | ((apply Ne.symm); (apply SH.ne_of_none'); (focus (assumption; done)); (focus (walk_at "lk")))
  | ((apply L2.ne_of); (focus (walk_at "lk")); (focus (walk_at "lk")); (focus (intro z; cases z; done))))
local macro_rules | `(tactic| walk_at "lk") => `(tactic| (focus
  ((repeat (with_reducible first
  | assumption | exact L2.upd_same
  | (apply SH.off_old (by assumption))
  | ((apply SH.off_far); (focus (walk_at "ne")))
  | (apply SH.Stp.keep0 (by assumption))));
        done)))
local macro_rules | `(tactic| walk_at "sq") => `(tactic| (focus
  ((repeat (with_reducible first
  | assumption | exact L2.SqL.of L2.upd_same | exact L2.SqT.of L2.upd_same | exact L2.SqL.of (by assumption) | exact L2.SqT.of (by assumption)
  | (apply SH.sql_off (by assumption)) | (apply SH.sqt_off (by assumption))
  | ((apply SH.sql_offar); (focus (walk_at "ne"))) | ((apply SH.sqt_offar); (focus (walk_at "ne")))
  | (apply SH.Stp.sql0 (by assumption)) | (apply SH.Stp.sqt0 (by assumption))));
        done)))
local macro_rules | `(tactic| walk_at "st") => `(tactic| (focus
  ((repeat (with_reducible first
  | assumption | exact SH.Stp.refl _ _
  | (apply SH.st_new (by assumption)) | (apply SH.st_trans (by assumption)) | ((apply SH.st_put); (focus (walk_at "fr")))));
        done)))
local macro_rules | `(tactic| walk_at "fr") => `(tactic| with_reducible first | assumption | ((apply SH.st_fr (by assumption)); (walk_at "st")))
local macro_rules | `(tactic| walk_at "few") => `(tactic| first | exact SH.few0 | exact SH.few1 | exact SH.few2 | exact SH.few3 | exact SH.few4 | exact SH.few5 | exact SH.few6 | (simp; done))
local macro_rules | `(tactic| walk_at "pf") => `(tactic| first | exact SH.pf_nil | exact SH.pf_hit | (apply SH.pf_miss (by decide) (by walk_at "pf")))
/-! steps with a side -/
local macro_rules | `(tactic| walk_at "r2") => `(tactic| first
  | ((with_reducible refine SH.v_mulI ?_ ?_); (focus (first | exact L2.CMul.ok (.inl ⟨by omega, by omega⟩) | exact L2.CMul.ok (.inr ⟨by omega, by omega⟩) | exact SH.mul64 ⟨by omega, by omega⟩ ⟨by omega, by omega⟩)))
  | ((with_reducible refine SH.v_divS ?_ ?_ ?_); (focus omega); (focus omega))
  | ((with_reducible refine SH.v_mod ?_ ?_); (focus omega))
  | (with_reducible refine SH.v_pow60 ?_)
  | ((with_reducible apply SH.v_lenQ); (focus (walk_at "sq")); (focus (first | exact List.length_map _ | rfl))) | ((with_reducible apply SH.v_lenU); (focus (walk_at "sq")); (focus (first | exact List.length_map _ | rfl)))
  | ((with_reducible apply SH.v_slL); (focus (walk_at "sq"))) | ((with_reducible apply SH.v_iList); (focus (walk_at "sq")))
  | ((with_reducible refine SH.v_rng2 ?_ ?_); (focus (refine ⟨by omega, by omega, by omega, by omega⟩)))
  | ((with_reducible refine SH.v_rng1 ?_ ?_); (focus (refine ⟨by omega, by omega⟩)))
  | ((with_reducible apply SH.v_fld); (focus (walk_at "lk")); (focus rfl)) | ((with_reducible apply SH.v_sfld); (focus (walk_at "lk")); (focus (walk_at "few")); (focus (walk_at "pf"))) | ((with_reducible apply SH.v_aug1); (focus (walk_at "lk")); (focus rfl)) | ((with_reducible apply SH.v_aug2); (focus (walk_at "lk")); (focus (walk_at "few")); (focus (walk_at "pf")))
  | ((with_reducible apply SH.v_enum); (focus (walk_at "sq"))) | ((with_reducible apply SH.v_rev1); (focus (walk_at "sq"))) | ((with_reducible apply SH.v_zip); (focus (walk_at "sq")); (focus (walk_at "sq"))) | ((with_reducible apply SH.v_iTup); (focus (walk_at "sq")))
  | (with_reducible refine SH.v_tup1 ?_) | (with_reducible refine SH.v_tup2 ?_) | (with_reducible refine SH.v_tup3 ?_) | (with_reducible refine SH.v_lst0 ?_) | (with_reducible refine SH.v_lst1 ?_) | (with_reducible refine SH.v_lst2 ?_) | (with_reducible refine SH.v_lst3 ?_) | (with_reducible refine SH.v_lst4 ?_)
  | ((with_reducible apply SH.r_ty); (focus (walk_at "lk")))
  | ((with_reducible apply SH.w_listL); (focus (walk_at "sq"))) | ((with_reducible apply SH.w_listT); (focus (walk_at "sq"))) | ((with_reducible apply SH.w_tupL); (focus (walk_at "sq"))) | ((with_reducible apply SH.w_tupT); (focus (walk_at "sq")))
  | ((with_reducible apply SH.r_gtup); (focus (walk_at "sq")); (focus rfl))
  | ((with_reducible apply SH.r_glst); (focus (walk_at "sq")); (focus rfl))
  | (with_reducible refine SH.r_callX ?_)
  | ((with_reducible refine SH.r_wp ?_ ?_); (focus rfl))
  | ((with_reducible apply SH.v_methX); (focus (walk_at "lk")); (focus rfl)) | ((with_reducible apply SH.v_xf); (focus (walk_at "lk")); (focus rfl)) | ((with_reducible apply SH.v_meth); (focus (walk_at "lk")); (focus rfl)) | ((with_reducible apply SH.isi_L); (focus (walk_at "lk"))) | ((with_reducible apply SH.isi_T); (focus (walk_at "lk"))) | (with_reducible refine SH.isi_bl_bool ?_) | (with_reducible refine SH.isi_bl_int ?_)
  | (with_reducible refine SH.r_ckw ?_) | (with_reducible refine SH.r_ckw2 ?_) | (with_reducible refine SH.r_lrev ?_) | ((with_reducible apply SH.v_lrev); (focus (walk_at "sq")))
  | ((with_reducible refine SH.v_isiIT ?_)) | ((with_reducible refine SH.v_isiIB ?_)) )
local macro_rules | `(tactic| walk_at "r1") => `(tactic| first | walk_at "r0" | walk_at "r2")
local macro_rules | `(tactic| walk_at "rd") => `(tactic| repeat walk_at "r1")
/-! the same, up to the making of an instance, or a call -/
local macro_rules | `(tactic| walk_at "rq") => `(tactic| repeat ((fail_if_success (with_reducible refine SH.r_make ?_)); walk_at "r1"))
local macro_rules | `(tactic| walk_at "rc") => `(tactic| repeat ((fail_if_success (with_reducible refine SH.r_call ?_)); walk_at "r1"))
/-! the same, up to an if -/
local macro_rules | `(tactic| walk_at "ri") => `(tactic| repeat ((fail_if_success (with_reducible refine SH.r_ifS ?_)); walk_at "r1"))

namespace Law
open PySem PySem.Spec PyProof.Rows L2 SH NdefX LamX
def top (i : Nat) : Stmt := PySem.Challenge.pw_sorthall_k13_tables_votes_chains.main.body.getD i (.Pass ⟨0, 0, 0, 0⟩)
abbrev s_good : Stmt := top 5
theorem sc_good : FnScope ["at"] ["at"] (defScope s_good) := ⟨rfl, rfl, rfl, by decide +kernel, rfl, by decide +kernel, by decide +kernel⟩
abbrev s_Rule_before : Stmt := inClass (top 6) 0
theorem sc_Rule_before : FnScope ["self", "x", "y"] ["self", "x", "y"] (defScope s_Rule_before) := ⟨rfl, rfl, rfl, by decide +kernel, rfl, by decide +kernel, by decide +kernel⟩
abbrev s_Rule_widest : Stmt := inClass (top 6) 1
theorem sc_Rule_widest : FnScope ["self"] ["self"] (defScope s_Rule_widest) := ⟨rfl, rfl, rfl, by decide +kernel, rfl, by decide +kernel, by decide +kernel⟩
abbrev s_KeyRule___init__ : Stmt := inClass (top 7) 0
theorem sc_KeyRule___init__ : FnScope ["self", "columns", "at", "way"] ["self", "columns"] (defScope s_KeyRule___init__) := ⟨rfl, rfl, rfl, by decide +kernel, rfl, by decide +kernel, by decide +kernel⟩
abbrev s_KeyRule_before : Stmt := inClass (top 7) 1
theorem sc_KeyRule_before : FnScope ["self", "x", "y", "at", "way"] ["self", "x", "y"] (defScope s_KeyRule_before) := ⟨rfl, rfl, rfl, by decide +kernel, rfl, by decide +kernel, by decide +kernel⟩
abbrev s_KeyRule_widest : Stmt := inClass (top 7) 2
theorem sc_KeyRule_widest : FnScope ["self", "at", "way"] ["self"] (defScope s_KeyRule_widest) := ⟨rfl, rfl, rfl, by decide +kernel, rfl, by decide +kernel, by decide +kernel⟩
abbrev s_NearRule___init__ : Stmt := inClass (top 8) 0
theorem sc_NearRule___init__ : FnScope ["self", "at", "gap"] ["self", "at", "gap"] (defScope s_NearRule___init__) := ⟨rfl, rfl, rfl, by decide +kernel, rfl, by decide +kernel, by decide +kernel⟩
abbrev s_NearRule_before : Stmt := inClass (top 8) 1
theorem sc_NearRule_before : FnScope ["self", "x", "y"] ["self", "x", "y"] (defScope s_NearRule_before) := ⟨rfl, rfl, rfl, by decide +kernel, rfl, by decide +kernel, by decide +kernel⟩
abbrev s_NearRule_widest : Stmt := inClass (top 8) 2
theorem sc_NearRule_widest : FnScope ["self"] ["self"] (defScope s_NearRule_widest) := ⟨rfl, rfl, rfl, by decide +kernel, rfl, by decide +kernel, by decide +kernel⟩
abbrev s_RingRule___init__ : Stmt := inClass (top 9) 0
theorem sc_RingRule___init__ : FnScope ["self", "at", "size"] ["self", "at", "size"] (defScope s_RingRule___init__) := ⟨rfl, rfl, rfl, by decide +kernel, rfl, by decide +kernel, by decide +kernel⟩
abbrev s_RingRule_before : Stmt := inClass (top 9) 1
theorem sc_RingRule_before : FnScope ["self", "x", "y", "far"] ["self", "x", "y"] (defScope s_RingRule_before) := ⟨rfl, rfl, rfl, by decide +kernel, rfl, by decide +kernel, by decide +kernel⟩
abbrev s_RingRule_widest : Stmt := inClass (top 9) 2
theorem sc_RingRule_widest : FnScope ["self"] ["self"] (defScope s_RingRule_widest) := ⟨rfl, rfl, rfl, by decide +kernel, rfl, by decide +kernel, by decide +kernel⟩
abbrev s_TableRule___init__ : Stmt := inClass (top 10) 0
theorem sc_TableRule___init__ : FnScope ["self", "at", "table", "truths"] ["self", "at", "table"] (defScope s_TableRule___init__) := ⟨rfl, rfl, rfl, by decide +kernel, rfl, by decide +kernel, by decide +kernel⟩
abbrev s_TableRule_before : Stmt := inClass (top 10) 1
theorem sc_TableRule_before : FnScope ["self", "x", "y"] ["self", "x", "y"] (defScope s_TableRule_before) := ⟨rfl, rfl, rfl, by decide +kernel, rfl, by decide +kernel, by decide +kernel⟩
abbrev s_TableRule_widest : Stmt := inClass (top 10) 2
theorem sc_TableRule_widest : FnScope ["self"] ["self"] (defScope s_TableRule_widest) := ⟨rfl, rfl, rfl, by decide +kernel, rfl, by decide +kernel, by decide +kernel⟩
abbrev s_VoteRule___init__ : Stmt := inClass (top 11) 0
theorem sc_VoteRule___init__ : FnScope ["self", "rules"] ["self", "rules"] (defScope s_VoteRule___init__) := ⟨rfl, rfl, rfl, by decide +kernel, rfl, by decide +kernel, by decide +kernel⟩
abbrev s_VoteRule_before : Stmt := inClass (top 11) 1
theorem sc_VoteRule_before : FnScope ["self", "x", "y", "votes", "rule"] ["self", "x", "y"] (defScope s_VoteRule_before) := ⟨rfl, rfl, rfl, by decide +kernel, rfl, by decide +kernel, by decide +kernel⟩
abbrev s_VoteRule_widest : Stmt := inClass (top 11) 2
theorem sc_VoteRule_widest : FnScope ["self", "rule"] ["self"] (defScope s_VoteRule_widest) := ⟨rfl, rfl, rfl, by decide +kernel, rfl, by decide +kernel, by decide +kernel⟩
abbrev s_ChainRule___init__ : Stmt := inClass (top 12) 0
theorem sc_ChainRule___init__ : FnScope ["self", "rules"] ["self", "rules"] (defScope s_ChainRule___init__) := ⟨rfl, rfl, rfl, by decide +kernel, rfl, by decide +kernel, by decide +kernel⟩
abbrev s_ChainRule_before : Stmt := inClass (top 12) 1
theorem sc_ChainRule_before : FnScope ["self", "x", "y", "rule", "first"] ["self", "x", "y"] (defScope s_ChainRule_before) := ⟨rfl, rfl, rfl, by decide +kernel, rfl, by decide +kernel, by decide +kernel⟩
abbrev s_ChainRule_widest : Stmt := inClass (top 12) 2
theorem sc_ChainRule_widest : FnScope ["self", "rule"] ["self"] (defScope s_ChainRule_widest) := ⟨rfl, rfl, rfl, by decide +kernel, rfl, by decide +kernel, by decide +kernel⟩
abbrev s_AskedRule___init__ : Stmt := inClass (top 13) 0
theorem sc_AskedRule___init__ : FnScope ["self", "teller"] ["self", "teller"] (defScope s_AskedRule___init__) := ⟨rfl, rfl, rfl, by decide +kernel, rfl, by decide +kernel, by decide +kernel⟩
abbrev s_AskedRule_before : Stmt := inClass (top 13) 1
theorem sc_AskedRule_before : FnScope ["self", "x", "y", "ask"] ["self", "x", "y"] (defScope s_AskedRule_before) := ⟨rfl, rfl, rfl, by decide +kernel, rfl, by decide +kernel, by decide +kernel⟩
abbrev s__law_cell_at : Stmt := top 15
theorem sc__law_cell_at : FnScope ["_law_script", "_law_k"] ["_law_script", "_law_k"] (defScope s__law_cell_at) := ⟨rfl, rfl, rfl, by decide +kernel, rfl, by decide +kernel, by decide +kernel⟩
abbrev s__law_figures : Stmt := top 16
theorem sc__law_figures : FnScope ["_law_cell", "_law_many", "_law_base", "_law_figures_here", "_law_k"] ["_law_cell", "_law_many", "_law_base"] (defScope s__law_figures) := ⟨rfl, rfl, rfl, by decide +kernel, rfl, by decide +kernel, by decide +kernel⟩
abbrev s__law_plan_by : Stmt := top 17
theorem sc__law_plan_by : FnScope ["_law_cell", "_law_long", "_law_at", "_law_some", "_law_bits", "_law_k", "_law_one_here", "_law_bit"] ["_law_cell", "_law_long"] (defScope s__law_plan_by) := ⟨rfl, rfl, rfl, by decide +kernel, rfl, by decide +kernel, by decide +kernel⟩
abbrev s__law_teller : Stmt := top 18
theorem sc__law_teller : FnScope ["_law_at", "_law_size", "_law_ask"] ["_law_at", "_law_size"] (defScope s__law_teller) := ⟨rfl, rfl, rfl, by decide +kernel, rfl, by decide +kernel, by decide +kernel⟩
abbrev s__law_rule_of : Stmt := top 19
theorem sc__law_rule_of : FnScope ["_law_plan", "_law_table", "_law_rule", "_law_truths"] ["_law_plan"] (defScope s__law_rule_of) := ⟨rfl, rfl, rfl, by decide +kernel, rfl, by decide +kernel, by decide +kernel⟩
abbrev s__law_one : Stmt := top 20
theorem sc__law_one : FnScope ["_law_plan", "_law_x", "_law_y", "_law_at", "_law_way", "_law_far"] ["_law_plan", "_law_x", "_law_y"] (defScope s__law_one) := ⟨rfl, rfl, rfl, by decide +kernel, rfl, by decide +kernel, by decide +kernel⟩
abbrev s__law_votes : Stmt := top 21
theorem sc__law_votes : FnScope ["_law_plans", "_law_x", "_law_y", "_law_votes_here", "_law_turned", "_law_plan"] ["_law_plans", "_law_x", "_law_y"] (defScope s__law_votes) := ⟨rfl, rfl, rfl, by decide +kernel, rfl, by decide +kernel, by decide +kernel⟩
abbrev s__law_chain : Stmt := top 22
theorem sc__law_chain : FnScope ["_law_tells", "_law_first", "_law_turned"] ["_law_tells"] (defScope s__law_chain) := ⟨rfl, rfl, rfl, by decide +kernel, rfl, by decide +kernel, by decide +kernel⟩
abbrev s__law_before : Stmt := top 23
theorem sc__law_before : FnScope ["_law_plans", "_law_way", "_law_x", "_law_y", "_law_tells", "_law_votes_here", "_law_plan"] ["_law_plans", "_law_way", "_law_x", "_law_y"] (defScope s__law_before) := ⟨rfl, rfl, rfl, by decide +kernel, rfl, by decide +kernel, by decide +kernel⟩
abbrev s__law_widest : Stmt := top 24
theorem sc__law_widest : FnScope ["_law_plan", "_law_at", "_law_way"] ["_law_plan"] (defScope s__law_widest) := ⟨rfl, rfl, rfl, by decide +kernel, rfl, by decide +kernel, by decide +kernel⟩
abbrev s__law_told : Stmt := top 25
theorem sc__law_told : FnScope ["_law_rule", "_law_plans", "_law_way", "_law_x", "_law_y", "_law_found"] ["_law_rule", "_law_plans", "_law_way", "_law_x", "_law_y"] (defScope s__law_told) := ⟨rfl, rfl, rfl, by decide +kernel, rfl, by decide +kernel, by decide +kernel⟩
abbrev s_law : Stmt := top 26
theorem sc_law : FnScope ["_law_script", "_law_long", "_law_way", "_law_plans", "_law_k", "_law_rules", "_law_handed", "_law_rule", "_law_things", "_law_x", "_law_y", "_law_found", "_law_plan", "_law_cell"] ["_law_script"] (defScope s_law) := ⟨rfl, rfl, rfl, by decide +kernel, rfl, by decide +kernel, by decide +kernel⟩
abbrev s__law_teller___law_ask : Stmt := inDef (top 18) 0
theorem sc__law_teller___law_ask : NScope ["_law_x", "_law_y", "_law_at", "_law_size"] ["_law_x", "_law_y"] ["_law_at", "_law_size"] (C8.fnScope s__law_teller___law_ask) := nscope_by (by decide +kernel)
abbrev s_AskedRule_widest : Stmt := inClass (top 6) 1
theorem sc_AskedRule_widest : FnScope ["self"] ["self"] (defScope s_AskedRule_widest) := ⟨rfl, rfl, rfl, by decide +kernel, rfl, by decide +kernel, by decide +kernel⟩
structure Ad where
  HallError : Addr
  NoRule : Addr
  Rule : Addr
  KeyRule : Addr
  NearRule : Addr
  RingRule : Addr
  TableRule : Addr
  VoteRule : Addr
  ChainRule : Addr
  AskedRule : Addr
  P : Addr
structure Txt (K : PySem.W.Frag) (mg : Str → Option Value) (A : Ad) : Prop where
  z_ValueError : mg "ValueError" = Option.none
  z_range : mg "range" = Option.none
  z_list : mg "list" = Option.none
  z_max : mg "max" = Option.none
  z_len : mg "len" = Option.none
  z_isinstance : mg "isinstance" = Option.none
  z_bool : mg "bool" = Option.none
  z_tuple : mg "tuple" = Option.none
  z_int : mg "int" = Option.none
  g_HallError : mg "HallError" = some (.ref A.HallError)
  g_NoRule : mg "NoRule" = some (.ref A.NoRule)
  g_Rule : mg "Rule" = some (.ref A.Rule)
  cl_Rule : Cls K A.Rule
  g_KeyRule : mg "KeyRule" = some (.ref A.KeyRule)
  cl_KeyRule : Cls K A.KeyRule
  na_KeyRule_columns : NoAttr K A.KeyRule "columns"
  g_NearRule : mg "NearRule" = some (.ref A.NearRule)
  cl_NearRule : Cls K A.NearRule
  na_NearRule_at : NoAttr K A.NearRule "at"
  na_NearRule_gap : NoAttr K A.NearRule "gap"
  g_RingRule : mg "RingRule" = some (.ref A.RingRule)
  cl_RingRule : Cls K A.RingRule
  na_RingRule_at : NoAttr K A.RingRule "at"
  na_RingRule_size : NoAttr K A.RingRule "size"
  g_TableRule : mg "TableRule" = some (.ref A.TableRule)
  cl_TableRule : Cls K A.TableRule
  na_TableRule_at : NoAttr K A.TableRule "at"
  na_TableRule_table : NoAttr K A.TableRule "table"
  g_VoteRule : mg "VoteRule" = some (.ref A.VoteRule)
  cl_VoteRule : Cls K A.VoteRule
  na_VoteRule_rules : NoAttr K A.VoteRule "rules"
  g_ChainRule : mg "ChainRule" = some (.ref A.ChainRule)
  cl_ChainRule : Cls K A.ChainRule
  na_ChainRule_rules : NoAttr K A.ChainRule "rules"
  g_AskedRule : mg "AskedRule" = some (.ref A.AskedRule)
  cl_AskedRule : Cls K A.AskedRule
  na_AskedRule_teller : NoAttr K A.AskedRule "teller"
  k_LAST : ∃ u, mg "LAST" = some u ∧ RelV (.int 7) u
  ne_KeyRule : SH.NoEq K A.KeyRule
  ne_NearRule : SH.NoEq K A.NearRule
  ne_RingRule : SH.NoEq K A.RingRule
  ne_TableRule : SH.NoEq K A.TableRule
  ne_AskedRule : SH.NoEq K A.AskedRule
  ne_VoteRule : SH.NoEq K A.VoteRule
theorem r_J {t : TS} {D : Ends} {σ : L2.St} {H : Hp} (P : L2.St → Hp → Prop) (hk : ∀ σ' H', P σ' H' → D.nx σ' H') (h : ∀ N : L2.St → Hp → Prop, (∀ σ' H', P σ' H' → N σ' H') → t { D with nx := N } σ H) : t D σ H := h D.nx hk
def sp__law_cell_at (K : PySem.W.Frag) (A : Ad) : Sp := fun vs H Q _ => ∃ (a : Addr) (ns : List Int) (k : Nat), vs = [.ref a, .int k] ∧ SqL K H a (ns.map V.int) ∧ ∀ c : Int, Q (.int c) H
theorem ok__law_cell_at {P : Program} {w : World} {K : PySem.W.Frag} {mg : Str → Option Value} {base : Heap} {A : Ad} {f : Addr} {fd : FuncData} (F : Fun K "_law_cell_at" "_law_cell_at" s__law_cell_at f fd) (T : Txt K mg A)  : FnOk P w K mg base CX0 1 f fd ["_law_script", "_law_k"] (sp__law_cell_at K A) := by
  refine F.ok sc__law_cell_at (fun vs H Q E h => by obtain ⟨_, _, _, rfl, _⟩ := h; rfl) (fun cdv A' outer s H vs Q E hr h => ?_)
  obtain ⟨a, ns, i, rfl, hS, k⟩ := h
  refine ⟨_, (pss_cons (ps_if (pt_cmpR (SH.oLt hr.units0) (pv 1) (pe_callB SH.cLen (by rfl) T.z_len (by decide +kernel) (pa_cons (pv 0) pa_nil)) (nomark _)) (pss_one (ps_ret (pe_ix SH.ixA (pv 0) (pv 1) (fun _ _ => rfl)))) pss_nil)
        (pss_one (ps_ret pe_int))), ?_⟩
  walk_at "begin"
  walk_at "rd"
  refine r_w (fun hc => ?_) fun hc => ?_
  · walk_at "rd"
    refine v_ixE (n := i) (by walk_at "sq") rfl (by omega) ?_
    walk_at "rd"
    exact k _
  · walk_at "rd"
    exact k _
def sp_good (K : PySem.W.Frag) (A : Ad) : Sp := fun vs H Q _ => ∃ (i : Int), vs = [.int i] ∧ (0 ≤ i ∧ i < 8) ∧ Q (.int i) H
theorem ok_good {P : Program} {w : World} {K : PySem.W.Frag} {mg : Str → Option Value} {base : Heap} {A : Ad} {f : Addr} {fd : FuncData} (F : Fun K "good" "good" s_good f fd) (T : Txt K mg A)  : FnOk P w K mg base CX0 1 f fd ["at"] (sp_good K A) := by
  refine F.ok sc_good (fun vs H Q E h => by obtain ⟨_, rfl, _⟩ := h; rfl) (fun cdv A' outer s H vs Q E hr h => ?_)
  obtain ⟨i, rfl, ⟨h0, h1⟩, k⟩ := h
  refine ⟨_, (pss_cons (ps_if (PW.pt (pw_or (pt_cmpR (SH.oLt hr.units0) (pv 0) pe_int (nomark _)) (pw_or1 (pt_cmpR SH.oGt (pv 0) (SH.pe_k T.k_LAST) (nomark _))))) (pss_one ps_never) pss_nil)
        (pss_one (ps_ret (pv 0)))), ?_⟩
  walk_at "begin"
  walk_at "rd"
  refine r_wF (by omega) ?_
  walk_at "rd"
  refine r_wF (by omega) ?_
  walk_at "rd"
  exact k
/-! ### rules by keys -/
def wayS (b : Bool) : Str := if b then "up" else "down"
theorem wayS_up {b : Bool} : decide (wayS b = "up") = b := by cases b <;> decide +kernel
theorem wayS_down {b : Bool} : decide (wayS b = "down") = !b := by cases b <;> decide +kernel
/-- the columns in a heap -/
def Cols (K : PySem.W.Frag) (H : Hp) (cvs : List V) (cols : List (Nat × Bool)) : Prop := cvs.length = cols.length ∧ ∀ (j : Nat) (v : V), cvs[j]? = some v → ∃ (t : Addr) (c : Nat × Bool), v = .ref t ∧ cols[j]? = some c ∧ H t = some (.tup [.int c.1, .str (wayS c.2)])
theorem Cols.stp {K : PySem.W.Frag} {M : List Addr} {H H' : Hp} {cvs : List V} {cols : List (Nat × Bool)} (h : Cols K H cvs cols) (S : Stp M H H') : Cols K H' cvs cols :=
  ⟨h.1, fun j v e => by obtain ⟨t, c, h1, h2, h3⟩ := h.2 j v e; exact ⟨t, c, h1, h2, S.tup h3⟩⟩
def keyB : List (Nat × Bool) → List Int → List Int → Bool
  | [], _, _ => false
  | c :: cs, xs, ys => if getE xs c.1 ≠ getE ys c.1 then decide (getE xs c.1 < getE ys c.1) == c.2 else keyB cs xs ys
def sp_KeyRule___init__ (K : PySem.W.Frag) (A : Ad) : Sp := fun vs H Q _ => ∃ (s b : Addr) (cvs : List V) (cols : List (Nat × Bool)), vs = [.ref s, .ref b] ∧ (∃ dx, H s = some (.ins A.KeyRule dx [])) ∧ (SqL K H b cvs ∧ Cols K H cvs cols ∧ cols.length ≤ 1000 ∧ ∀ c ∈ cols, c.1 < 8) ∧
  ∀ dx l H', H l = none → s ≠ l → H' s = some (.ins A.KeyRule dx [("columns", .ref l)]) → H' l = some (.lst cvs) → Stp [s] H H' → Q .non H'
theorem ok_KeyRule___init__ {P : Program} {w : World} {K : PySem.W.Frag} {mg : Str → Option Value} {base : Heap} {A : Ad} {f : Addr} {fd : FuncData} (F : Fun K "__init__" "KeyRule.__init__" s_KeyRule___init__ f fd) (T : Txt K mg A) (C_good : SH.Cal P w K mg base CX0 1 "good" [] (sp_good K A)) : FnOk P w K mg base CX0 2 f fd ["self", "columns"] (sp_KeyRule___init__ K A) := by
  refine F.ok sc_KeyRule___init__ (fun vs H Q E h => by obtain ⟨_, _, _, _, rfl, _⟩ := h; rfl) (fun cdv A' outer s H vs Q E hr h => ?_)
  obtain ⟨s', b, cvs, cols, rfl, ⟨dx, hs⟩, ⟨hb, hC, hl, h8⟩, k⟩ := h
  refine ⟨_, (pss_cons (ps_for PassesOwn.never rfl (pi_list (pv 1)) (pg_tup (by rfl) (pgs_cons (pg_name (i := 2) sc_KeyRule___init__.nd rfl (Or.inl rfl)) (pgs_cons (pg_name (i := 3) sc_KeyRule___init__.nd rfl (Or.inl rfl)) pgs_nil))) (pss_cons (ps_expr (SH.pe_callF C_good hr (by rfl) pass0 (pa_cons (pv 2) pa_nil)))
        (pss_one (ps_if (PW.pt (pw_and (pt_cmpR (SH.oNe hr.units) (pv 3) pe_str (nomark _)) (pw_and1 (pt_cmpR (SH.oNe hr.units) (pv 3) pe_str (nomark _))))) (pss_one ps_never) pss_nil))))
        (pss_one (SH.ps_fldF T.cl_KeyRule T.na_KeyRule_columns (pv 0) (pe_callTy SH.cListOf (by rfl) T.z_list (by decide +kernel) (pa_cons (pv 1) pa_nil)) rfl))), ?_⟩
  walk_at "begin"
  walk_at "rd"
  refine for_it (walk_list (xs := cvs)) (fun j σ H' => H' = H ∧ ∃ v2 v3, σ = [some (.ref s'), some (.ref b), v2, v3]) ⟨rfl, _, _, rfl⟩ (fun _ _ _ _ z => by rw [z.1]; exact hb) ?_ ?_
  · rintro j x σ H1 H2 hj ⟨rfl, v2, v3, rfl⟩ ⟨rfl, hx⟩
    obtain ⟨t, c, rfl, hc, ht⟩ := hC.2 j x hx
    have := h8 c (List.mem_of_getElem? hc)
    walk_at "rd"
    refine ⟨_, rfl, ⟨by omega, by omega⟩, ?_⟩
    walk_at "rd"
    refine v_neS ?_
    rw [wayS_up]
    walk_at "rd"
    refine r_nb (fun hc => ?_) fun hc => ?_
    · walk_at "rd"
      refine v_neS ?_
      rw [wayS_down, hc]
      walk_at "rd"
      exact ⟨rfl, _, _, rfl⟩
    · walk_at "rd"
      exact ⟨rfl, _, _, rfl⟩
  · rintro σ H1 ⟨rfl, v2, v3, rfl⟩
    walk_at "rd"
    intro l hl2
    walk_at "rd"
    exact k _ l _ hl2 (ne_of_none hs hl2) upd_same (upd_far (ne_of_none hs hl2).symm upd_same) (((Stp.refl [s'] H1).new hl2).putM (List.mem_singleton.mpr rfl) (upd_old hs hl2) (fun z => z))

def sp_KeyRule_before (K : PySem.W.Frag) (A : Ad) : Sp := fun vs H Q _ => ∃ (u x y d l : Addr) (cvs : List V) (cols : List (Nat × Bool)) (xs ys : List Int), vs = [.ref u, .ref x, .ref y] ∧ H u = some (.ins A.KeyRule d [("columns", .ref l)]) ∧ (SqL K H l cvs ∧ Cols K H cvs cols ∧ SqT K H x (xs.map V.int) ∧ SqT K H y (ys.map V.int) ∧ ∀ c ∈ cols, c.1 < xs.length ∧ c.1 < ys.length) ∧
  Q (.bl (keyB cols xs ys)) H
theorem ok_KeyRule_before {P : Program} {w : World} {K : PySem.W.Frag} {mg : Str → Option Value} {base : Heap} {A : Ad} {f : Addr} {fd : FuncData} (F : Fun K "before" "KeyRule.before" s_KeyRule_before f fd) (T : Txt K mg A)  : FnOk P w K mg base CX0 1 f fd ["self", "x", "y"] (sp_KeyRule_before K A) := by
  refine F.ok sc_KeyRule_before (fun vs H Q E h => by obtain ⟨_, _, _, _, _, _, _, _, _, rfl, _⟩ := h; rfl) (fun cdv A' outer s H vs Q E hr h => ?_)
  obtain ⟨u, x, y, d, l, cvs, cols, xs, ys, rfl, hu, ⟨hl, hC, hx, hy, hlt⟩, k⟩ := h
  refine ⟨_, (pss_cons (ps_for PassesOwn.never rfl (pi_list (SH.pe_fldF T.cl_KeyRule T.na_KeyRule_columns (pv 0))) (pg_tup (by rfl) (pgs_cons (pg_name (i := 3) sc_KeyRule_before.nd rfl (Or.inl rfl)) (pgs_cons (pg_name (i := 4) sc_KeyRule_before.nd rfl (Or.inl rfl)) pgs_nil))) (pss_one (ps_if (pt_cmpR (SH.oNe hr.units) (pe_ix SH.ixA (pv 1) (pv 3) (fun _ _ => rfl)) (pe_ix SH.ixA (pv 2) (pv 3) (fun _ _ => rfl)) (nomark _)) (pss_one (ps_ret (pe_cmpR (SH.oEq hr.units) (pe_cmpR (SH.oLt hr.units0) (pe_ix SH.ixA (pv 1) (pv 3) (fun _ _ => rfl)) (pe_ix SH.ixA (pv 2) (pv 3) (fun _ _ => rfl)) (nomark _)) (pe_cmpR (SH.oEq hr.units) (pv 4) pe_str (nomark _)) (nomark _)))) pss_nil)))
        (pss_one (ps_ret pe_bl))), ?_⟩
  walk_at "begin"
  walk_at "rd"
  refine for_it (walk_list (xs := cvs)) (fun j σ H' => H' = H ∧ keyB cols xs ys = keyB (cols.drop j) xs ys ∧ ∃ v3 v4, σ = [some (.ref u), some (.ref x), some (.ref y), v3, v4]) ⟨rfl, rfl, _, _, rfl⟩ (fun _ _ _ _ z => by rw [z.1]; exact hl) ?_ ?_
  · rintro j v σ H1 H2 hj ⟨rfl, hk, v3, v4, rfl⟩ ⟨rfl, hv⟩
    obtain ⟨t, c, rfl, hc, ht⟩ := hC.2 j v hv
    obtain ⟨l1, l2⟩ := hlt c (List.mem_of_getElem? hc)
    obtain ⟨hj', hc'⟩ := List.getElem?_eq_some_iff.mp hc
    rw [List.drop_eq_getElem_cons hj', hc'] at hk
    simp only [keyB] at hk
    walk_at "rd"
    refine v_ixTE (n := c.1) (by walk_at "sq") rfl l1 ?_
    walk_at "rd"
    refine v_ixTE (n := c.1) (by walk_at "sq") rfl l2 ?_
    walk_at "rd"
    refine r_nw (fun hne => ?_) fun he => ?_
    · rw [if_pos hne] at hk
      walk_at "rd"
      refine v_ixTE (n := c.1) (by walk_at "sq") rfl l1 ?_
      walk_at "rd"
      refine v_ixTE (n := c.1) (by walk_at "sq") rfl l2 ?_
      walk_at "rd"
      refine v_eqS ?_
      rw [wayS_up]
      walk_at "rd"
      rw [hk] at k
      rw [show decide (decide (getE xs c.1 < getE ys c.1) = c.2) = (decide (getE xs c.1 < getE ys c.1) == c.2) from by generalize decide (getE xs c.1 < getE ys c.1) = u; cases u <;> cases c.2 <;> rfl]
      exact k
    · rw [if_neg (by simpa using he)] at hk
      walk_at "rd"
      exact ⟨rfl, hk, _, _, rfl⟩
  · rintro σ H1 ⟨rfl, hk, v3, v4, rfl⟩
    walk_at "rd"
    rw [List.drop_of_length_le (by have := hC.1; omega)] at hk
    rw [hk] at k
    exact k
def sp_NearRule___init__ (K : PySem.W.Frag) (A : Ad) : Sp := fun vs H Q _ => ∃ (s : Addr) (i g : Int), vs = [.ref s, .int i, .int g] ∧ (∃ dx, H s = some (.ins A.NearRule dx [])) ∧ (0 ≤ i ∧ i < 8 ∧ 0 ≤ g) ∧
  ∀ dx, Q .non (upd H s (.ins A.NearRule dx [("at", .int i), ("gap", .int g)]))
theorem ok_NearRule___init__ {P : Program} {w : World} {K : PySem.W.Frag} {mg : Str → Option Value} {base : Heap} {A : Ad} {f : Addr} {fd : FuncData} (F : Fun K "__init__" "NearRule.__init__" s_NearRule___init__ f fd) (T : Txt K mg A) (C_good : SH.Cal P w K mg base CX0 1 "good" [] (sp_good K A)) : FnOk P w K mg base CX0 2 f fd ["self", "at", "gap"] (sp_NearRule___init__ K A) := by
  refine F.ok sc_NearRule___init__ (fun vs H Q E h => by obtain ⟨_, _, _, rfl, _⟩ := h; rfl) (fun cdv A' outer s H vs Q E hr h => ?_)
  obtain ⟨s', i, g, rfl, ⟨dx, hs⟩, ⟨h0, h1, h2⟩, k⟩ := h
  refine ⟨_, (pss_cons (ps_if (pt_cmpR (SH.oLt hr.units0) (pv 2) pe_int (nomark _)) (pss_one ps_never) pss_nil)
        (pss_cons (SH.ps_fldF T.cl_NearRule T.na_NearRule_at (pv 0) (SH.pe_callF C_good hr (by rfl) pass0 (pa_cons (pv 1) pa_nil)) rfl)
        (pss_one (SH.ps_fldF T.cl_NearRule T.na_NearRule_gap (pv 0) (pv 2) rfl)))), ?_⟩
  walk_at "begin"
  walk_at "rd"
  refine r_wF (by omega) ?_
  walk_at "rd"
  refine ⟨i, rfl, ⟨h0, h1⟩, ?_⟩
  walk_at "rd"
  rw [upd_upd]
  exact k dx

def sp_NearRule_before (K : PySem.W.Frag) (A : Ad) : Sp := fun vs H Q _ => ∃ (s x y dx : Addr) (g : Int) (i : Nat) (xs ys : List Int), vs = [.ref s, .ref x, .ref y] ∧ H s = some (.ins A.NearRule dx [("at", .int i), ("gap", .int g)]) ∧ SqT K H x (xs.map V.int) ∧ SqT K H y (ys.map V.int) ∧ (i < xs.length ∧ i < ys.length) ∧
  Q (.bl (decide (g < getE ys i - getE xs i))) H
theorem ok_NearRule_before {P : Program} {w : World} {K : PySem.W.Frag} {mg : Str → Option Value} {base : Heap} {A : Ad} {f : Addr} {fd : FuncData} (F : Fun K "before" "NearRule.before" s_NearRule_before f fd) (T : Txt K mg A)  : FnOk P w K mg base CX0 1 f fd ["self", "x", "y"] (sp_NearRule_before K A) := by
  refine F.ok sc_NearRule_before (fun vs H Q E h => by obtain ⟨_, _, _, _, _, _, _, _, rfl, _⟩ := h; rfl) (fun cdv A' outer s H vs Q E hr h => ?_)
  obtain ⟨s', x, y, dx, g, i, xs, ys, rfl, hs, hx, hy, ⟨h0, h1⟩, k⟩ := h
  refine ⟨_, (pss_one (ps_ret (pe_cmpR SH.oGt (pe_op SH.oSub (pe_ix SH.ixA (pv 2) (SH.pe_fldF T.cl_NearRule T.na_NearRule_at (pv 0)) (fun _ _ => rfl)) (pe_ix SH.ixA (pv 1) (SH.pe_fldF T.cl_NearRule T.na_NearRule_at (pv 0)) (fun _ _ => rfl))) (SH.pe_fldF T.cl_NearRule T.na_NearRule_gap (pv 0)) (nomark _)))), ?_⟩
  walk_at "begin"
  walk_at "rd"
  refine v_ixTE (n := i) (by walk_at "sq") rfl h1 ?_
  walk_at "rd"
  refine v_ixTE (n := i) (by walk_at "sq") rfl h0 ?_
  walk_at "rd"
  exact k
def sp_RingRule___init__ (K : PySem.W.Frag) (A : Ad) : Sp := fun vs H Q _ => ∃ (s : Addr) (i g : Int), vs = [.ref s, .int i, .int g] ∧ (∃ dx, H s = some (.ins A.RingRule dx [])) ∧ (0 ≤ i ∧ i < 8 ∧ 1 ≤ g) ∧
  ∀ dx, Q .non (upd H s (.ins A.RingRule dx [("at", .int i), ("size", .int g)]))
theorem ok_RingRule___init__ {P : Program} {w : World} {K : PySem.W.Frag} {mg : Str → Option Value} {base : Heap} {A : Ad} {f : Addr} {fd : FuncData} (F : Fun K "__init__" "RingRule.__init__" s_RingRule___init__ f fd) (T : Txt K mg A) (C_good : SH.Cal P w K mg base CX0 1 "good" [] (sp_good K A)) : FnOk P w K mg base CX0 2 f fd ["self", "at", "size"] (sp_RingRule___init__ K A) := by
  refine F.ok sc_RingRule___init__ (fun vs H Q E h => by obtain ⟨_, _, _, rfl, _⟩ := h; rfl) (fun cdv A' outer s H vs Q E hr h => ?_)
  obtain ⟨s', i, g, rfl, ⟨dx, hs⟩, ⟨h0, h1, h2⟩, k⟩ := h
  refine ⟨_, (pss_cons (ps_if (pt_cmpR (SH.oLt hr.units0) (pv 2) pe_int (nomark _)) (pss_one ps_never) pss_nil)
        (pss_cons (SH.ps_fldF T.cl_RingRule T.na_RingRule_at (pv 0) (SH.pe_callF C_good hr (by rfl) pass0 (pa_cons (pv 1) pa_nil)) rfl)
        (pss_one (SH.ps_fldF T.cl_RingRule T.na_RingRule_size (pv 0) (pv 2) rfl)))), ?_⟩
  walk_at "begin"
  walk_at "rd"
  refine r_wF (by omega) ?_
  walk_at "rd"
  refine ⟨i, rfl, ⟨h0, h1⟩, ?_⟩
  walk_at "rd"
  rw [upd_upd]
  exact k dx

def ringB (x y g : Int) : Bool := decide (0 < (y - x) % g ∧ 2 * ((y - x) % g) < g)
def sp_RingRule_before (K : PySem.W.Frag) (A : Ad) : Sp := fun vs H Q _ => ∃ (s x y dx : Addr) (g : Int) (i : Nat) (xs ys : List Int), vs = [.ref s, .ref x, .ref y] ∧ H s = some (.ins A.RingRule dx [("at", .int i), ("size", .int g)]) ∧ SqT K H x (xs.map V.int) ∧ SqT K H y (ys.map V.int) ∧ (i < xs.length ∧ i < ys.length ∧ 1 ≤ g) ∧
  Q (.bl (ringB (getE xs i) (getE ys i) g)) H
theorem ok_RingRule_before {P : Program} {w : World} {K : PySem.W.Frag} {mg : Str → Option Value} {base : Heap} {A : Ad} {f : Addr} {fd : FuncData} (F : Fun K "before" "RingRule.before" s_RingRule_before f fd) (T : Txt K mg A)  : FnOk P w K mg base CX0 1 f fd ["self", "x", "y"] (sp_RingRule_before K A) := by
  refine F.ok sc_RingRule_before (fun vs H Q E h => by obtain ⟨_, _, _, _, _, _, _, _, rfl, _⟩ := h; rfl) (fun cdv A' outer s H vs Q E hr h => ?_)
  obtain ⟨s', x, y, dx, g, i, xs, ys, rfl, hs, hx, hy, ⟨h0, h1, h2⟩, k⟩ := h
  refine ⟨_, (pss_cons (ps_set (i := 3) sc_RingRule_before.nd rfl (Or.inl rfl) (pe_op SH.oMod (pe_op SH.oSub (pe_ix SH.ixA (pv 2) (SH.pe_fldF T.cl_RingRule T.na_RingRule_at (pv 0)) (fun _ _ => rfl)) (pe_ix SH.ixA (pv 1) (SH.pe_fldF T.cl_RingRule T.na_RingRule_at (pv 0)) (fun _ _ => rfl))) (SH.pe_fldF T.cl_RingRule T.na_RingRule_size (pv 0))))
        (pss_one (ps_ret (pe_and (pe_cmpR SH.oGt (pv 3) pe_int (nomark _)) (pe_one (pe_cmpR (SH.oLt hr.units0) (pe_op SH.oMul pe_int (pv 3)) (SH.pe_fldF T.cl_RingRule T.na_RingRule_size (pv 0)) (nomark _))))))), ?_⟩
  walk_at "begin"
  walk_at "rd"
  refine v_ixTE (n := i) (by walk_at "sq") rfl h1 ?_
  walk_at "rd"
  refine v_ixTE (n := i) (by walk_at "sq") rfl h0 ?_
  walk_at "rd"
  unfold ringB at k
  refine r_w (fun hc => ?_) fun hc => ?_
  · walk_at "rd"
    rw [show decide (2 * ((getE ys i - getE xs i) % g) < g) = decide (0 < (getE ys i - getE xs i) % g ∧ 2 * ((getE ys i - getE xs i) % g) < g) by simp [hc]]
    exact k
  · rw [decide_eq_false (by omega)] at k
    exact k
/-! ### what a rule puts before what: the matrix -/
def gB (n : Nat) (f : Nat → Bool) : List V := (List.range n).map fun j => V.bl (f j)
theorem gB_at {n j : Nat} {f : Nat → Bool} (h : j < n) : (gB n f)[j]? = some (.bl (f j)) := by unfold gB; rw [List.getElem?_map, List.getElem?_range h]; rfl
structure GMat (H : Hp) (gvs : List V) (m n : Nat) (G : Nat → Nat → Bool) : Prop where
  len : gvs.length = m
  at_ : ∀ (i : Nat) (v : V), gvs[i]? = some v → ∃ g : Addr, v = .ref g ∧ H g = some (.lst (gB n (G i)))
theorem GMat.stp {M : List Addr} {H H' : Hp} {gvs : List V} {m n : Nat} {G : Nat → Nat → Bool} (h : GMat H gvs m n G) (S : Stp M H H') (k : ∀ g o, g ∈ M → H g = some o → V.ref g ∈ gvs → False) : GMat H' gvs m n G :=
  ⟨h.len, fun i v e => by obtain ⟨g, rfl, hg⟩ := h.at_ i v e; exact ⟨g, rfl, S.keep hg fun z => k g _ z hg (List.mem_of_getElem? e)⟩⟩
theorem GMat.stp0 {H H' : Hp} {gvs : List V} {m n : Nat} {G : Nat → Nat → Bool} (h : GMat H gvs m n G) (S : Stp [] H H') : GMat H' gvs m n G := h.stp S fun _ _ z _ _ => by cases z
theorem GMat.get {H : Hp} {gvs : List V} {m n i : Nat} {G : Nat → Nat → Bool} (h : GMat H gvs m n G) (hi : i < m) : ∃ g : Addr, gvs[i]? = some (.ref g) ∧ H g = some (.lst (gB n (G i))) := by
  have hi' : i < gvs.length := by rw [h.len]; exact hi
  obtain ⟨g, e, hg⟩ := h.at_ i _ (List.getElem?_eq_getElem hi')
  exact ⟨g, by rw [List.getElem?_eq_getElem hi', e], hg⟩
/-! ### a table of truths -/
theorem getE_nn {xs : List Int} {i n : Nat} (h0 : 0 ≤ getE xs i) (h1 : getE xs i < n) : (getE xs i).toNat < n ∧ getE xs i = ((getE xs i).toNat : Int) := ⟨by omega, by omega⟩
def sp_TableRule___init__ (K : PySem.W.Frag) (A : Ad) : Sp := fun vs H Q _ => ∃ (s q : Addr) (i : Int) (gvs : List V) (n : Nat) (G : Nat → Nat → Bool), vs = [.ref s, .int i, .ref q] ∧ (∃ dx, H s = some (.ins A.TableRule dx [])) ∧ (0 ≤ i ∧ i < 8 ∧ H q = some (.lst gvs) ∧ GMat H gvs n n G ∧ n ≤ 1000) ∧
  ∀ dx l hvs H', H l = none → s ≠ l → H' s = some (.ins A.TableRule dx [("at", .int i), ("table", .ref l)]) → H' l = some (.lst hvs) → GMat H' hvs n n G → Stp [s] H H' → (∀ g, V.ref g ∈ hvs → H g = none) → Q .non H'
theorem ok_TableRule___init__ {P : Program} {w : World} {K : PySem.W.Frag} {mg : Str → Option Value} {base : Heap} {A : Ad} {f : Addr} {fd : FuncData} (F : Fun K "__init__" "TableRule.__init__" s_TableRule___init__ f fd) (T : Txt K mg A) (C_good : SH.Cal P w K mg base CX0 1 "good" [] (sp_good K A)) : FnOk P w K mg base CX0 2 f fd ["self", "at", "table"] (sp_TableRule___init__ K A) := by
  refine F.ok sc_TableRule___init__ (fun vs H Q E h => by obtain ⟨_, _, _, _, _, _, rfl, _⟩ := h; rfl) (fun cdv A' outer s H vs Q E hr h => ?_)
  obtain ⟨s', q, i, gvs, n, G, rfl, ⟨dx, hs⟩, ⟨h0, h1, hq, hG, hn⟩, k⟩ := h
  refine ⟨_, (pss_cons (ps_for PassesOwn.never rfl (pi_list (pv 2)) (pg_name (i := 3) sc_TableRule___init__.nd rfl (Or.inl rfl)) (pss_one (ps_if (pt_cmpR (SH.oNe hr.units) (pe_callB SH.cLen (by rfl) T.z_len (by decide +kernel) (pa_cons (pv 3) pa_nil)) (pe_callB SH.cLen (by rfl) T.z_len (by decide +kernel) (pa_cons (pv 2) pa_nil)) (nomark _)) (pss_one ps_never) pss_nil)))
        (pss_cons (SH.ps_fldF T.cl_TableRule T.na_TableRule_at (pv 0) (SH.pe_callF C_good hr (by rfl) pass0 (pa_cons (pv 1) pa_nil)) rfl)
        (pss_one (SH.ps_fldF T.cl_TableRule T.na_TableRule_table (pv 0) (pe_lc (own := [("truths", 3)]) (g := (gName 3)) (tt := tYes) (by rfl) sc_TableRule___init__.nd (pi_list (pv 2)) (blkOk_by (own := [("truths", 3)]) (N := ["self", "at", "table", "truths"]) (sc := defScope s_TableRule___init__) (by decide +kernel)) (fun _ _ _ _ _ => (pg_name (i := 3) sc_TableRule___init__.nd rfl (Or.inl rfl))) (fun _ _ _ _ _ => pts_nil) (fun _ _ _ _ _ => (pe_callTy (SH.crK SH.rListOf K SH.cListOf) (by rfl) T.z_list (by decide +kernel) (pa_cons (pv 3) pa_nil)))) rfl)))), ?_⟩
  walk_at "begin"
  have hgl := hG.len
  walk_at "rd"
  refine for_it (walk_list (xs := gvs)) (fun j σ H' => H' = H ∧ ∃ v3, σ = [some (.ref s'), some (.int i), some (.ref q), v3]) ⟨rfl, _, rfl⟩ (fun _ _ _ _ z => by rw [z.1]; exact SqL.of hq) ?_ ?_
  · rintro j v σ H1 H2 hj ⟨rfl, v3, rfl⟩ ⟨rfl, hv⟩
    obtain ⟨g, rfl, hg⟩ := hG.at_ j v hv
    walk_at "rd"
    refine r_nwF (by rw [hgl]; simp [gB]) ?_
    walk_at "rd"
    exact ⟨rfl, _, rfl⟩
  rintro σ H1 ⟨rfl, v3, rfl⟩
  walk_at "rd"
  refine ⟨i, rfl, ⟨h0, h1⟩, ?_⟩
  walk_at "rd"
  have S1 : Stp [s'] H1 (upd H1 s' (.ins A.TableRule dx [("at", .int i)])) := (Stp.refl _ _).putI (by simp) hs
  have nsq : q ≠ s' := fun z => by subst z; rw [hs] at hq; cases hq
  have hs1 := upd_same (H := H1) (a := s') (o := .ins A.TableRule dx [("at", .int i)])
  have hq1 := S1.keep1 hq nsq
  have hG1 : GMat (upd H1 s' (.ins A.TableRule dx [("at", .int i)])) gvs n n G := hG.stp S1 (fun g o hm e hx => by
    rw [List.mem_singleton] at hm
    subst hm
    obtain ⟨j, hj⟩ := List.getElem?_of_mem hx
    obtain ⟨g', e1, e2⟩ := hG.at_ j _ hj
    cases e1
    rw [hs] at e2
    cases e2)
  generalize upd H1 s' (.ins A.TableRule dx [("at", .int i)]) = H2 at S1 hs1 hq1 hG1 ⊢
  walk_at "rd"
  intro D hD
  have S2 := (Stp.refl [] H2).new (o := .lst []) hD
  have hG2 := hG1.stp0 S2
  have hq2 := S2.keep0 hq1
  have hs2 := S2.keep0 hs1
  have hD2 := upd_same (H := H2) (a := D) (o := .lst [])
  have hsn : ∀ a, H2 a = none → H1 a = none := fun a h => S1.dom a h
  refine lc_it (walk_list (xs := gvs)) (fun j H' => Stp [D] (upd H2 D (.lst [])) H' ∧ ∃ hvs, H' D = some (.lst hvs) ∧ GMat H' hvs j n G ∧ ∀ g, V.ref g ∈ hvs → H2 g = none ∧ g ≠ D) ⟨.refl _ _, [], hD2, ⟨rfl, fun i v e => by cases e⟩, by simp⟩ (fun j H' _ z => SqL.of (z.1.keep1 hq2 (ne_of_none hq1 hD))) ?_ ?_
  · rintro j v H4 H5 hj ⟨S, hvs, hL, hG5, hfr⟩ ⟨rfl, hv⟩
    obtain ⟨g, rfl, hg⟩ := hG2.at_ j v hv
    have ngD : g ≠ D := fun z => by
      subst z
      obtain ⟨g', e1, e2⟩ := hG1.at_ j _ hv
      cases e1
      rw [hD] at e2; cases e2
    have hg5 := S.keep1 hg ngD
    walk_at "rd"
    intro p hp
    have npD : p ≠ D := (ne_of_none hL hp).symm
    have hvl := hG5.len
    have S5 : Stp [D] H5 (upd (upd H5 p (.lst (gB n (G j)))) D (.lst (hvs ++ [.ref p]))) := ((Stp.refl [D] H5).new hp).putL (by simp) (upd_old hL hp)
    refine ⟨hvs, upd_old hL hp, Nat.lt_of_le_of_lt (m := 1000) (by omega) (by decide), S.trans S5, hvs ++ [.ref p], upd_same, ⟨by simp [hvl], fun i' v' e => ?_⟩, ?_⟩
    · by_cases hi' : i' < hvs.length
      · rw [List.getElem?_append_left hi'] at e
        obtain ⟨g', rfl, hg'⟩ := hG5.at_ i' v' e
        exact ⟨g', rfl, S5.keep1 hg' (hfr g' (List.mem_of_getElem? e)).2⟩
      · rw [List.getElem?_append_right (by omega)] at e
        have : i' - hvs.length = 0 := by
          cases h : i' - hvs.length with
          | zero => rfl
          | succ m => rw [h] at e; cases e
        rw [this] at e
        cases e
        refine ⟨p, rfl, ?_⟩
        rw [show i' = j by omega]
        exact upd_far npD upd_same
    · intro g' hg'
      rw [List.mem_append] at hg'
      rcases hg' with z | z
      · exact hfr g' z
      · rw [List.mem_singleton] at z
        cases z
        refine ⟨?_, npD⟩
        exact (upd_free (S.dom p hp)).1
  rintro H4 ⟨S, hvs, hL, hG4, hfr⟩
  rw [hgl] at hG4
  have nsD : s' ≠ D := ne_of_none hs1 hD
  have hs4 := S.keep1 hs2 nsD
  walk_at "rd"
  have S24 : Stp [] H2 H4 := S2.then S (by simp; exact hD)
  have S14 : Stp [s'] H1 H4 := S1.then0 S24
  have S5 : Stp [s'] H4 (upd H4 s' (.ins A.TableRule dx [("at", .int i), ("table", .ref D)])) := (Stp.refl _ _).putI (by simp) hs4
  refine k dx D hvs _ (hsn _ hD) nsD upd_same (upd_far nsD.symm hL) (hG4.stp S5 fun g o hm e hx => ?_) (S14.trans S5) fun g hx => hsn g (hfr g hx).1
  rw [List.mem_singleton] at hm
  subst hm
  have := (hfr _ hx).1
  rw [hs1] at this
  cases this

def sp_TableRule_before (K : PySem.W.Frag) (A : Ad) : Sp := fun vs H Q _ => ∃ (s x y dx l : Addr) (i n : Nat) (G : Nat → Nat → Bool) (gvs : List V) (xs ys : List Int), vs = [.ref s, .ref x, .ref y] ∧ H s = some (.ins A.TableRule dx [("at", .int i), ("table", .ref l)]) ∧ SqT K H x (xs.map V.int) ∧ SqT K H y (ys.map V.int) ∧ (SqL K H l gvs ∧ GMat H gvs n n G ∧ i < xs.length ∧ i < ys.length ∧ 0 ≤ getE xs i ∧ getE xs i < n ∧ 0 ≤ getE ys i ∧ getE ys i < n) ∧
  Q (.bl (G (getE xs i).toNat (getE ys i).toNat)) H
theorem ok_TableRule_before {P : Program} {w : World} {K : PySem.W.Frag} {mg : Str → Option Value} {base : Heap} {A : Ad} {f : Addr} {fd : FuncData} (F : Fun K "before" "TableRule.before" s_TableRule_before f fd) (T : Txt K mg A)  : FnOk P w K mg base CX0 1 f fd ["self", "x", "y"] (sp_TableRule_before K A) := by
  refine F.ok sc_TableRule_before (fun vs H Q E h => by obtain ⟨_, _, _, _, _, _, _, _, _, _, _, rfl, _⟩ := h; rfl) (fun cdv A' outer s H vs Q E hr h => ?_)
  obtain ⟨s', x, y, dx, l, i, n, G, gvs, xs, ys, rfl, hs, hx, hy, ⟨hl, hG, h0, h1, h2, h3, h4, h5⟩, k⟩ := h
  refine ⟨_, (pss_one (ps_ret (pe_ix SH.ixA (pe_ix SH.ixA (SH.pe_fldF T.cl_TableRule T.na_TableRule_table (pv 0)) (pe_ix SH.ixA (pv 1) (SH.pe_fldF T.cl_TableRule T.na_TableRule_at (pv 0)) (fun _ _ => rfl)) (fun _ _ => rfl)) (pe_ix SH.ixA (pv 2) (SH.pe_fldF T.cl_TableRule T.na_TableRule_at (pv 0)) (fun _ _ => rfl)) (fun _ _ => rfl)))), ?_⟩
  walk_at "begin"
  obtain ⟨a1, a2⟩ := getE_nn h2 h3
  obtain ⟨b1, b2⟩ := getE_nn h4 h5
  obtain ⟨g, e1, hg⟩ := hG.get a1
  walk_at "rd"
  refine v_ixTE (n := i) (by walk_at "sq") rfl h0 ?_
  walk_at "rd"
  refine v_ixLn (n := (getE xs i).toNat) hl a2 e1 ?_
  walk_at "rd"
  refine v_ixTE (n := i) (by walk_at "sq") rfl h1 ?_
  walk_at "rd"
  refine v_ixLn (n := (getE ys i).toNat) (SqL.of hg) b2 (gB_at b1) ?_
  exact k
/-! ### odds and ends of growing heaps -/
theorem tabs_stp {T : List NTab} {H H' : Hp} (h : TabsN T H) (S : Stp [] H H') : TabsN T H' := fun p hp => (h p hp).ext fun b o e => S.keep0 e
theorem ext_lst {H H' : Hp} {b : Addr} {xs : List V} (e : ExtN H H') (h : H b = some (.lst xs)) : H' b = some (.lst xs) := e _ _ h (by intro ps z; cases z)
theorem ext_tup {H H' : Hp} {b : Addr} {xs : List V} (e : ExtN H H') (h : H b = some (.tup xs)) : H' b = some (.tup xs) := e _ _ h (by intro ps z; cases z)
theorem rd_extN {H H' : Hp} {a : Addr} {u : HO} (s : ExtN H H') (h : Rd H a u) (n : ∀ ps, u ≠ .tbl ps) : Rd H' a u := by
  rcases h with h | ⟨o, h⟩
  · exact .inl (s _ _ h n)
  · exact .inr ⟨o, s _ _ h (by intro ps z; cases z)⟩
theorem sql_extN {K : PySem.W.Frag} {H H' : Hp} {a : Addr} {xs : List V} (s : ExtN H H') (h : SqL K H a xs) : SqL K H' a xs := by
  rcases h with h | h
  · exact .inl (rd_extN s h (by intro ps z; cases z))
  · exact .inr h
theorem sqt_extN {K : PySem.W.Frag} {H H' : Hp} {a : Addr} {xs : List V} (s : ExtN H H') (h : SqT K H a xs) : SqT K H' a xs := by
  rcases h with h | h
  · exact .inl (rd_extN s h (by intro ps z; cases z))
  · exact .inr h
mutual
theorem dp_extN {K : PySem.W.Frag} {H H' : Hp} (S : ExtN H H') : ∀ (d : PyData) (v : V), Dp K H v d → Dp K H' v d
  | .none, _, h => by cases h; exact .non
  | .bool _, _, h => by cases h; exact .bl _
  | .int _, _, h => by cases h; exact .int _
  | .str _, _, h => by cases h; exact .str _
  | .list ds, _, h => by
    cases h with
    | lst hs ha => exact .lst (sql_extN S hs) (dp_extNs S ds _ ha)
  | .tuple ds, _, h => by
    cases h with
    | tup hs ha => exact .tup (sqt_extN S hs) (dp_extNs S ds _ ha)
  | .dict _, _, h => by cases h
theorem dp_extNs {K : PySem.W.Frag} {H H' : Hp} (S : ExtN H H') : ∀ (ds : List PyData) (vs : List V), DpAll K H vs ds → DpAll K H' vs ds
  | [], _, h => by cases h; exact .nil
  | d :: ds, _, h => by
    cases h with
    | cons h1 h2 => exact .cons (dp_extN S d _ h1) (dp_extNs S ds _ h2)
end
theorem isl_extN {K : PySem.W.Frag} {H H' : Hp} {α : Type} [Enc α] {vs : List V} {xs : List α} (S : ExtN H H') (h : IsL K H vs xs) : IsL K H' vs xs := dp_extNs S _ _ h
theorem sql_or {K : PySem.W.Frag} {H : Hp} {a : Addr} {xs : List V} (h : SqL K H a xs) : ∃ ax : List Addr, (∀ x ∈ ax, H x ≠ none) ∧ (a ∈ ax ∨ ∀ H', SqL K H' a xs) := by
  rcases h with (h | ⟨o, h⟩) | h
  · exact ⟨[a], fun x hx => by rw [List.mem_singleton] at hx; subst hx; rw [h]; simp, .inl (by simp)⟩
  · exact ⟨[a], fun x hx => by rw [List.mem_singleton] at hx; subst hx; rw [h]; simp, .inl (by simp)⟩
  · exact ⟨[], by simp, .inr fun H' => .inr h⟩
def sp__law_teller___law_ask (K : PySem.W.Frag) (A : Ad) : List V → Sp := fun ws vs H Q _ => ∃ (x y : Addr) (i : Nat) (m : Int) (xs ys : List Int), vs = [.ref x, .ref y] ∧ (ws = [.int i, .int m] ∧ H x = some (.tup (xs.map V.int)) ∧ H y = some (.tup (ys.map V.int)) ∧ i < xs.length ∧ i < ys.length ∧ 1 ≤ m) ∧
  ∀ H', Stp [] H H' → Q (.bl (decide ((getE xs i + 2 * getE ys i) % m = 1))) H'
abbrev Clo1 (H : Hp) (f : Addr) (ws : List V) (cl : List (Str × Addr)) (c' : Addr) : Prop := SH.Clo H f s__law_teller___law_ask "_law_ask" "_law_teller.<locals>._law_ask" ["_law_at", "_law_size"] ws cl c'
abbrev telAt : Addr → Hp → Prop := fun f H => ∃ ws cl c', SH.Clo H f s__law_teller___law_ask "_law_ask" "_law_teller.<locals>._law_ask" ["_law_at", "_law_size"] ws cl c'
abbrev telSp (K : PySem.W.Frag) (A : Ad) : Addr → Sp := fun f vs H Q E => ∃ ws cl c', SH.Clo H f s__law_teller___law_ask "_law_ask" "_law_teller.<locals>._law_ask" ["_law_at", "_law_size"] ws cl c' ∧ sp__law_teller___law_ask K A ws vs H Q E
theorem cok__law_teller___law_ask {P : Program} {w : World} {K : PySem.W.Frag} {mg : Str → Option Value} {base : Heap} {A : Ad} (T : Txt K mg A) : SH.COk P w K mg base CX0 1 s__law_teller___law_ask "_law_ask" "_law_teller.<locals>._law_ask" ["_law_x", "_law_y"] ["_law_at", "_law_size"] (sp__law_teller___law_ask K A) := by
  refine SH.cok_of sc__law_teller___law_ask (fun _ _ _ _ _ us hl => match us, hl with | [_, _], _ => rfl) (fun ws vs H Q E h => by obtain ⟨_, _, _, _, _, _, rfl, _⟩ := h; rfl) (fun A' outer s f cl c' H H0 vs ws Q Q0 E hr h hw lo fin => ?_)
  obtain ⟨x, y, i, m, xs, ys, rfl, ⟨rfl, hx, hy, lx, ly, hm⟩, k⟩ := h
  refine ⟨_, (pss_one (ps_ret (pe_cmpR (SH.oEq hr.units) (pe_op SH.oMod (pe_op SH.oAdd (pe_ix SH.ixA (pv 0) (pv 2) (fun _ _ => rfl)) (pe_op SH.oMul pe_int (pe_ix SH.ixA (pv 1) (pv 2) (fun _ _ => rfl)))) (pv 3)) pe_int (nomark _)))), ?_⟩
  show (_ : TS) _ [some (.ref x), some (.ref y), some (.int i), some (.int m)] H0
  dsimp only [NdefX.ncx]
  have hx0 := lo _ _ hx True.intro
  have hy0 := lo _ _ hy True.intro
  walk_at "rd"
  refine v_ixTE (n := i) (SqT.of hx0) rfl lx ?_
  walk_at "rd"
  refine v_ixTE (n := i) (SqT.of hy0) rfl ly ?_
  walk_at "rd"
  refine fin _ [] _ (Stp.refl [] H0) fun H' S hsub => ?_
  exact k H' S
abbrev Tb (A : Ad) : List NTab := [(A.P, fun _ _ => "_law_teller.<locals>._law_ask")]
def sp__law_teller (K : PySem.W.Frag) (A : Ad) : Sp := fun vs H Q _ => ∃ (p0 p1 : V), vs = [p0, p1] ∧ TabsN (Tb A) H ∧ ∀ (f' : Addr) (H' : Hp) (cl : List (Str × Addr)) (c' : Addr), ExtN H H' → (∀ b, H' b = none → H b = none) → TabsN (Tb A) H' → H f' = none → SH.Clo H' f' s__law_teller___law_ask "_law_ask" "_law_teller.<locals>._law_ask" ["_law_at", "_law_size"] [p0, p1] cl c' → Q (.ref f') H'
theorem ok__law_teller {P : Program} {w : World} {K : PySem.W.Frag} {mg : Str → Option Value} {base : Heap} {A : Ad} {f c : Addr} {dV kV doc pm ct oc : Value} {an od : Option Addr} {osl : Array (Option Value)} (lk : K.lookup f = some ⟨oc, od, .func (PySem.W.fnOf "_law_teller" "_law_teller" (defArgs s__law_teller) (defBody s__law_teller) (defScope s__law_teller) dV kV doc pm an (.ref c) ct), osl⟩) (hcd : PySem.W.codeIn K (.ref c) "_law_teller" = true) (TB : LamX.TabB base mg c A.P) :
    FnOk P w K mg base CX0 1 f (PySem.W.fnOf "_law_teller" "_law_teller" (defArgs s__law_teller) (defBody s__law_teller) (defScope s__law_teller) dV kV doc pm an (.ref c) ct) ["_law_at", "_law_size"] (sp__law_teller K A) := by
  refine SH.maker (T := Tb A) (fr := ["_law_at", "_law_size"]) (ps := ["_law_at", "_law_size"]) (i := 2) (st := s__law_teller___law_ask) (ix := [0, 1]) lk hcd sc__law_teller rfl rfl TB (List.mem_singleton.mpr rfl) rfl (fun p hp _ => by rw [List.mem_singleton] at hp; rw [hp]) (fun _ _ => rfl) (by decide +kernel) (by decide +kernel) (by decide +kernel) rfl rfl (fun _ => rfl) rfl rfl (by decide) (by decide) (by decide) rfl (fun vs H Q E h => by obtain ⟨_, _, rfl, _⟩ := h; rfl) (fun vs H Q E h => ?_)
  obtain ⟨p0, p1, rfl, h1, h2⟩ := h
  exact ⟨h1, h2⟩
def sp_AskedRule___init__ (K : PySem.W.Frag) (A : Ad) : Sp := fun vs H Q _ => ∃ (s : Addr) (f : V), vs = [.ref s, f] ∧ (∃ dx, H s = some (.ins A.AskedRule dx [])) ∧ ∀ dx, Q .non (upd H s (.ins A.AskedRule dx [("teller", f)]))
theorem ok_AskedRule___init__ {P : Program} {w : World} {K : PySem.W.Frag} {mg : Str → Option Value} {base : Heap} {A : Ad} {f : Addr} {fd : FuncData} (F : Fun K "__init__" "AskedRule.__init__" s_AskedRule___init__ f fd) (T : Txt K mg A)  : FnOk P w K mg base CX0 1 f fd ["self", "teller"] (sp_AskedRule___init__ K A) := by
  refine F.ok sc_AskedRule___init__ (fun vs H Q E h => by obtain ⟨_, _, rfl, _⟩ := h; rfl) (fun cdv A' outer s H vs Q E hr h => ?_)
  obtain ⟨s', f, rfl, ⟨dx, hs⟩, k⟩ := h
  refine ⟨_, (pss_one (SH.ps_fldF T.cl_AskedRule T.na_AskedRule_teller (pv 0) (pv 1) rfl)), ?_⟩
  walk_at "begin"
  walk_at "rd"
  exact k dx
def sp_AskedRule_before (K : PySem.W.Frag) (A : Ad) : Sp := fun vs H Q E => ∃ (u f x y d : Addr), vs = [.ref u, .ref x, .ref y] ∧ H u = some (.ins A.AskedRule d [("teller", .ref f)]) ∧ telAt f H ∧ telSp K A f [.ref x, .ref y] H Q (fun _ _ _ => False)
theorem ok_AskedRule_before {P : Program} {w : World} {K : PySem.W.Frag} {mg : Str → Option Value} {base : Heap} {A : Ad} {f : Addr} {fd : FuncData} (F : Fun K "before" "AskedRule.before" s_AskedRule_before f fd) (T : Txt K mg A) (TEL : SH.TelOk P w K mg base 1 telAt (telSp K A)) : FnOk P w K mg base CX0 2 f fd ["self", "x", "y"] (sp_AskedRule_before K A) := by
  refine F.ok sc_AskedRule_before (fun vs H Q E h => by obtain ⟨_, _, _, _, _, rfl, _⟩ := h; rfl) (fun cdv A' outer s H vs Q E hr h => ?_)
  obtain ⟨u, f', x, y, d, rfl, hu, hat, k⟩ := h
  refine ⟨_, (pss_cons (ps_set (i := 3) sc_AskedRule_before.nd rfl (Or.inl rfl) (SH.pe_fldF T.cl_AskedRule T.na_AskedRule_teller (pv 0)))
        (pss_one (ps_ret (SH.pe_callTel (i := 3) TEL hr rfl (Or.inl rfl) (pa_cons (pv 1) (pa_cons (pv 2) pa_nil)))))), ?_⟩
  walk_at "begin"
  walk_at "rd"
  refine SH.r_tel rfl hat ?_
  walk_at "rd"
  exact k

/-! ### the asker of a function that goes by keys and writes down -/
/-! ### rules of numbers: a column, near, ring, table, or a function asked; votes and chains of these -/
theorem stp_ext {H H' : Hp} (S : Stp [] H H') : ExtN H H' := ExtN.of fun b o e => S.keep0 e
theorem GMat.ext {H H' : Hp} {gvs : List V} {m n : Nat} {G : Nat → Nat → Bool} (h : GMat H gvs m n G) (e : ExtN H H') : GMat H' gvs m n G :=
  ⟨h.len, fun i v z => by obtain ⟨g, rfl, hg⟩ := h.at_ i v z; exact ⟨g, rfl, ext_lst e hg⟩⟩
theorem cols_ext {K : PySem.W.Frag} {H H' : Hp} {cvs : List V} {cols : List (Nat × Bool)} (h : Cols K H cvs cols) (e : ExtN H H') : Cols K H' cvs cols :=
  ⟨h.1, fun j v z => by obtain ⟨t, c, h1, h2, h3⟩ := h.2 j v z; exact ⟨t, c, h1, h2, ext_tup e h3⟩⟩
theorem ext_ins {H H' : Hp} {b C d : Addr} {fs : List (Str × V)} (e : ExtN H H') (h : H b = some (.ins C d fs)) : H' b = some (.ins C d fs) := e _ _ h (by intro ps z; cases z)
inductive R0 where
  | key (cols : List (Nat × Bool))
  | near (i : Nat) (g : Int)
  | ring (i : Nat) (m : Int)
  | table (i n : Nat) (T : Nat → Nat → Bool)
  | asked (i : Nat) (m : Int)
def R0.b : R0 → List Int → List Int → Bool
  | .key cols, xs, ys => keyB cols xs ys
  | .near i g, xs, ys => decide (g < getE ys i - getE xs i)
  | .ring i m, xs, ys => ringB (getE xs i) (getE ys i) m
  | .table i _ T, xs, ys => T (getE xs i).toNat (getE ys i).toNat
  | .asked i m, xs, ys => decide ((getE xs i + 2 * getE ys i) % m = 1)
def R0.fit : R0 → List Int → Prop
  | .key cols, xs => ∀ c ∈ cols, c.1 < xs.length
  | .near i _, xs => i < xs.length
  | .ring i _, xs => i < xs.length
  | .table i n _, xs => i < xs.length ∧ 0 ≤ getE xs i ∧ getE xs i < n
  | .asked i _, xs => i < xs.length
inductive R0.At (K : PySem.W.Frag) (A : Ad) (H : Hp) (u : Addr) : R0 → Prop
  | key {d l : Addr} {cvs : List V} {cols : List (Nat × Bool)} (h : H u = some (.ins A.KeyRule d [("columns", .ref l)])) (hl : H l = some (.lst cvs)) (hc : Cols K H cvs cols) : R0.At K A H u (.key cols)
  | near {d : Addr} {i : Nat} {g : Int} (h : H u = some (.ins A.NearRule d [("at", .int i), ("gap", .int g)])) : R0.At K A H u (.near i g)
  | ring {d : Addr} {i : Nat} {m : Int} (h : H u = some (.ins A.RingRule d [("at", .int i), ("size", .int m)])) (hm : 1 ≤ m) : R0.At K A H u (.ring i m)
  | table {d l : Addr} {i n : Nat} {gvs : List V} {T : Nat → Nat → Bool} (h : H u = some (.ins A.TableRule d [("at", .int i), ("table", .ref l)])) (hl : H l = some (.lst gvs)) (hG : GMat H gvs n n T) : R0.At K A H u (.table i n T)
  | asked {d f c' : Addr} {cl : List (Str × Addr)} {i : Nat} {m : Int} (h : H u = some (.ins A.AskedRule d [("teller", .ref f)])) (hC : Clo1 H f [.int i, .int m] cl c') (hm : 1 ≤ m) : R0.At K A H u (.asked i m)
theorem R0.At.ext {K : PySem.W.Frag} {A : Ad} {H H' : Hp} {u : Addr} {r : R0} (h : R0.At K A H u r) (e : ExtN H H') : R0.At K A H' u r := by
  cases h with
  | key h hl hc => exact .key (ext_ins e h) (ext_lst e hl) (cols_ext hc e)
  | near h => exact .near (ext_ins e h)
  | ring h hm => exact .ring (ext_ins e h) hm
  | table h hl hG => exact .table (ext_ins e h) (ext_lst e hl) (hG.ext e)
  | asked h hC hm => exact .asked (ext_ins e h) (SH.Clo.ext hC e) hm
theorem R0.go {K : PySem.W.Frag} {A : Ad} {σ : L2.St} {H : Hp} {Q : VK} {E : XK} {i j k : Nat} {u x y : Addr} {r : R0} {xs ys : List Int} (hi : σ[i]? = some (some (.ref u))) (hj : σ[j]? = some (some (.ref x))) (hk : σ[k]? = some (some (.ref y)))
    (hU : R0.At K A H u r) (hx : H x = some (.tup (xs.map V.int))) (hy : H y = some (.tup (ys.map V.int))) (fx : r.fit xs) (fy : r.fit ys) (q : ∀ H', Stp [] H H' → Q (.bl (r.b xs ys)) H') :
    tOrE (tMeth A.KeyRule "before" (sp_KeyRule_before K A) [] E (tVar i) (tCons (tVar j) (tCons (tVar k) tNil))) (tOrE (tMeth A.NearRule "before" (sp_NearRule_before K A) [] E (tVar i) (tCons (tVar j) (tCons (tVar k) tNil))) (tOrE (tMeth A.RingRule "before" (sp_RingRule_before K A) [] E (tVar i) (tCons (tVar j) (tCons (tVar k) tNil))) (tOrE (tMeth A.TableRule "before" (sp_TableRule_before K A) [] E (tVar i) (tCons (tVar j) (tCons (tVar k) tNil))) (tMeth A.AskedRule "before" (sp_AskedRule_before K A) [] E (tVar i) (tCons (tVar j) (tCons (tVar k) tNil)))))) σ H Q := by
  cases hU with
  | @key d l cvs cols h hl hc =>
    refine r_orL ?_
    walk_at "rd"
    refine SH.r_var hi ?_
    walk_at "rd"
    refine SH.r_var hj ?_
    walk_at "rd"
    refine SH.r_var hk ?_
    walk_at "rd"
    exact ⟨u, x, y, d, l, cvs, cols, xs, ys, rfl, h, ⟨SqL.of hl, hc, SqT.of hx, SqT.of hy, fun c hc => ⟨fx c hc, fy c hc⟩⟩, q H (Stp.refl _ _)⟩
  | @near d i' g h =>
    refine r_orR (r_orL ?_)
    walk_at "rd"
    refine SH.r_var hi ?_
    walk_at "rd"
    refine SH.r_var hj ?_
    walk_at "rd"
    refine SH.r_var hk ?_
    walk_at "rd"
    exact ⟨u, x, y, d, g, i', xs, ys, rfl, h, SqT.of hx, SqT.of hy, ⟨fx, fy⟩, q H (Stp.refl _ _)⟩
  | @ring d i' m h hm =>
    refine r_orR (r_orR (r_orL ?_))
    walk_at "rd"
    refine SH.r_var hi ?_
    walk_at "rd"
    refine SH.r_var hj ?_
    walk_at "rd"
    refine SH.r_var hk ?_
    walk_at "rd"
    exact ⟨u, x, y, d, m, i', xs, ys, rfl, h, SqT.of hx, SqT.of hy, ⟨fx, fy, hm⟩, q H (Stp.refl _ _)⟩
  | @table d l i' n gvs T h hl hG =>
    refine r_orR (r_orR (r_orR (r_orL ?_)))
    walk_at "rd"
    refine SH.r_var hi ?_
    walk_at "rd"
    refine SH.r_var hj ?_
    walk_at "rd"
    refine SH.r_var hk ?_
    walk_at "rd"
    exact ⟨u, x, y, d, l, i', n, T, gvs, xs, ys, rfl, h, SqT.of hx, SqT.of hy, ⟨SqL.of hl, hG, fx.1, fy.1, fx.2.1, fx.2.2, fy.2.1, fy.2.2⟩, q H (Stp.refl _ _)⟩
  | @asked d f c' cl i' m h hC hm =>
    refine r_orR (r_orR (r_orR (r_orR ?_)))
    walk_at "rd"
    refine SH.r_var hi ?_
    walk_at "rd"
    refine SH.r_var hj ?_
    walk_at "rd"
    refine SH.r_var hk ?_
    walk_at "rd"
    exact ⟨u, f, x, y, d, rfl, h, ⟨_, _, _, hC⟩, ⟨_, _, _, hC, x, y, i', m, xs, ys, rfl, ⟨rfl, hx, hy, fx, fy, hm⟩, q⟩⟩
/-- a list of rules -/
structure RsAt (K : PySem.W.Frag) (A : Ad) (H : Hp) (uvs : List V) (rs : List R0) : Prop where
  len : uvs.length = rs.length
  at_ : ∀ (j : Nat) (v : V), uvs[j]? = some v → ∃ (u : Addr) (r : R0), v = .ref u ∧ rs[j]? = some r ∧ R0.At K A H u r
theorem RsAt.ext {K : PySem.W.Frag} {A : Ad} {H H' : Hp} {uvs : List V} {rs : List R0} (h : RsAt K A H uvs rs) (e : ExtN H H') : RsAt K A H' uvs rs :=
  ⟨h.len, fun j v z => by obtain ⟨u, r, h1, h2, h3⟩ := h.at_ j v z; exact ⟨u, r, h1, h2, h3.ext e⟩⟩
theorem RsAt.nil {K : PySem.W.Frag} {A : Ad} {H : Hp} : RsAt K A H [] [] := ⟨rfl, fun j v e => by cases e⟩
theorem RsAt.snoc {K : PySem.W.Frag} {A : Ad} {H : Hp} {uvs : List V} {rs : List R0} {u : Addr} {r : R0} (h : RsAt K A H uvs rs) (k : R0.At K A H u r) : RsAt K A H (uvs ++ [.ref u]) (rs ++ [r]) := by
  have hl := h.len
  refine ⟨by simp [hl], fun j v e => ?_⟩
  by_cases hj : j < uvs.length
  · rw [List.getElem?_append_left hj] at e
    obtain ⟨u', r', h1, h2, h3⟩ := h.at_ j v e
    exact ⟨u', r', h1, by rw [List.getElem?_append_left (by omega)]; exact h2, h3⟩
  · rw [List.getElem?_append_right (by omega)] at e
    have : j - uvs.length = 0 := by
      cases h : j - uvs.length with
      | zero => rfl
      | succ m => rw [h] at e; cases e
    rw [this] at e
    cases e
    exact ⟨u, r, rfl, by rw [List.getElem?_append_right (by omega), show j - rs.length = 0 by omega]; rfl, k⟩
def bI (b : Bool) : Int := (b.toNat : Nat)
def voteN (rs : List R0) (xs ys : List Int) : Int := (rs.map fun r => bI (r.b xs ys) - bI (r.b ys xs)).sum
theorem voteN_snoc {rs : List R0} {r : R0} {xs ys : List Int} : voteN (rs ++ [r]) xs ys = voteN rs xs ys + bI (r.b xs ys) - bI (r.b ys xs) := by
  unfold voteN
  rw [List.map_append, List.sum_append]
  simp
  omega
def voteB (rs : List R0) (xs ys : List Int) : Bool := decide (0 < voteN rs xs ys)
theorem take_snoc {α : Type} {xs : List α} {j : Nat} {x : α} (h : xs[j]? = some x) : xs.take (j + 1) = xs.take j ++ [x] := by
  rw [List.take_succ, h]; rfl
def sp_VoteRule___init__ (K : PySem.W.Frag) (A : Ad) : Sp := fun vs H Q _ => ∃ (s b : Addr) (uvs : List V), vs = [.ref s, .ref b] ∧ (∃ dx, H s = some (.ins A.VoteRule dx [])) ∧ SqL K H b uvs ∧
  ∀ dx l H', H l = none → s ≠ l → H' s = some (.ins A.VoteRule dx [("rules", .ref l)]) → H' l = some (.lst uvs) → Stp [s] H H' → Q .non H'
theorem ok_VoteRule___init__ {P : Program} {w : World} {K : PySem.W.Frag} {mg : Str → Option Value} {base : Heap} {A : Ad} {f : Addr} {fd : FuncData} (F : Fun K "__init__" "VoteRule.__init__" s_VoteRule___init__ f fd) (T : Txt K mg A)  : FnOk P w K mg base CX0 1 f fd ["self", "rules"] (sp_VoteRule___init__ K A) := by
  refine F.ok sc_VoteRule___init__ (fun vs H Q E h => by obtain ⟨_, _, _, rfl, _⟩ := h; rfl) (fun cdv A' outer s H vs Q E hr h => ?_)
  obtain ⟨s', b, uvs, rfl, ⟨dx, hs⟩, hb, k⟩ := h
  refine ⟨_, (pss_one (SH.ps_fldF T.cl_VoteRule T.na_VoteRule_rules (pv 0) (pe_callTy SH.cListOf (by rfl) T.z_list (by decide +kernel) (pa_cons (pv 1) pa_nil)) rfl)), ?_⟩
  walk_at "begin"
  walk_at "rd"
  intro l hl2
  walk_at "rd"
  exact k _ l _ hl2 (ne_of_none hs hl2) upd_same (upd_far (ne_of_none hs hl2).symm upd_same) (((Stp.refl [s'] H).new hl2).putM (List.mem_singleton.mpr rfl) (upd_old hs hl2) (fun z => z))
def sp_VoteRule_before (K : PySem.W.Frag) (A : Ad) : Sp := fun vs H Q _ => ∃ (u x y d l : Addr) (uvs : List V) (rs : List R0) (xs ys : List Int), vs = [.ref u, .ref x, .ref y] ∧ H u = some (.ins A.VoteRule d [("rules", .ref l)]) ∧ (SqL K H l uvs ∧ RsAt K A H uvs rs ∧ H x = some (.tup (xs.map V.int)) ∧ H y = some (.tup (ys.map V.int)) ∧ (∀ r ∈ rs, r.fit xs ∧ r.fit ys)) ∧
  ∀ H', Stp [] H H' → Q (.bl (voteB rs xs ys)) H'
theorem ok_VoteRule_before {P : Program} {w : World} {K : PySem.W.Frag} {mg : Str → Option Value} {base : Heap} {A : Ad} {f : Addr} {fd : FuncData} (F : Fun K "before" "VoteRule.before" s_VoteRule_before f fd) (T : Txt K mg A) (M_AskedRule_before : SH.CalM P w K mg base CX0 2 A.AskedRule "before" [] (sp_AskedRule_before K A)) (M_KeyRule_before : SH.CalM P w K mg base CX0 1 A.KeyRule "before" [] (sp_KeyRule_before K A)) (M_NearRule_before : SH.CalM P w K mg base CX0 1 A.NearRule "before" [] (sp_NearRule_before K A)) (M_RingRule_before : SH.CalM P w K mg base CX0 1 A.RingRule "before" [] (sp_RingRule_before K A)) (M_TableRule_before : SH.CalM P w K mg base CX0 1 A.TableRule "before" [] (sp_TableRule_before K A)) : FnOk P w K mg base CX0 3 f fd ["self", "x", "y"] (sp_VoteRule_before K A) := by
  refine F.ok sc_VoteRule_before (fun vs H Q E h => by obtain ⟨_, _, _, _, _, _, _, _, _, rfl, _⟩ := h; rfl) (fun cdv A' outer s H vs Q E hr h => ?_)
  obtain ⟨u, x, y, d, l, uvs, rs, xs, ys, rfl, hu, ⟨hl, hR, hx, hy, hf⟩, k⟩ := h
  refine ⟨_, (pss_cons (ps_set (i := 3) sc_VoteRule_before.nd rfl (Or.inl rfl) pe_int)
        (pss_cons (ps_for PassesOwn.never rfl (pi_list (SH.pe_fldF T.cl_VoteRule T.na_VoteRule_rules (pv 0))) (pg_name (i := 4) sc_VoteRule_before.nd rfl (Or.inl rfl)) (pss_cons (ps_aug (i := 3) sc_VoteRule_before.nd rfl (Or.inl rfl) (pe_callTy SH.cInt1 (by rfl) T.z_int (by decide +kernel) (pa_cons (SH.peOrE (SH.pe_methF (pv 4) M_KeyRule_before hr pass0 (pa_cons (pv 1) (pa_cons (pv 2) pa_nil))) (SH.peOrE (SH.pe_methF (pv 4) M_NearRule_before hr pass0 (pa_cons (pv 1) (pa_cons (pv 2) pa_nil))) (SH.peOrE (SH.pe_methF (pv 4) M_RingRule_before hr pass0 (pa_cons (pv 1) (pa_cons (pv 2) pa_nil))) (SH.peOrE (SH.pe_methF (pv 4) M_TableRule_before hr pass0 (pa_cons (pv 1) (pa_cons (pv 2) pa_nil))) (SH.pe_methF (pv 4) M_AskedRule_before hr pass0 (pa_cons (pv 1) (pa_cons (pv 2) pa_nil))))))) pa_nil)) SH.ip_add')
        (pss_one (ps_aug (i := 3) sc_VoteRule_before.nd rfl (Or.inl rfl) (pe_callTy SH.cInt1 (by rfl) T.z_int (by decide +kernel) (pa_cons (SH.peOrE (SH.pe_methF (pv 4) M_KeyRule_before hr pass0 (pa_cons (pv 2) (pa_cons (pv 1) pa_nil))) (SH.peOrE (SH.pe_methF (pv 4) M_NearRule_before hr pass0 (pa_cons (pv 2) (pa_cons (pv 1) pa_nil))) (SH.peOrE (SH.pe_methF (pv 4) M_RingRule_before hr pass0 (pa_cons (pv 2) (pa_cons (pv 1) pa_nil))) (SH.peOrE (SH.pe_methF (pv 4) M_TableRule_before hr pass0 (pa_cons (pv 2) (pa_cons (pv 1) pa_nil))) (SH.pe_methF (pv 4) M_AskedRule_before hr pass0 (pa_cons (pv 2) (pa_cons (pv 1) pa_nil))))))) pa_nil)) SH.ip_sub'))))
        (pss_one (ps_ret (pe_cmpR SH.oGt (pv 3) pe_int (nomark _)))))), ?_⟩
  walk_at "begin"
  walk_at "rd"
  refine for_it (walk_list (xs := uvs)) (fun j σ H' => Stp [] H H' ∧ ∃ v4, σ = [some (.ref u), some (.ref x), some (.ref y), some (.int (voteN (rs.take j) xs ys)), v4]) ⟨.refl _ _, _, rfl⟩ (fun _ _ _ _ z => z.1.sql0 hl) ?_ ?_
  · rintro j v σ H1 H2 hj ⟨S, v4, rfl⟩ ⟨rfl, hv⟩
    obtain ⟨ur, r, rfl, hr', hR'⟩ := (hR.ext (stp_ext S)).at_ j v hv
    obtain ⟨fx, fy⟩ := hf r (List.mem_of_getElem? hr')
    walk_at "rd"
    refine R0.go rfl rfl rfl hR' (S.tup hx) (S.tup hy) fx fy fun H3 S3 => ?_
    have S03 := S.trans S3
    walk_at "rd"
    refine R0.go rfl rfl rfl (hR'.ext (stp_ext S3)) (S03.tup hy) (S03.tup hx) fy fx fun H4 S4 => ?_
    walk_at "rd"
    rw [take_snoc hr', voteN_snoc]
    exact ⟨S03.trans S4, _, rfl⟩
  · rintro σ H1 ⟨S, v4, rfl⟩
    walk_at "rd"
    rw [List.take_of_length_le (by have := hR.len; omega)]
    exact k _ S
/-- a part of a chain: one rule, or votes -/
inductive R1 where
  | one (r : R0)
  | votes (rs : List R0)
def R1.b : R1 → List Int → List Int → Bool
  | .one r, xs, ys => r.b xs ys
  | .votes rs, xs, ys => voteB rs xs ys
def R1.fit : R1 → List Int → Prop
  | .one r, xs => r.fit xs
  | .votes rs, xs => ∀ r ∈ rs, r.fit xs
inductive R1.At (K : PySem.W.Frag) (A : Ad) (H : Hp) (u : Addr) : R1 → Prop
  | one {r : R0} (h : R0.At K A H u r) : R1.At K A H u (.one r)
  | votes {d l : Addr} {uvs : List V} {rs : List R0} (h : H u = some (.ins A.VoteRule d [("rules", .ref l)])) (hl : H l = some (.lst uvs)) (hR : RsAt K A H uvs rs) : R1.At K A H u (.votes rs)
theorem R1.At.ext {K : PySem.W.Frag} {A : Ad} {H H' : Hp} {u : Addr} {r : R1} (h : R1.At K A H u r) (e : ExtN H H') : R1.At K A H' u r := by
  cases h with
  | one h => exact .one (h.ext e)
  | votes h hl hR => exact .votes (ext_ins e h) (ext_lst e hl) (hR.ext e)
theorem R1.go {K : PySem.W.Frag} {A : Ad} {σ : L2.St} {H : Hp} {Q : VK} {E : XK} {i j k : Nat} {u x y : Addr} {r : R1} {xs ys : List Int} (hi : σ[i]? = some (some (.ref u))) (hj : σ[j]? = some (some (.ref x))) (hk : σ[k]? = some (some (.ref y)))
    (hU : R1.At K A H u r) (hx : H x = some (.tup (xs.map V.int))) (hy : H y = some (.tup (ys.map V.int))) (fx : r.fit xs) (fy : r.fit ys) (q : ∀ H', Stp [] H H' → Q (.bl (r.b xs ys)) H') :
    tOrE (tMeth A.VoteRule "before" (sp_VoteRule_before K A) [] E (tVar i) (tCons (tVar j) (tCons (tVar k) tNil))) (tOrE (tMeth A.KeyRule "before" (sp_KeyRule_before K A) [] E (tVar i) (tCons (tVar j) (tCons (tVar k) tNil))) (tOrE (tMeth A.NearRule "before" (sp_NearRule_before K A) [] E (tVar i) (tCons (tVar j) (tCons (tVar k) tNil))) (tOrE (tMeth A.RingRule "before" (sp_RingRule_before K A) [] E (tVar i) (tCons (tVar j) (tCons (tVar k) tNil))) (tOrE (tMeth A.TableRule "before" (sp_TableRule_before K A) [] E (tVar i) (tCons (tVar j) (tCons (tVar k) tNil))) (tMeth A.AskedRule "before" (sp_AskedRule_before K A) [] E (tVar i) (tCons (tVar j) (tCons (tVar k) tNil))))))) σ H Q := by
  cases hU with
  | one h => exact r_orR (R0.go hi hj hk h hx hy fx fy q)
  | @votes d l uvs rs h hl hR =>
    refine r_orL ?_
    walk_at "rd"
    refine SH.r_var hi ?_
    walk_at "rd"
    refine SH.r_var hj ?_
    walk_at "rd"
    refine SH.r_var hk ?_
    walk_at "rd"
    exact ⟨u, x, y, d, l, uvs, rs, xs, ys, rfl, h, ⟨SqL.of hl, hR, hx, hy, fun r hr => ⟨fx r hr, fy r hr⟩⟩, q⟩
structure PsAt (K : PySem.W.Frag) (A : Ad) (H : Hp) (uvs : List V) (rs : List R1) : Prop where
  len : uvs.length = rs.length
  at_ : ∀ (j : Nat) (v : V), uvs[j]? = some v → ∃ (u : Addr) (r : R1), v = .ref u ∧ rs[j]? = some r ∧ R1.At K A H u r
theorem PsAt.ext {K : PySem.W.Frag} {A : Ad} {H H' : Hp} {uvs : List V} {rs : List R1} (h : PsAt K A H uvs rs) (e : ExtN H H') : PsAt K A H' uvs rs :=
  ⟨h.len, fun j v z => by obtain ⟨u, r, h1, h2, h3⟩ := h.at_ j v z; exact ⟨u, r, h1, h2, h3.ext e⟩⟩
theorem PsAt.nil {K : PySem.W.Frag} {A : Ad} {H : Hp} : PsAt K A H [] [] := ⟨rfl, fun j v e => by cases e⟩
theorem PsAt.snoc {K : PySem.W.Frag} {A : Ad} {H : Hp} {uvs : List V} {rs : List R1} {u : Addr} {r : R1} (h : PsAt K A H uvs rs) (k : R1.At K A H u r) : PsAt K A H (uvs ++ [.ref u]) (rs ++ [r]) := by
  have hl := h.len
  refine ⟨by simp [hl], fun j v e => ?_⟩
  by_cases hj : j < uvs.length
  · rw [List.getElem?_append_left hj] at e
    obtain ⟨u', r', h1, h2, h3⟩ := h.at_ j v e
    exact ⟨u', r', h1, by rw [List.getElem?_append_left (by omega)]; exact h2, h3⟩
  · rw [List.getElem?_append_right (by omega)] at e
    have : j - uvs.length = 0 := by
      cases h : j - uvs.length with
      | zero => rfl
      | succ m => rw [h] at e; cases e
    rw [this] at e
    cases e
    exact ⟨u, r, rfl, by rw [List.getElem?_append_right (by omega), show j - rs.length = 0 by omega]; rfl, k⟩
def chainB : List R1 → List Int → List Int → Bool
  | [], _, _ => false
  | r :: rs, xs, ys => r.b xs ys || (!(r.b ys xs) && chainB rs xs ys)
def sp_ChainRule___init__ (K : PySem.W.Frag) (A : Ad) : Sp := fun vs H Q _ => ∃ (s b : Addr) (uvs : List V), vs = [.ref s, .ref b] ∧ (∃ dx, H s = some (.ins A.ChainRule dx [])) ∧ SqL K H b uvs ∧
  ∀ dx l H', H l = none → s ≠ l → H' s = some (.ins A.ChainRule dx [("rules", .ref l)]) → H' l = some (.lst uvs) → Stp [s] H H' → Q .non H'
theorem ok_ChainRule___init__ {P : Program} {w : World} {K : PySem.W.Frag} {mg : Str → Option Value} {base : Heap} {A : Ad} {f : Addr} {fd : FuncData} (F : Fun K "__init__" "ChainRule.__init__" s_ChainRule___init__ f fd) (T : Txt K mg A)  : FnOk P w K mg base CX0 1 f fd ["self", "rules"] (sp_ChainRule___init__ K A) := by
  refine F.ok sc_ChainRule___init__ (fun vs H Q E h => by obtain ⟨_, _, _, rfl, _⟩ := h; rfl) (fun cdv A' outer s H vs Q E hr h => ?_)
  obtain ⟨s', b, uvs, rfl, ⟨dx, hs⟩, hb, k⟩ := h
  refine ⟨_, (pss_one (SH.ps_fldF T.cl_ChainRule T.na_ChainRule_rules (pv 0) (pe_callTy SH.cListOf (by rfl) T.z_list (by decide +kernel) (pa_cons (pv 1) pa_nil)) rfl)), ?_⟩
  walk_at "begin"
  walk_at "rd"
  intro l hl2
  walk_at "rd"
  exact k _ l _ hl2 (ne_of_none hs hl2) upd_same (upd_far (ne_of_none hs hl2).symm upd_same) (((Stp.refl [s'] H).new hl2).putM (List.mem_singleton.mpr rfl) (upd_old hs hl2) (fun z => z))
def sp_ChainRule_before (K : PySem.W.Frag) (A : Ad) : Sp := fun vs H Q _ => ∃ (u x y d l : Addr) (uvs : List V) (rs : List R1) (xs ys : List Int), vs = [.ref u, .ref x, .ref y] ∧ H u = some (.ins A.ChainRule d [("rules", .ref l)]) ∧ (SqL K H l uvs ∧ PsAt K A H uvs rs ∧ H x = some (.tup (xs.map V.int)) ∧ H y = some (.tup (ys.map V.int)) ∧ (∀ r ∈ rs, r.fit xs ∧ r.fit ys)) ∧
  ∀ H', Stp [] H H' → Q (.bl (chainB rs xs ys)) H'
theorem ok_ChainRule_before {P : Program} {w : World} {K : PySem.W.Frag} {mg : Str → Option Value} {base : Heap} {A : Ad} {f : Addr} {fd : FuncData} (F : Fun K "before" "ChainRule.before" s_ChainRule_before f fd) (T : Txt K mg A) (M_AskedRule_before : SH.CalM P w K mg base CX0 2 A.AskedRule "before" [] (sp_AskedRule_before K A)) (M_KeyRule_before : SH.CalM P w K mg base CX0 1 A.KeyRule "before" [] (sp_KeyRule_before K A)) (M_NearRule_before : SH.CalM P w K mg base CX0 1 A.NearRule "before" [] (sp_NearRule_before K A)) (M_RingRule_before : SH.CalM P w K mg base CX0 1 A.RingRule "before" [] (sp_RingRule_before K A)) (M_TableRule_before : SH.CalM P w K mg base CX0 1 A.TableRule "before" [] (sp_TableRule_before K A)) (M_VoteRule_before : SH.CalM P w K mg base CX0 3 A.VoteRule "before" [] (sp_VoteRule_before K A)) : FnOk P w K mg base CX0 4 f fd ["self", "x", "y"] (sp_ChainRule_before K A) := by
  refine F.ok sc_ChainRule_before (fun vs H Q E h => by obtain ⟨_, _, _, _, _, _, _, _, _, rfl, _⟩ := h; rfl) (fun cdv A' outer s H vs Q E hr h => ?_)
  obtain ⟨u, x, y, d, l, uvs, rs, xs, ys, rfl, hu, ⟨hl, hR, hx, hy, hf⟩, k⟩ := h
  refine ⟨_, (pss_cons (ps_for PassesOwn.never rfl (pi_list (SH.pe_fldF T.cl_ChainRule T.na_ChainRule_rules (pv 0))) (pg_name (i := 3) sc_ChainRule_before.nd rfl (Or.inl rfl)) (pss_cons (ps_set (i := 4) sc_ChainRule_before.nd rfl (Or.inl rfl) (SH.peOrE (SH.pe_methF (pv 3) M_VoteRule_before hr pass0 (pa_cons (pv 1) (pa_cons (pv 2) pa_nil))) (SH.peOrE (SH.pe_methF (pv 3) M_KeyRule_before hr pass0 (pa_cons (pv 1) (pa_cons (pv 2) pa_nil))) (SH.peOrE (SH.pe_methF (pv 3) M_NearRule_before hr pass0 (pa_cons (pv 1) (pa_cons (pv 2) pa_nil))) (SH.peOrE (SH.pe_methF (pv 3) M_RingRule_before hr pass0 (pa_cons (pv 1) (pa_cons (pv 2) pa_nil))) (SH.peOrE (SH.pe_methF (pv 3) M_TableRule_before hr pass0 (pa_cons (pv 1) (pa_cons (pv 2) pa_nil))) (SH.pe_methF (pv 3) M_AskedRule_before hr pass0 (pa_cons (pv 1) (pa_cons (pv 2) pa_nil)))))))))
        (pss_one (ps_if (PW.pt (pw_or (pt_val (pv 4)) (pw_or1 (pt_val (SH.peOrE (SH.pe_methF (pv 3) M_VoteRule_before hr pass0 (pa_cons (pv 2) (pa_cons (pv 1) pa_nil))) (SH.peOrE (SH.pe_methF (pv 3) M_KeyRule_before hr pass0 (pa_cons (pv 2) (pa_cons (pv 1) pa_nil))) (SH.peOrE (SH.pe_methF (pv 3) M_NearRule_before hr pass0 (pa_cons (pv 2) (pa_cons (pv 1) pa_nil))) (SH.peOrE (SH.pe_methF (pv 3) M_RingRule_before hr pass0 (pa_cons (pv 2) (pa_cons (pv 1) pa_nil))) (SH.peOrE (SH.pe_methF (pv 3) M_TableRule_before hr pass0 (pa_cons (pv 2) (pa_cons (pv 1) pa_nil))) (SH.pe_methF (pv 3) M_AskedRule_before hr pass0 (pa_cons (pv 2) (pa_cons (pv 1) pa_nil)))))))))))) (pss_one (ps_ret (pv 4))) pss_nil))))
        (pss_one (ps_ret pe_bl))), ?_⟩
  walk_at "begin"
  walk_at "rd"
  refine for_it (walk_list (xs := uvs)) (fun j σ H' => Stp [] H H' ∧ chainB rs xs ys = chainB (rs.drop j) xs ys ∧ ∃ v3 v4, σ = [some (.ref u), some (.ref x), some (.ref y), v3, v4]) ⟨.refl _ _, rfl, _, _, rfl⟩ (fun _ _ _ _ z => z.1.sql0 hl) ?_ ?_
  · rintro j v σ H1 H2 hj ⟨S, hk, v3, v4, rfl⟩ ⟨rfl, hv⟩
    obtain ⟨ur, r, rfl, hr', hR'⟩ := (hR.ext (stp_ext S)).at_ j v hv
    obtain ⟨fx, fy⟩ := hf r (List.mem_of_getElem? hr')
    obtain ⟨hj', hc'⟩ := List.getElem?_eq_some_iff.mp hr'
    rw [List.drop_eq_getElem_cons hj', hc'] at hk
    simp only [chainB] at hk
    walk_at "rd"
    refine R1.go rfl rfl rfl hR' (S.tup hx) (S.tup hy) fx fy fun H3 S3 => ?_
    have S03 := S.trans S3
    walk_at "rd"
    cases h1 : r.b xs ys with
    | true =>
      rw [h1] at hk
      simp at hk
      rw [hk] at k
      walk_at "rd"
      exact k _ S03
    | false =>
      walk_at "rd"
      refine R1.go rfl rfl rfl (hR'.ext (stp_ext S3)) (S03.tup hy) (S03.tup hx) fy fx fun H4 S4 => ?_
      have S04 := S03.trans S4
      cases h2 : r.b ys xs with
      | true =>
        rw [h1, h2] at hk
        simp at hk
        rw [hk] at k
        walk_at "rd"
        exact k _ S04
      | false =>
        rw [h1, h2] at hk
        simp at hk
        walk_at "rd"
        exact ⟨S04, hk, _, _, rfl⟩
  · rintro σ H1 ⟨S, hk, v3, v4, rfl⟩
    walk_at "rd"
    rw [List.drop_of_length_le (by have := hR.len; omega)] at hk
    rw [hk] at k
    exact k _ S
/-! ### the greatest number that a rule names -/
def maxD (ns : List Int) : Int := ns.foldl max (-1)
theorem maxD_all (ns : List Int) : ∀ y ∈ ns, y ≤ maxD ns := fun y hy => (SH.foldl_max ns (-1)).2 y (by simp [hy])
theorem maxD_low (ns : List Int) : -1 ≤ maxD ns := (SH.foldl_max ns (-1)).2 (-1) (by simp)
theorem maxD_of {ns : List Int} {m : Int} (h : ∀ n ∈ ns, -1 ≤ n) (h1 : m ∈ ns) (h2 : ∀ y, y ∈ ns → y ≤ m) : m = maxD ns := by
  have a := maxD_all ns m h1
  rcases List.mem_cons.mp (SH.foldl_max ns (-1)).1 with e | e
  · have := h m h1
    have e' : maxD ns = -1 := e
    omega
  · have := h2 _ e
    have e' : maxD ns ≤ m := this
    omega
theorem maxD_snoc (ns : List Int) (n : Int) : maxD (ns ++ [n]) = max (maxD ns) n := by unfold maxD; rw [List.foldl_append]; rfl
def R0.wid : R0 → Int
  | .key cols => maxD (cols.map fun c => (c.1 : Int))
  | .near i _ => i
  | .ring i _ => i
  | .table i _ _ => i
  | .asked _ _ => -1
theorem R0.wid_low (r : R0) : -1 ≤ r.wid := by
  cases r with
  | key cols => exact maxD_low _
  | near i g => show (-1 : Int) ≤ i; omega
  | ring i g => show (-1 : Int) ≤ i; omega
  | table i n T => show (-1 : Int) ≤ i; omega
  | asked i m => show (-1 : Int) ≤ -1; omega
def R1.wid : R1 → Int
  | .one r => r.wid
  | .votes rs => maxD (rs.map R0.wid)
theorem R1.wid_low (r : R1) : -1 ≤ r.wid := by
  cases r with
  | one r => exact r.wid_low
  | votes rs => exact maxD_low _
def sp_KeyRule_widest (K : PySem.W.Frag) (A : Ad) : Sp := fun vs H Q _ => ∃ (u d l : Addr) (cvs : List V) (cols : List (Nat × Bool)), vs = [.ref u] ∧ H u = some (.ins A.KeyRule d [("columns", .ref l)]) ∧ (SqL K H l cvs ∧ Cols K H cvs cols ∧ cols.length ≤ 1000) ∧ ∀ H', Stp [] H H' → Q (.int (maxD (cols.map fun c => (c.1 : Int)))) H'
theorem ok_KeyRule_widest {P : Program} {w : World} {K : PySem.W.Frag} {mg : Str → Option Value} {base : Heap} {A : Ad} {f : Addr} {fd : FuncData} (F : Fun K "widest" "KeyRule.widest" s_KeyRule_widest f fd) (T : Txt K mg A)  : FnOk P w K mg base CX0 1 f fd ["self"] (sp_KeyRule_widest K A) := by
  refine F.ok sc_KeyRule_widest (fun vs H Q E h => by obtain ⟨_, _, _, _, _, rfl, _⟩ := h; rfl) (fun cdv A' outer s H vs Q E hr h => ?_)
  obtain ⟨u, d, l, cvs, cols, rfl, hu, ⟨hl, hC, hcl⟩, k⟩ := h
  refine ⟨_, (pss_one (ps_ret (pe_callBK (SH.cr_maxDef rfl hr.units) (by rfl) T.z_max (by decide +kernel) (pa_cons (pe_lc (own := [("at", 1), ("way", 2)]) (g := (gTup K 2 (gCons (gName 1) (gCons (gName 2) gNil)))) (tt := tYes) (by rfl) sc_KeyRule_widest.nd (pi_list (SH.pe_fldF T.cl_KeyRule T.na_KeyRule_columns (pv 0))) (blkOk_by (own := [("at", 1), ("way", 2)]) (N := ["self", "at", "way"]) (sc := defScope s_KeyRule_widest) (by decide +kernel)) (fun _ _ _ _ _ => (pg_tup (by rfl) (pgs_cons (pg_name (i := 1) sc_KeyRule_widest.nd rfl (Or.inl rfl)) (pgs_cons (pg_name (i := 2) sc_KeyRule_widest.nd rfl (Or.inl rfl)) pgs_nil)))) (fun _ _ _ _ _ => pts_nil) (fun _ _ _ _ _ => (pv 1))) pa_nil) (pk_cons (pe_un un_neg pe_int) pk_nil)))), ?_⟩
  walk_at "begin"
  walk_at "rd"
  intro D hD
  refine lc_it (walk_list (xs := cvs)) (fun j H' => Stp [] H H' ∧ H' D = some (.lst (((cols.take j).map fun c => (c.1 : Int)).map V.int))) ⟨(Stp.refl _ _).new hD, upd_same⟩ (fun j H' _ z => z.1.sql0 hl) ?_ ?_
  · rintro j v H1 H2 hj ⟨S, hL⟩ ⟨rfl, hv⟩
    obtain ⟨t, c, rfl, hc, ht⟩ := hC.2 j v hv
    have ht2 := S.tup ht
    walk_at "rd"
    refine ⟨_, hL, Nat.lt_of_le_of_lt (m := 1000) (by rw [List.length_map, List.length_map]; exact Nat.le_trans (List.length_take_le' _ _) (by omega)) (by decide), S.putN hD, ?_⟩
    rw [upd_same, List.take_succ, hc]
    simp
  rintro H1 ⟨S, hL⟩
  rw [hC.1, List.take_length] at hL
  walk_at "rd"
  refine ⟨D, cols.map fun c => (c.1 : Int), -1, rfl, rfl, SqL.of hL, fun e => ?_, fun m h1 h2 => ?_⟩
  · have := k H1 S
    rw [e] at this
    exact this
  · rw [maxD_of (fun n hn => by obtain ⟨c, _, rfl⟩ := List.mem_map.mp hn; omega) h1 h2]
    exact k H1 S
def sp_NearRule_widest (K : PySem.W.Frag) (A : Ad) : Sp := fun vs H Q _ => ∃ (s dx : Addr) (i g : V), vs = [.ref s] ∧ H s = some (.ins A.NearRule dx [("at", i), ("gap", g)]) ∧ Q i H
theorem ok_NearRule_widest {P : Program} {w : World} {K : PySem.W.Frag} {mg : Str → Option Value} {base : Heap} {A : Ad} {f : Addr} {fd : FuncData} (F : Fun K "widest" "NearRule.widest" s_NearRule_widest f fd) (T : Txt K mg A)  : FnOk P w K mg base CX0 1 f fd ["self"] (sp_NearRule_widest K A) := by
  refine F.ok sc_NearRule_widest (fun vs H Q E h => by obtain ⟨_, _, _, _, rfl, _⟩ := h; rfl) (fun cdv A' outer s H vs Q E hr h => ?_)
  obtain ⟨s', dx, i, g, rfl, hs, k⟩ := h
  refine ⟨_, (pss_one (ps_ret (SH.pe_fldF T.cl_NearRule T.na_NearRule_at (pv 0)))), ?_⟩
  walk_at "begin"
  walk_at "rd"
  exact k
def sp_RingRule_widest (K : PySem.W.Frag) (A : Ad) : Sp := fun vs H Q _ => ∃ (s dx : Addr) (i g : V), vs = [.ref s] ∧ H s = some (.ins A.RingRule dx [("at", i), ("size", g)]) ∧ Q i H
theorem ok_RingRule_widest {P : Program} {w : World} {K : PySem.W.Frag} {mg : Str → Option Value} {base : Heap} {A : Ad} {f : Addr} {fd : FuncData} (F : Fun K "widest" "RingRule.widest" s_RingRule_widest f fd) (T : Txt K mg A)  : FnOk P w K mg base CX0 1 f fd ["self"] (sp_RingRule_widest K A) := by
  refine F.ok sc_RingRule_widest (fun vs H Q E h => by obtain ⟨_, _, _, _, rfl, _⟩ := h; rfl) (fun cdv A' outer s H vs Q E hr h => ?_)
  obtain ⟨s', dx, i, g, rfl, hs, k⟩ := h
  refine ⟨_, (pss_one (ps_ret (SH.pe_fldF T.cl_RingRule T.na_RingRule_at (pv 0)))), ?_⟩
  walk_at "begin"
  walk_at "rd"
  exact k
def sp_TableRule_widest (K : PySem.W.Frag) (A : Ad) : Sp := fun vs H Q _ => ∃ (s dx : Addr) (i g : V), vs = [.ref s] ∧ H s = some (.ins A.TableRule dx [("at", i), ("table", g)]) ∧ Q i H
theorem ok_TableRule_widest {P : Program} {w : World} {K : PySem.W.Frag} {mg : Str → Option Value} {base : Heap} {A : Ad} {f : Addr} {fd : FuncData} (F : Fun K "widest" "TableRule.widest" s_TableRule_widest f fd) (T : Txt K mg A)  : FnOk P w K mg base CX0 1 f fd ["self"] (sp_TableRule_widest K A) := by
  refine F.ok sc_TableRule_widest (fun vs H Q E h => by obtain ⟨_, _, _, _, rfl, _⟩ := h; rfl) (fun cdv A' outer s H vs Q E hr h => ?_)
  obtain ⟨s', dx, i, g, rfl, hs, k⟩ := h
  refine ⟨_, (pss_one (ps_ret (SH.pe_fldF T.cl_TableRule T.na_TableRule_at (pv 0)))), ?_⟩
  walk_at "begin"
  walk_at "rd"
  exact k
def sp_AskedRule_widest (K : PySem.W.Frag) (A : Ad) : Sp := fun vs H Q _ => ∃ (u : Addr), vs = [.ref u] ∧ Q (.int (-1)) H
theorem ok_AskedRule_widest {P : Program} {w : World} {K : PySem.W.Frag} {mg : Str → Option Value} {base : Heap} {A : Ad} {f : Addr} {fd : FuncData} (F : Fun K "widest" "Rule.widest" s_AskedRule_widest f fd) (T : Txt K mg A)  : FnOk P w K mg base CX0 1 f fd ["self"] (sp_AskedRule_widest K A) := by
  refine F.ok sc_AskedRule_widest (fun vs H Q E h => by obtain ⟨_, rfl, _⟩ := h; rfl) (fun cdv A' outer s H vs Q E hr h => ?_)
  obtain ⟨u, rfl, k⟩ := h
  refine ⟨_, (pss_one (ps_ret (pe_un un_neg pe_int))), ?_⟩
  walk_at "begin"
  walk_at "rd"
  exact k
def R0.few : R0 → Prop
  | .key cols => cols.length ≤ 1000
  | _ => True
theorem R0.goW {K : PySem.W.Frag} {A : Ad} {σ : L2.St} {H : Hp} {Q : VK} {E : XK} {i : Nat} {u : Addr} {r : R0} (hi : σ[i]? = some (some (.ref u))) (hU : R0.At K A H u r) (hf : r.few) (q : ∀ H', Stp [] H H' → Q (.int r.wid) H') :
    tOrE (tMeth A.KeyRule "widest" (sp_KeyRule_widest K A) [] E (tVar i) tNil) (tOrE (tMeth A.NearRule "widest" (sp_NearRule_widest K A) [] E (tVar i) tNil) (tOrE (tMeth A.RingRule "widest" (sp_RingRule_widest K A) [] E (tVar i) tNil) (tOrE (tMeth A.TableRule "widest" (sp_TableRule_widest K A) [] E (tVar i) tNil) (tMeth A.AskedRule "widest" (sp_AskedRule_widest K A) [] E (tVar i) tNil)))) σ H Q := by
  cases hU with
  | @key d l cvs cols h hl hc =>
    refine r_orL ?_
    walk_at "rd"
    refine SH.r_var hi ?_
    walk_at "rd"
    exact ⟨u, d, l, cvs, cols, rfl, h, ⟨SqL.of hl, hc, hf⟩, q⟩
  | @near d i' g h =>
    refine r_orR (r_orL ?_)
    walk_at "rd"
    refine SH.r_var hi ?_
    walk_at "rd"
    exact ⟨u, d, _, _, rfl, h, q H (Stp.refl _ _)⟩
  | @ring d i' m h hm =>
    refine r_orR (r_orR (r_orL ?_))
    walk_at "rd"
    refine SH.r_var hi ?_
    walk_at "rd"
    exact ⟨u, d, _, _, rfl, h, q H (Stp.refl _ _)⟩
  | @table d l i' n gvs T h hl hG =>
    refine r_orR (r_orR (r_orR (r_orL ?_)))
    walk_at "rd"
    refine SH.r_var hi ?_
    walk_at "rd"
    exact ⟨u, d, _, _, rfl, h, q H (Stp.refl _ _)⟩
  | @asked d f c' cl i' m h hC hm =>
    refine r_orR (r_orR (r_orR (r_orR ?_)))
    walk_at "rd"
    refine SH.r_var hi ?_
    walk_at "rd"
    exact ⟨u, rfl, q H (Stp.refl _ _)⟩
def sp_VoteRule_widest (K : PySem.W.Frag) (A : Ad) : Sp := fun vs H Q _ => ∃ (u d l : Addr) (uvs : List V) (rs : List R0), vs = [.ref u] ∧ H u = some (.ins A.VoteRule d [("rules", .ref l)]) ∧ (SqL K H l uvs ∧ RsAt K A H uvs rs ∧ (∀ r ∈ rs, r.few) ∧ rs.length ≤ 1000) ∧ ∀ H', Stp [] H H' → Q (.int (maxD (rs.map R0.wid))) H'
theorem ok_VoteRule_widest {P : Program} {w : World} {K : PySem.W.Frag} {mg : Str → Option Value} {base : Heap} {A : Ad} {f : Addr} {fd : FuncData} (F : Fun K "widest" "VoteRule.widest" s_VoteRule_widest f fd) (T : Txt K mg A) (M_AskedRule_widest : SH.CalM P w K mg base CX0 1 A.AskedRule "widest" [] (sp_AskedRule_widest K A)) (M_KeyRule_widest : SH.CalM P w K mg base CX0 1 A.KeyRule "widest" [] (sp_KeyRule_widest K A)) (M_NearRule_widest : SH.CalM P w K mg base CX0 1 A.NearRule "widest" [] (sp_NearRule_widest K A)) (M_RingRule_widest : SH.CalM P w K mg base CX0 1 A.RingRule "widest" [] (sp_RingRule_widest K A)) (M_TableRule_widest : SH.CalM P w K mg base CX0 1 A.TableRule "widest" [] (sp_TableRule_widest K A)) : FnOk P w K mg base CX0 2 f fd ["self"] (sp_VoteRule_widest K A) := by
  refine F.ok sc_VoteRule_widest (fun vs H Q E h => by obtain ⟨_, _, _, _, _, rfl, _⟩ := h; rfl) (fun cdv A' outer s H vs Q E hr h => ?_)
  obtain ⟨u, d, l, uvs, rs, rfl, hu, ⟨hl, hR, hf, hn⟩, k⟩ := h
  refine ⟨_, (pss_one (ps_ret (pe_callBK (SH.cr_maxDef rfl hr.units) (by rfl) T.z_max (by decide +kernel) (pa_cons (pe_lc (own := [("rule", 1)]) (g := (gName 1)) (tt := tYes) (by rfl) sc_VoteRule_widest.nd (pi_list (SH.pe_fldF T.cl_VoteRule T.na_VoteRule_rules (pv 0))) (blkOk_by (own := [("rule", 1)]) (N := ["self", "rule"]) (sc := defScope s_VoteRule_widest) (by decide +kernel)) (fun _ _ _ _ _ => (pg_name (i := 1) sc_VoteRule_widest.nd rfl (Or.inl rfl))) (fun _ _ _ _ _ => pts_nil) (fun _ _ _ _ _ => (SH.peOrE (SH.pe_methF0 (pv 1) M_KeyRule_widest hr pass0) (SH.peOrE (SH.pe_methF0 (pv 1) M_NearRule_widest hr pass0) (SH.peOrE (SH.pe_methF0 (pv 1) M_RingRule_widest hr pass0) (SH.peOrE (SH.pe_methF0 (pv 1) M_TableRule_widest hr pass0) (SH.pe_methF0 (pv 1) M_AskedRule_widest hr pass0))))))) pa_nil) (pk_cons (pe_un un_neg pe_int) pk_nil)))), ?_⟩
  walk_at "begin"
  walk_at "rd"
  intro D hD
  refine lc_it (walk_list (xs := uvs)) (fun j H' => Stp [] H H' ∧ H' D = some (.lst (((rs.take j).map R0.wid).map V.int))) ⟨(Stp.refl _ _).new hD, upd_same⟩ (fun j H' _ z => z.1.sql0 hl) ?_ ?_
  · rintro j v H1 H2 hj ⟨S, hL⟩ ⟨rfl, hv⟩
    obtain ⟨ur, r, rfl, hr', hR'⟩ := (hR.ext (stp_ext S)).at_ j v hv
    walk_at "rd"
    refine R0.goW rfl hR' (hf r (List.mem_of_getElem? hr')) fun H3 S3 => ?_
    refine ⟨_, S3.keep0 hL, Nat.lt_of_le_of_lt (m := 1000) (by rw [List.length_map, List.length_map]; exact Nat.le_trans (List.length_take_le' _ _) (by omega)) (by decide), (S.trans S3).putN hD, ?_⟩
    rw [upd_same, take_snoc hr', List.map_append, List.map_append]
    rfl
  rintro H1 ⟨S, hL⟩
  rw [hR.len, List.take_length] at hL
  walk_at "rd"
  refine ⟨D, rs.map R0.wid, -1, rfl, rfl, SqL.of hL, fun e => ?_, fun m h1 h2 => ?_⟩
  · have := k H1 S
    rw [e] at this
    exact this
  · rw [maxD_of (fun n hn => by obtain ⟨c, _, rfl⟩ := List.mem_map.mp hn; exact c.wid_low) h1 h2]
    exact k H1 S
def R1.few : R1 → Prop
  | .one r => r.few
  | .votes rs => (∀ r ∈ rs, r.few) ∧ rs.length ≤ 1000
theorem R1.goW {K : PySem.W.Frag} {A : Ad} {σ : L2.St} {H : Hp} {Q : VK} {E : XK} {i : Nat} {u : Addr} {r : R1} (hi : σ[i]? = some (some (.ref u))) (hU : R1.At K A H u r) (hf : r.few) (q : ∀ H', Stp [] H H' → Q (.int r.wid) H') :
    tOrE (tMeth A.VoteRule "widest" (sp_VoteRule_widest K A) [] E (tVar i) tNil) (tOrE (tMeth A.KeyRule "widest" (sp_KeyRule_widest K A) [] E (tVar i) tNil) (tOrE (tMeth A.NearRule "widest" (sp_NearRule_widest K A) [] E (tVar i) tNil) (tOrE (tMeth A.RingRule "widest" (sp_RingRule_widest K A) [] E (tVar i) tNil) (tOrE (tMeth A.TableRule "widest" (sp_TableRule_widest K A) [] E (tVar i) tNil) (tMeth A.AskedRule "widest" (sp_AskedRule_widest K A) [] E (tVar i) tNil))))) σ H Q := by
  cases hU with
  | one h => exact r_orR (R0.goW hi h hf q)
  | @votes d l uvs rs h hl hR =>
    refine r_orL ?_
    walk_at "rd"
    refine SH.r_var hi ?_
    walk_at "rd"
    exact ⟨u, d, l, uvs, rs, rfl, h, ⟨SqL.of hl, hR, hf.1, hf.2⟩, q⟩
def sp_ChainRule_widest (K : PySem.W.Frag) (A : Ad) : Sp := fun vs H Q _ => ∃ (u d l : Addr) (uvs : List V) (rs : List R1), vs = [.ref u] ∧ H u = some (.ins A.ChainRule d [("rules", .ref l)]) ∧ (SqL K H l uvs ∧ PsAt K A H uvs rs ∧ (∀ r ∈ rs, r.few) ∧ rs.length ≤ 1000) ∧ ∀ H', Stp [] H H' → Q (.int (maxD (rs.map R1.wid))) H'
theorem ok_ChainRule_widest {P : Program} {w : World} {K : PySem.W.Frag} {mg : Str → Option Value} {base : Heap} {A : Ad} {f : Addr} {fd : FuncData} (F : Fun K "widest" "ChainRule.widest" s_ChainRule_widest f fd) (T : Txt K mg A) (M_AskedRule_widest : SH.CalM P w K mg base CX0 1 A.AskedRule "widest" [] (sp_AskedRule_widest K A)) (M_KeyRule_widest : SH.CalM P w K mg base CX0 1 A.KeyRule "widest" [] (sp_KeyRule_widest K A)) (M_NearRule_widest : SH.CalM P w K mg base CX0 1 A.NearRule "widest" [] (sp_NearRule_widest K A)) (M_RingRule_widest : SH.CalM P w K mg base CX0 1 A.RingRule "widest" [] (sp_RingRule_widest K A)) (M_TableRule_widest : SH.CalM P w K mg base CX0 1 A.TableRule "widest" [] (sp_TableRule_widest K A)) (M_VoteRule_widest : SH.CalM P w K mg base CX0 2 A.VoteRule "widest" [] (sp_VoteRule_widest K A)) : FnOk P w K mg base CX0 3 f fd ["self"] (sp_ChainRule_widest K A) := by
  refine F.ok sc_ChainRule_widest (fun vs H Q E h => by obtain ⟨_, _, _, _, _, rfl, _⟩ := h; rfl) (fun cdv A' outer s H vs Q E hr h => ?_)
  obtain ⟨u, d, l, uvs, rs, rfl, hu, ⟨hl, hR, hf, hn⟩, k⟩ := h
  refine ⟨_, (pss_one (ps_ret (pe_callBK (SH.cr_maxDef rfl hr.units) (by rfl) T.z_max (by decide +kernel) (pa_cons (pe_lc (own := [("rule", 1)]) (g := (gName 1)) (tt := tYes) (by rfl) sc_ChainRule_widest.nd (pi_list (SH.pe_fldF T.cl_ChainRule T.na_ChainRule_rules (pv 0))) (blkOk_by (own := [("rule", 1)]) (N := ["self", "rule"]) (sc := defScope s_ChainRule_widest) (by decide +kernel)) (fun _ _ _ _ _ => (pg_name (i := 1) sc_ChainRule_widest.nd rfl (Or.inl rfl))) (fun _ _ _ _ _ => pts_nil) (fun _ _ _ _ _ => (SH.peOrE (SH.pe_methF0 (pv 1) M_VoteRule_widest hr pass0) (SH.peOrE (SH.pe_methF0 (pv 1) M_KeyRule_widest hr pass0) (SH.peOrE (SH.pe_methF0 (pv 1) M_NearRule_widest hr pass0) (SH.peOrE (SH.pe_methF0 (pv 1) M_RingRule_widest hr pass0) (SH.peOrE (SH.pe_methF0 (pv 1) M_TableRule_widest hr pass0) (SH.pe_methF0 (pv 1) M_AskedRule_widest hr pass0)))))))) pa_nil) (pk_cons (pe_un un_neg pe_int) pk_nil)))), ?_⟩
  walk_at "begin"
  walk_at "rd"
  intro D hD
  refine lc_it (walk_list (xs := uvs)) (fun j H' => Stp [] H H' ∧ H' D = some (.lst (((rs.take j).map R1.wid).map V.int))) ⟨(Stp.refl _ _).new hD, upd_same⟩ (fun j H' _ z => z.1.sql0 hl) ?_ ?_
  · rintro j v H1 H2 hj ⟨S, hL⟩ ⟨rfl, hv⟩
    obtain ⟨ur, r, rfl, hr', hR'⟩ := (hR.ext (stp_ext S)).at_ j v hv
    walk_at "rd"
    refine R1.goW rfl hR' (hf r (List.mem_of_getElem? hr')) fun H3 S3 => ?_
    refine ⟨_, S3.keep0 hL, Nat.lt_of_le_of_lt (m := 1000) (by rw [List.length_map, List.length_map]; exact Nat.le_trans (List.length_take_le' _ _) (by omega)) (by decide), (S.trans S3).putN hD, ?_⟩
    rw [upd_same, take_snoc hr', List.map_append, List.map_append]
    rfl
  rintro H1 ⟨S, hL⟩
  rw [hR.len, List.take_length] at hL
  walk_at "rd"
  refine ⟨D, rs.map R1.wid, -1, rfl, rfl, SqL.of hL, fun e => ?_, fun m h1 h2 => ?_⟩
  · have := k H1 S
    rw [e] at this
    exact this
  · rw [maxD_of (fun n hn => by obtain ⟨c, _, rfl⟩ := List.mem_map.mp hn; exact c.wid_low) h1 h2]
    exact k H1 S
/-! ### a heap without some addresses -/
def hid (L : List Addr) (H : Hp) : Hp := fun b => if b ∈ L then none else H b
theorem hid_at {L : List Addr} {b : Addr} {H : Hp} {o : HO} (n : b ∉ L) (h : H b = some o) : hid L H b = some o := by unfold hid; rw [if_neg n]; exact h
theorem hid_nil {H : Hp} : hid [] H = H := by funext b; unfold hid; rw [if_neg (by simp)]
theorem hid_upd {L : List Addr} {D : Addr} {H : Hp} {o : HO} (h : D ∈ L) : hid L (upd H D o) = hid L H := by
  funext b
  unfold hid
  by_cases hb : b ∈ L
  · rw [if_pos hb, if_pos hb]
  · rw [if_neg hb, if_neg hb, upd_ne (fun z => hb (by rw [z]; exact h))]
theorem hid_mono {L : List Addr} {H H' : Hp} (S : Stp [] H H') : Stp [] (hid L H) (hid L H') := ⟨fun b o e _ => by
  unfold hid at e ⊢
  by_cases hb : b ∈ L
  · rw [if_pos hb] at e; cases e
  · rw [if_neg hb] at e ⊢; exact S.keep0 e, fun b e => by
  unfold hid at e ⊢
  by_cases hb : b ∈ L
  · rw [if_pos hb]
  · rw [if_neg hb] at e ⊢; exact S.dom b e⟩
theorem hid_drop {L L' : List Addr} {H : Hp} (h : ∀ b ∈ L, b ∈ L') : Stp [] (hid L' H) (hid L H) := ⟨fun b o e _ => by
  unfold hid at e ⊢
  by_cases hb : b ∈ L'
  · rw [if_pos hb] at e; cases e
  · rw [if_neg hb] at e; rw [if_neg fun z => hb (h b z)]; exact e, fun b e => by
  unfold hid at e ⊢
  by_cases hb : b ∈ L'
  · rw [if_pos hb]
  · rw [if_neg hb]; rw [if_neg fun z => hb (h b z)] at e; exact e⟩
/-- the addresses of a list are all taken -/
def Took (H : Hp) (L : List Addr) : Prop := ∀ D ∈ L, H D ≠ none
theorem Took.stp {H H' : Hp} {L : List Addr} (h : Took H L) (S : Stp [] H H') : Took H' L := fun D hD z => h D hD (S.dom D z)
theorem Took.cons {H : Hp} {L : List Addr} {D : Addr} {o : HO} (h : Took H L) (k : H D = some o) : Took H (D :: L) := fun E hE => by
  rcases List.mem_cons.mp hE with rfl | z
  · rw [k]; simp
  · exact h E z
theorem Took.nil {H : Hp} : Took H [] := fun D hD => by cases hD
theorem Took.not {H : Hp} {L : List Addr} {b : Addr} (h : Took H L) (k : H b = none) : b ∉ L := fun z => h b z k
/-! ### plans: each rule's own numbers -/
def sp__law_figures (K : PySem.W.Frag) (A : Ad) : Sp := fun vs H Q _ => ∃ (c : Int) (m : Nat) (b : Int), vs = [.int c, .int m, .int b] ∧ (0 < b ∧ b < 1073741824 ∧ m ≤ 100) ∧
  ∀ (q : Addr) (ms : List Int) (H' : Hp), H q = none → Stp [] H H' → H' q = some (.lst (ms.map V.int)) → ms.length = m → (∀ x ∈ ms, 0 ≤ x ∧ x < b) → Q (.ref q) H'
theorem ok__law_figures {P : Program} {w : World} {K : PySem.W.Frag} {mg : Str → Option Value} {base : Heap} {A : Ad} {f : Addr} {fd : FuncData} (F : Fun K "_law_figures" "_law_figures" s__law_figures f fd) (T : Txt K mg A)  : FnOk P w K mg base CX0 1 f fd ["_law_cell", "_law_many", "_law_base"] (sp__law_figures K A) := by
  refine F.ok sc__law_figures (fun vs H Q E h => by obtain ⟨_, _, _, rfl, _⟩ := h; rfl) (fun cdv A' outer s H vs Q E hr h => ?_)
  obtain ⟨c, m, b, rfl, ⟨hb, hb2, hm⟩, k⟩ := h
  refine ⟨_, (pss_cons (ps_set (i := 3) sc__law_figures.nd rfl (Or.inl rfl) (pe_lst pa_nil))
        (pss_cons (ps_for PassesOwn.never rfl (pi_range1 (by rfl) T.z_range (pa_cons (pv 1) pa_nil)) (pg_name (i := 4) sc__law_figures.nd rfl (Or.inl rfl)) (pss_cons (ps_expr (pe_bm PySem.F.plainAttrs_list PySem.F.slot_list_append PySem.F.type_list_append mt_append (pv 3) (pa_cons (pe_op SH.oMod (pv 0) (pv 2)) pa_nil)))
        (pss_one (ps_set (i := 0) sc__law_figures.nd rfl (Or.inl rfl) (pe_op SH.oDiv (pv 0) (pv 2))))))
        (pss_one (ps_ret (pv 3))))), ?_⟩
  walk_at "begin"
  walk_at "rd"
  intro D hD
  have S1 := (Stp.refl [] H).new (o := .lst []) hD
  have hD1 := upd_same (H := H) (a := D) (o := .lst [])
  walk_at "rd"
  generalize hH1 : upd H D (.lst []) = H1 at S1 hD1 ⊢
  refine for_it walk_range (fun j σ H' => ∃ (ms : List Int) (c' : Int) (v4 : Option V), (Stp [D] H1 H' ∧ H' D = some (.lst (ms.map V.int)) ∧ ms.length = j ∧ ∀ x ∈ ms, 0 ≤ x ∧ x < b) ∧ σ = [some (.int c'), some (.int m), some (.int b), some (.ref D), v4])
    ⟨[], c, _, ⟨.refl _ _, hD1, rfl, by simp⟩, rfl⟩ (fun _ _ _ _ _ => True.intro) ?_ ?_
  · rintro j x σ H2 H3 hj ⟨ms, c', v4, ⟨S, hL, hl, hr⟩, rfl⟩ ⟨rfl, rfl⟩
    walk_at "rd"
    refine v_app hL (by simp; omega) ?_
    walk_at "rd"
    refine ⟨ms ++ [c' % b], _, _, ⟨S.trans ((Stp.refl _ _).putL (by simp) hL), by rw [upd_same, List.map_append]; rfl, by simp [hl], fun x hx => ?_⟩, rfl⟩
    rcases List.mem_append.mp hx with z | z
    · exact hr x z
    · rw [List.mem_singleton] at z; subst z
      exact ⟨Int.emod_nonneg _ (by omega), Int.emod_lt_of_pos _ hb⟩
  · rintro σ H2 ⟨ms, c', v4, ⟨S, hL, hl, hr⟩, rfl⟩
    walk_at "rd"
    exact k D ms H2 hD (S1.then S (by simp; exact hD)) hL (by omega) hr
def PlanAt (K : PySem.W.Frag) (H : Hp) (t : Addr) : R0 → Prop
  | .key cols => ∃ (l : Addr) (cvs : List V), H t = some (.tup [.str "keys", .ref l]) ∧ H l = some (.lst cvs) ∧ Cols K H cvs cols
  | .near i g => H t = some (.tup [.str "near", .int i, .int g])
  | .ring i m => H t = some (.tup [.str "ring", .int i, .int m])
  | .asked i m => H t = some (.tup [.str "asked", .int i, .int m])
  | .table i n T => ∃ (l : Addr) (gvs : List V), H t = some (.tup [.str "table", .int i, .ref l]) ∧ H l = some (.lst gvs) ∧ GMat H gvs n n T
theorem PlanAt.ext {K : PySem.W.Frag} {H H' : Hp} {t : Addr} {r : R0} (h : PlanAt K H t r) (e : ExtN H H') : PlanAt K H' t r := by
  cases r with
  | key cols => obtain ⟨l, cvs, h1, h2, h3⟩ := h; exact ⟨l, cvs, ext_tup e h1, ext_lst e h2, cols_ext h3 e⟩
  | near i g => exact ext_tup e h
  | ring i g => exact ext_tup e h
  | asked i g => exact ext_tup e h
  | table i n T => obtain ⟨l, gvs, h1, h2, h3⟩ := h; exact ⟨l, gvs, ext_tup e h1, ext_lst e h2, h3.ext e⟩
def R0.good (n : Nat) : R0 → Prop
  | .key cols => cols.length ≤ 5 ∧ ∀ c ∈ cols, c.1 < 4
  | .near i g => i < 4 ∧ 0 ≤ g
  | .ring i m => i < 4 ∧ 1 ≤ m
  | .asked i m => i < 4 ∧ 1 ≤ m
  | .table i m _ => i < 4 ∧ m = n ∧ n ≤ 5
/-- a thing of four numbers, each below n -/
def Thg (n : Nat) (xs : List Int) : Prop := xs.length = 4 ∧ ∀ i, i < 4 → 0 ≤ getE xs i ∧ getE xs i < n
theorem R0.good.fit {n : Nat} {r : R0} {xs : List Int} (h : r.good n) (k : Thg n xs) : r.fit xs := by
  obtain ⟨k1, k2⟩ := k
  cases r with
  | key cols => intro c hc; have := h.2 c hc; omega
  | near i g => show i < xs.length; have := h.1; omega
  | ring i g => show i < xs.length; have := h.1; omega
  | asked i g => show i < xs.length; have := h.1; omega
  | table i m T =>
    obtain ⟨h1, h2, h3⟩ := h
    subst h2
    exact ⟨by omega, k2 i h1⟩
theorem R0.good.few {n : Nat} {r : R0} (h : r.good n) : r.few := by
  cases r with
  | key cols => show cols.length ≤ 1000; have := h.1; omega
  | near i g => exact True.intro
  | ring i g => exact True.intro
  | asked i g => exact True.intro
  | table i m T => exact True.intro
def sp__law_plan_by (K : PySem.W.Frag) (A : Ad) : Sp := fun vs H Q _ => ∃ (c : Int) (n : Nat), vs = [.int c, .int n] ∧ (1 ≤ n ∧ n ≤ 5) ∧
  ∀ (t : Addr) (r : R0) (H' : Hp), H t = none → Stp [] H H' → (∀ L, Took H L → PlanAt K (hid L H') t r) → r.good n → Q (.ref t) H'
theorem ok__law_plan_by {P : Program} {w : World} {K : PySem.W.Frag} {mg : Str → Option Value} {base : Heap} {A : Ad} {f : Addr} {fd : FuncData} (F : Fun K "_law_plan_by" "_law_plan_by" s__law_plan_by f fd) (T : Txt K mg A) (C__law_figures : SH.Cal P w K mg base CX0 1 "_law_figures" [] (sp__law_figures K A)) : FnOk P w K mg base CX0 2 f fd ["_law_cell", "_law_long"] (sp__law_plan_by K A) := by
  refine F.ok sc__law_plan_by (fun vs H Q E h => by obtain ⟨_, _, rfl, _⟩ := h; rfl) (fun cdv A' outer s H vs Q E hr h => ?_)
  obtain ⟨c, n, rfl, ⟨hn1, hn5⟩, k⟩ := h
  refine ⟨_, (pss_cons (ps_set (i := 2) sc__law_plan_by.nd rfl (Or.inl rfl) (pe_op SH.oMod (pe_op SH.oDiv (pv 0) pe_int) pe_int))
        (pss_cons (ps_if (pt_cmpR (SH.oEq hr.units) (pe_op SH.oMod (pv 0) pe_int) pe_int (nomark _)) (pss_cons (ps_set (i := 3) sc__law_plan_by.nd rfl (Or.inl rfl) (SH.pe_callF C__law_figures hr (by rfl) pass0 (pa_cons (pe_op SH.oDiv (pv 0) pe_int) (pa_cons (pe_op SH.oMod (pe_op SH.oDiv (pv 0) pe_int) pe_int) (pa_cons pe_int pa_nil)))))
        (pss_one (ps_ret (pe_tup (pa_cons pe_str (pa_cons (pe_lc (own := [("_law_one_here", 6)]) (g := (gName 6)) (tt := tYes) (by rfl) sc__law_plan_by.nd (pi_list (pv 3)) (blkOk_by (own := [("_law_one_here", 6)]) (N := ["_law_cell", "_law_long", "_law_at", "_law_some", "_law_bits", "_law_k", "_law_one_here", "_law_bit"]) (sc := defScope s__law_plan_by) (by decide +kernel)) (fun _ _ _ _ _ => (pg_name (i := 6) sc__law_plan_by.nd rfl (Or.inl rfl))) (fun _ _ _ _ _ => pts_nil) (fun _ _ _ _ _ => (pe_tup (pa_cons (pe_op SH.oDiv (pv 6) pe_int) (pa_cons (pe_ix (SH.ixK SH.aIx K SH.ixA) (pe_lst (pa_cons pe_str (pa_cons pe_str pa_nil))) (pe_op SH.oMod (pv 6) pe_int) (fun _ _ => rfl)) pa_nil))))) pa_nil)))))) pss_nil)
        (pss_cons (ps_if (pt_cmpR (SH.oEq hr.units) (pe_op SH.oMod (pv 0) pe_int) pe_int (nomark _)) (pss_one (ps_ret (pe_tup (pa_cons pe_str (pa_cons (pv 2) (pa_cons (pe_op SH.oMod (pe_op SH.oDiv (pv 0) pe_int) pe_int) pa_nil)))))) pss_nil)
        (pss_cons (ps_if (pt_cmpR (SH.oEq hr.units) (pe_op SH.oMod (pv 0) pe_int) pe_int (nomark _)) (pss_one (ps_ret (pe_tup (pa_cons pe_str (pa_cons (pv 2) (pa_cons (pe_op SH.oAdd pe_int (pe_op SH.oMod (pe_op SH.oDiv (pv 0) pe_int) pe_int)) pa_nil)))))) pss_nil)
        (pss_cons (ps_if (pt_cmpR (SH.oEq hr.units) (pe_op SH.oMod (pv 0) pe_int) pe_int (nomark _)) (pss_one (ps_ret (pe_tup (pa_cons pe_str (pa_cons (pv 2) (pa_cons (pe_op SH.oAdd pe_int (pe_op SH.oMod (pe_op SH.oDiv (pv 0) pe_int) pe_int)) pa_nil)))))) pss_nil)
        (pss_cons (ps_set (i := 4) sc__law_plan_by.nd rfl (Or.inr rfl) (SH.pe_callF C__law_figures hr (by rfl) pass0 (pa_cons (pe_op SH.oDiv (pv 0) pe_int) (pa_cons (pe_op SH.oMul (pv 1) (pv 1)) (pa_cons pe_int pa_nil)))))
        (pss_one (ps_ret (pe_tup (pa_cons pe_str (pa_cons (pv 2) (pa_cons (pe_lc (own := [("_law_k", 5)]) (g := (gName 5)) (tt := tYes) (by rfl) sc__law_plan_by.nd (pi_range1 (by rfl) T.z_range (pa_cons (pv 1) pa_nil)) (blkOk_by (own := [("_law_k", 5)]) (N := ["_law_cell", "_law_long", "_law_at", "_law_some", "_law_bits", "_law_k", "_law_one_here", "_law_bit"]) (sc := defScope s__law_plan_by) (by decide +kernel)) (fun _ _ _ _ _ => (pg_name (i := 5) sc__law_plan_by.nd rfl (Or.inl rfl))) (fun _ _ _ _ _ => pts_nil) (fun _ _ _ _ _ => (SH.peK (fun K => tLc (iList K (tSl (rSlL K) (tVar 4) (tPart (tOp SH.aMul (tVar 5) (tVar 1))) (tPart (tOp (SH.aAdd K) (tOp SH.aMul (tVar 5) (tVar 1)) (tVar 1))))) (gName 7) tYes (tOp (SH.aEq K) (tVar 7) (tC (V.int 1))) (List.map (fun x => x.2) [(("_law_bit" : Str), 7)])) K (pe_lc (own := [("_law_bit", 7)]) (g := (gName 7)) (tt := tYes) (by rfl) sc__law_plan_by.nd (pi_list (pe_slice (SH.slK rSlL K sl_list) (pv 4) (po_some (pe_op SH.oMul (pv 5) (pv 1))) (po_some (pe_op (SH.opK SH.aAdd K SH.oAdd) (pe_op SH.oMul (pv 5) (pv 1)) (pv 1))))) (by refine blkOk_by ?_; rfl) (fun _ _ _ _ _ => (pg_name (i := 7) sc__law_plan_by.nd rfl (Or.inl rfl))) (fun _ _ _ _ _ => pts_nil) (fun _ _ _ _ _ => (pe_cmpR (SH.opK SH.aEq K (SH.oEq hr.units)) (pv 7) pe_int (nomark _))))))) pa_nil)))))))))))), ?_⟩
  walk_at "begin"
  have a0 := Int.emod_nonneg (c / 5) (show (4 : Int) ≠ 0 by decide)
  have a1 := Int.emod_lt_of_pos (c / 5) (show (0 : Int) < 4 by decide)
  obtain ⟨i, hi⟩ := Int.eq_ofNat_of_zero_le a0
  have hi4 : i < 4 := by omega
  walk_at "rd"
  rw [hi]
  refine r_w (fun hc => ?_) fun hc => ?_
  · walk_at "rd"
    have m0 := Int.emod_nonneg (c / 20) (show (6 : Int) ≠ 0 by decide)
    have m1 := Int.emod_lt_of_pos (c / 20) (show (0 : Int) < 6 by decide)
    obtain ⟨m, hm⟩ := Int.eq_ofNat_of_zero_le m0
    rw [hm]
    refine ⟨_, m, 8, rfl, ⟨by decide, by decide, by omega⟩, fun q ms H1 hq S1 hq1 hml hms => ?_⟩
    walk_at "rd"
    intro D hD
    refine lc_it (walk_list (xs := ms.map V.int)) (fun j H' => Stp [] H1 H' ∧ ∃ (cvs : List V) (cols : List (Nat × Bool)), H' D = some (.lst cvs) ∧ (∀ L, Took H L → Cols K (hid (D :: L) H') cvs cols) ∧ cols.length = j ∧ ∀ c ∈ cols, c.1 < 4) ⟨(Stp.refl _ _).new hD, [], [], upd_same, fun L _ => ⟨rfl, fun i v e => by cases e⟩, rfl, by simp⟩ (fun j H' _ z => SqL.of (z.1.keep0 hq1)) ?_ ?_
    · rintro j x H2 H3 hj ⟨S, cvs, cols, hL, hC, hcl, hc4⟩ ⟨rfl, hx⟩
      obtain ⟨o, ho, rfl⟩ := map_at hx
      obtain ⟨o0, o1⟩ := hms o (List.mem_of_getElem? ho)
      rw [List.length_map] at hj
      obtain ⟨ko, hko⟩ := Int.eq_ofNat_of_zero_le (show 0 ≤ o / 2 by omega)
      have hcv := (hC [] Took.nil).1
      walk_at "rd"
      rw [hko]
      intro w hw
      walk_at "rd"
      refine v_ixMod (m := 2) (SqL.of upd_same) rfl (by decide) fun v hv => ?_
      obtain ⟨b, rfl⟩ : ∃ b, v = .str (wayS b) := by
        simp at hv
        rcases hv with rfl | rfl
        · exact ⟨true, rfl⟩
        · exact ⟨false, rfl⟩
      walk_at "rd"
      intro t ht
      have Sx : Stp [] H3 (upd (upd H3 w (.lst [.str "up", .str "down"])) t (.tup [.int ko, .str (wayS b)])) := ((Stp.refl [] H3).new hw).new ht
      have ntD : t ≠ D := (ne_of_none (upd_old hL hw) ht).symm
      refine ⟨cvs, upd_old (upd_old hL hw) ht, Nat.lt_of_le_of_lt (m := 1000) (by omega) (by decide), (S.trans Sx).putN hD, cvs ++ [.ref t], cols ++ [(ko, b)], upd_same, fun L hT => ?_, by simp [hcl], fun c hc => ?_⟩
      · rw [hid_upd (List.mem_cons_self ..)]
        have hC' := (hC L hT).stp (hid_mono Sx (L := D :: L))
        have htn : H t = none := S1.dom _ (S.dom _ (upd_free ht).1)
        refine ⟨by simp [hC'.1], fun i v e => ?_⟩
        by_cases hi : i < cvs.length
        · rw [List.getElem?_append_left hi] at e
          obtain ⟨t', c', z1, z2, z3⟩ := hC'.2 i v e
          exact ⟨t', c', z1, by rw [List.getElem?_append_left (by omega)]; exact z2, z3⟩
        · rw [List.getElem?_append_right (by omega)] at e
          have : i - cvs.length = 0 := by
            cases h : i - cvs.length with
            | zero => rfl
            | succ m => rw [h] at e; cases e
          rw [this] at e
          cases e
          refine ⟨t, (ko, b), rfl, by rw [List.getElem?_append_right (by omega), show i - cols.length = 0 by omega]; rfl, hid_at (fun z => ?_) upd_same⟩
          rcases List.mem_cons.mp z with z | z
          · exact ntD z
          · exact hT.not htn z
      · rcases List.mem_append.mp hc with z | z
        · exact hc4 c z
        · rw [List.mem_singleton] at z; subst z; show ko < 4; omega
    rintro H2 ⟨S, cvs, cols, hL, hC, hcl, hc4⟩
    rw [List.length_map] at hcl
    have S02 := S1.trans S
    walk_at "rd"
    intro t ht
    refine k t (.key cols) _ (S02.dom _ ht) (S02.new ht) (fun L hT => ⟨D, cvs, hid_at (hT.not (S02.dom _ ht)) upd_same, hid_at (hT.not (S1.dom _ hD)) (upd_old hL ht), ?_⟩) ⟨by omega, hc4⟩
    exact ((hC L hT).stp (hid_drop fun b hb => List.mem_cons_of_mem _ hb)).stp (hid_mono ((Stp.refl [] H2).new ht))
  walk_at "rd"
  refine r_w (fun hc => ?_) fun hc => ?_
  · walk_at "rd"
    intro t ht
    exact k t (.near i (c / 20 % 4)) _ ht ((Stp.refl [] H).new ht) (fun L hT => hid_at (hT.not ht) upd_same) ⟨hi4, Int.emod_nonneg _ (by decide)⟩
  walk_at "rd"
  refine r_w (fun hc => ?_) fun hc => ?_
  · walk_at "rd"
    intro t ht
    exact k t (.ring i (1 + c / 20 % 7)) _ ht ((Stp.refl [] H).new ht) (fun L hT => hid_at (hT.not ht) upd_same) ⟨hi4, by have := Int.emod_nonneg (c / 20) (show (7 : Int) ≠ 0 by decide); omega⟩
  walk_at "rd"
  refine r_w (fun hc => ?_) fun hc => ?_
  · walk_at "rd"
    intro t ht
    exact k t (.asked i (2 + c / 20 % 3)) _ ht ((Stp.refl [] H).new ht) (fun L hT => hid_at (hT.not ht) upd_same) ⟨hi4, by have := Int.emod_nonneg (c / 20) (show (3 : Int) ≠ 0 by decide); omega⟩
  walk_at "rd"
  refine ⟨_, n * n, 2, rfl, ⟨by decide, by decide, by have := Nat.mul_le_mul hn5 hn5; omega⟩, fun q ms H1 hq S1 hq1 hml hms => ?_⟩
  walk_at "rd"
  intro D hD
  let T : Nat → Nat → Bool := fun a b => decide (getE ms (a * n + b) = 1)
  refine lc_it walk_range (fun j H' => Stp [] H1 H' ∧ ∃ gvs : List V, H' D = some (.lst gvs) ∧ ∀ L, Took H L → GMat (hid (D :: L) H') gvs j n T) ⟨(Stp.refl _ _).new hD, [], upd_same, fun L _ => ⟨rfl, fun i v e => by cases e⟩⟩ (fun _ _ _ _ => True.intro) ?_ ?_
  · rintro j x H2 H3 hj ⟨S, gvs, hL, hG⟩ ⟨rfl, rfl⟩
    simp only [Int.zero_add]
    have hjn : j < n := by omega
    have hgl := (hG [] Took.nil).len
    have hb5 : j * n + n ≤ ms.length := by
      rw [hml]
      have := Nat.mul_le_mul_right n (show j + 1 ≤ n by omega)
      rw [Nat.add_mul] at this
      omega
    have hm64 : IntMulOk (j : Int) (n : Int) := SH.mul64 ⟨by omega, by omega⟩ ⟨by omega, by omega⟩
    walk_at "rd"
    intro w hw
    have ecut : cutV (ms.map V.int) (some ((j : Int) * (n : Int))) (some ((j : Int) * (n : Int) + (n : Int))) = (((ms.drop (j * n)).take n).map V.int) := by
      rw [cut_map, show (j : Int) * (n : Int) = ((j * n : Nat) : Int) from (Int.natCast_mul j n).symm, show ((j * n : Nat) : Int) + (n : Int) = ((j * n + n : Nat) : Int) by omega, cutL_span, Nat.add_sub_cancel_left]
    rw [ecut]
    have hxl : ((ms.drop (j * n)).take n).length = n := by rw [List.length_take, List.length_drop]; omega
    have hxe : ∀ i, i < n → getE ((ms.drop (j * n)).take n) i = getE ms (j * n + i) := fun i hi => by
      unfold getE
      simp only [List.getD]
      rw [List.getElem?_take, if_pos hi, List.getElem?_drop]
    generalize (ms.drop (j * n)).take n = xs at hxl hxe ⊢
    have S4 := (Stp.refl [] H3).new (o := .lst (xs.map V.int)) hw
    have hw4 := upd_same (H := H3) (a := w) (o := .lst (xs.map V.int))
    have hL4 := S4.keep0 hL
    generalize upd H3 w (.lst (xs.map V.int)) = H4 at S4 hw4 hL4 ⊢
    walk_at "rd"
    intro F hF
    refine lc_it (walk_list (xs := xs.map V.int)) (fun i H' => Stp [] H4 H' ∧ H' F = some (.lst (gB i (T j)))) ⟨(Stp.refl _ _).new hF, upd_same⟩ (fun i H' _ z => SqL.of (z.1.keep0 hw4)) ?_ ?_
    · rintro i x H5 H6 hi ⟨S6, hF6⟩ ⟨rfl, hx⟩
      obtain ⟨m, hm, rfl⟩ := map_at hx
      rw [List.length_map] at hi
      walk_at "rd"
      refine ⟨_, hF6, Nat.lt_of_le_of_lt (m := 1000) (by simp [gB]; omega) (by decide), S6.putN hF, ?_⟩
      rw [upd_same]
      unfold gB
      rw [List.range_succ, List.map_append]
      have e : getE xs i = m := by unfold getE; simp [List.getD, hm]
      rw [hxe i (by omega)] at e
      show _ = some (HO.lst (_ ++ [V.bl (decide (getE ms (j * n + i) = 1))]))
      rw [e]
    rintro H5 ⟨S5, hF5⟩
    rw [List.length_map, hxl] at hF5
    have S35 := S4.trans S5
    have hL5 := S35.keep0 hL
    have hF3 : H3 F = none := S4.dom _ hF
    have nFD : F ≠ D := (ne_of_none hL hF3).symm
    have hFH : H F = none := S1.dom _ (S.dom _ hF3)
    refine ⟨gvs, hL5, Nat.lt_of_le_of_lt (m := 1000) (by omega) (by decide), (S.trans S35).putN hD, gvs ++ [.ref F], upd_same, fun L hT => ?_⟩
    rw [hid_upd (List.mem_cons_self ..)]
    have hG' := (hG L hT).stp0 (hid_mono S35 (L := D :: L))
    refine ⟨by simp [hgl], fun i v e => ?_⟩
    by_cases hi : i < gvs.length
    · rw [List.getElem?_append_left hi] at e
      exact hG'.at_ i v e
    · rw [List.getElem?_append_right (by omega)] at e
      have : i - gvs.length = 0 := by
        cases h : i - gvs.length with
        | zero => rfl
        | succ m => rw [h] at e; cases e
      rw [this] at e
      cases e
      refine ⟨F, rfl, ?_⟩
      rw [show i = j by omega]
      refine hid_at (fun z => ?_) hF5
      rcases List.mem_cons.mp z with z | z
      · exact nFD z
      · exact hT.not hFH z
  · rintro H2 ⟨S, gvs, hL, hG⟩
    rw [show ((n : Int)).toNat = n by omega] at hG
    have S02 := S1.trans S
    walk_at "rd"
    intro t ht
    refine k t (.table i n T) _ (S02.dom _ ht) (S02.new ht) (fun L hT => ⟨D, gvs, hid_at (hT.not (S02.dom _ ht)) upd_same, hid_at (hT.not (S1.dom _ hD)) (upd_old hL ht), ?_⟩) ⟨hi4, rfl, hn5⟩
    exact ((hG L hT).stp0 (hid_drop fun b hb => List.mem_cons_of_mem _ hb)).stp0 (hid_mono ((Stp.refl [] H2).new ht))
/-! ### rules by plans -/
theorem hid_ext {L : List Addr} {H H' : Hp} (e : ExtN H H') : ExtN (hid L H) (hid L H') := fun b o h n => by
  unfold hid at h ⊢
  by_cases hb : b ∈ L
  · rw [if_pos hb] at h; cases h
  · rw [if_neg hb] at h ⊢; exact e b o h n
/-- the addresses of a list are lists -/
def Lsts (H : Hp) (L : List Addr) : Prop := ∀ D ∈ L, ∃ vs, H D = some (.lst vs)
theorem Lsts.ext {H H' : Hp} {L : List Addr} (h : Lsts H L) (e : ExtN H H') : Lsts H' L := fun D hD => by obtain ⟨vs, h⟩ := h D hD; exact ⟨vs, ext_lst e h⟩
theorem Lsts.not {H : Hp} {L : List Addr} {b : Addr} (h : Lsts H L) (k : H b = none) : b ∉ L := fun z => by obtain ⟨vs, h⟩ := h b z; rw [k] at h; cases h
theorem Lsts.no {H : Hp} {L : List Addr} {b : Addr} {o : HO} (h : Lsts H L) (k : H b = some o) (n : ∀ vs, o ≠ .lst vs) : b ∉ L := fun z => by obtain ⟨vs, h⟩ := h b z; rw [k] at h; cases h; exact n vs rfl
theorem Lsts.nil {H : Hp} : Lsts H [] := fun D hD => by cases hD
theorem Lsts.cons {H : Hp} {L : List Addr} {D : Addr} {vs : List V} (h : Lsts H L) (k : H D = some (.lst vs)) : Lsts H (D :: L) := fun E hE => by
  rcases List.mem_cons.mp hE with rfl | z
  · exact ⟨vs, k⟩
  · exact h E z
theorem clo_hid {L : List Addr} {H : Hp} {f c' : Addr} {ws : List V} {cl : List (Str × Addr)} (h : Clo1 H f ws cl c') (hL : Lsts H L) : Clo1 (hid L H) f ws cl c' := by
  have nl : ∀ {b : Addr} {o : HO}, H b = some o → (∀ vs, o ≠ .lst vs) → hid L H b = some o := fun {b o} e n => hid_at (hL.no e n) e
  refine ⟨nl h.fn (by intro ps z; cases z), nl h.code (by intro ps z; cases z), h.len, fun y a e => ?_, h.inj, fun i y e => ?_⟩
  · obtain ⟨v, k⟩ := h.cells y a e
    exact ⟨v, nl k (by intro ps z; cases z)⟩
  · obtain ⟨a, v, h1, h2, h3⟩ := h.has i y e
    exact ⟨a, v, h1, h2, nl h3 (by intro ps z; cases z)⟩
theorem cols_hid {K : PySem.W.Frag} {L : List Addr} {H : Hp} {cvs : List V} {cols : List (Nat × Bool)} (h : Cols K H cvs cols) (hL : Lsts H L) : Cols K (hid L H) cvs cols :=
  ⟨h.1, fun j v e => by obtain ⟨t, c, h1, h2, h3⟩ := h.2 j v e; exact ⟨t, c, h1, h2, hid_at (hL.no h3 (by intro vs z; cases z)) h3⟩⟩
theorem dpall_at {K : PySem.W.Frag} {H : Hp} : ∀ {us : List V} {ds : List PyData}, us.length = ds.length → (∀ (i : Nat) (v : V), us[i]? = some v → ∃ d, ds[i]? = some d ∧ Dp K H v d) → DpAll K H us ds
  | [], [], _, _ => .nil
  | [], _ :: _, h, _ => by cases h
  | _ :: _, [], h, _ => by cases h
  | u :: us, d :: ds, h, k => by
    obtain ⟨d', e1, e2⟩ := k 0 u rfl
    cases e1
    exact .cons e2 (dpall_at (by simpa using h) fun i v e => k (i + 1) v e)
def sp__law_rule_of (K : PySem.W.Frag) (A : Ad) : Sp := fun vs H Q _ => ∃ (t : Addr) (r : R0) (n : Nat), vs = [.ref t] ∧ (PlanAt K H t r ∧ r.good n ∧ TabsN (Tb A) H ∧ 1 ≤ n) ∧
  ∀ (u : Addr) (H' : Hp), ExtN H H' → (∀ b, H' b = none → H b = none) → TabsN (Tb A) H' → (∀ L, Lsts H L → R0.At K A (hid L H') u r) → Q (.ref u) H'
theorem kinds_is : decide (("keys" : Str) = "keys") = true ∧ decide (("near" : Str) = "keys") = false ∧ decide (("near" : Str) = "near") = true ∧ decide (("ring" : Str) = "keys") = false ∧ decide (("ring" : Str) = "near") = false ∧ decide (("ring" : Str) = "ring") = true ∧
    decide (("asked" : Str) = "keys") = false ∧ decide (("asked" : Str) = "near") = false ∧ decide (("asked" : Str) = "ring") = false ∧ decide (("asked" : Str) = "asked") = true ∧
    decide (("table" : Str) = "keys") = false ∧ decide (("table" : Str) = "near") = false ∧ decide (("table" : Str) = "ring") = false ∧ decide (("table" : Str) = "asked") = false := by decide +kernel
theorem ok__law_rule_of {P : Program} {w : World} {K : PySem.W.Frag} {mg : Str → Option Value} {base : Heap} {A : Ad} {f : Addr} {fd : FuncData} (F : Fun K "_law_rule_of" "_law_rule_of" s__law_rule_of f fd) (T : Txt K mg A) (C__law_teller : SH.Cal P w K mg base CX0 1 "_law_teller" [] (sp__law_teller K A)) (N_AskedRule : SH.CalC P w K mg base CX0 1 "AskedRule" A.AskedRule [] (sp_AskedRule___init__ K A)) (N_KeyRule : SH.CalC P w K mg base CX0 2 "KeyRule" A.KeyRule [] (sp_KeyRule___init__ K A)) (N_NearRule : SH.CalC P w K mg base CX0 2 "NearRule" A.NearRule [] (sp_NearRule___init__ K A)) (N_RingRule : SH.CalC P w K mg base CX0 2 "RingRule" A.RingRule [] (sp_RingRule___init__ K A)) (N_TableRule : SH.CalC P w K mg base CX0 2 "TableRule" A.TableRule [] (sp_TableRule___init__ K A)) : FnOk P w K mg base CX0 4 f fd ["_law_plan"] (sp__law_rule_of K A) := by
  refine F.ok sc__law_rule_of (fun vs H Q E h => by obtain ⟨_, _, _, rfl, _⟩ := h; rfl) (fun cdv A' outer s H vs Q E hr h => ?_)
  obtain ⟨t, r, n, rfl, ⟨hP, hg, hTb, hn1⟩, k⟩ := h
  refine ⟨_, (pss_cons (ps_if (pt_cmpR (SH.oEq hr.units) (pe_ix SH.ixA (pv 0) pe_int (fun _ _ => rfl)) pe_str (nomark _)) (pss_one (ps_ret (SH.pe_makeF N_KeyRule hr (by rfl) pass0 (pa_cons (pe_callTy SH.cListOf (by rfl) T.z_list (by decide +kernel) (pa_cons (pe_ix SH.ixA (pv 0) pe_int (fun _ _ => rfl)) pa_nil)) pa_nil)))) pss_nil)
        (pss_cons (ps_if (pt_cmpR (SH.oEq hr.units) (pe_ix SH.ixA (pv 0) pe_int (fun _ _ => rfl)) pe_str (nomark _)) (pss_one (ps_ret (SH.pe_makeF N_NearRule hr (by rfl) pass0 (pa_cons (pe_ix SH.ixA (pv 0) pe_int (fun _ _ => rfl)) (pa_cons (pe_ix SH.ixA (pv 0) pe_int (fun _ _ => rfl)) pa_nil))))) pss_nil)
        (pss_cons (ps_if (pt_cmpR (SH.oEq hr.units) (pe_ix SH.ixA (pv 0) pe_int (fun _ _ => rfl)) pe_str (nomark _)) (pss_one (ps_ret (SH.pe_makeF N_RingRule hr (by rfl) pass0 (pa_cons (pe_ix SH.ixA (pv 0) pe_int (fun _ _ => rfl)) (pa_cons (pe_ix SH.ixA (pv 0) pe_int (fun _ _ => rfl)) pa_nil))))) pss_nil)
        (pss_cons (ps_if (pt_cmpR (SH.oEq hr.units) (pe_ix SH.ixA (pv 0) pe_int (fun _ _ => rfl)) pe_str (nomark _)) (pss_one (ps_ret (SH.pe_makeF N_AskedRule hr (by rfl) pass0 (pa_cons (SH.pe_callF C__law_teller hr (by rfl) pass0 (pa_cons (pe_ix SH.ixA (pv 0) pe_int (fun _ _ => rfl)) (pa_cons (pe_ix SH.ixA (pv 0) pe_int (fun _ _ => rfl)) pa_nil))) pa_nil)))) pss_nil)
        (pss_cons (ps_setLc (i := 1) (own := [("_law_truths", 3)]) (g := (gName 3)) (tt := tYes) (by rfl) sc__law_rule_of.nd rfl rfl (sw_true rfl rfl rfl (by decide +kernel)) (pi_list (pe_ix SH.ixA (pv 0) pe_int (fun _ _ => rfl))) (blkOk_by (own := [("_law_truths", 3)]) (N := ["_law_plan", "_law_table", "_law_rule", "_law_truths"]) (sc := defScope s__law_rule_of) (by decide +kernel)) (fun _ _ _ _ _ => (pg_name (i := 3) sc__law_rule_of.nd rfl (Or.inl rfl))) (fun _ _ _ _ _ => pts_nil) (fun _ _ _ _ _ => (pe_callTy (SH.crK SH.rListOf K SH.cListOf) (by rfl) T.z_list (by decide +kernel) (pa_cons (pv 3) pa_nil))))
        (pss_cons (ps_set (i := 2) sc__law_rule_of.nd rfl (Or.inl rfl) (SH.pe_makeF N_TableRule hr (by rfl) pass0 (pa_cons (pe_ix SH.ixA (pv 0) pe_int (fun _ _ => rfl)) (pa_cons (pv 1) pa_nil))))
        (pss_cons (ps_if (pt_cmpR (SH.oNe hr.units) (pv 1) (pe_ix SH.ixA (pv 0) pe_int (fun _ _ => rfl)) (nomark _)) (pss_one (ps_ret pe_non)) pss_nil)
        (pss_cons (ps_expr (pe_bm0 PySem.F.plainAttrs_list PySem.F.slot_list_clear PySem.F.type_list_clear mt_clear (pe_ix SH.ixA (pv 1) pe_int (fun _ _ => rfl))))
        (pss_cons (ps_expr (pe_bm0 PySem.F.plainAttrs_list PySem.F.slot_list_clear PySem.F.type_list_clear mt_clear (pv 1)))
        (pss_one (ps_ret (pv 2)))))))))))), ?_⟩
  walk_at "begin"
  obtain ⟨e1, e2, e3, e4, e5, e6, e7, e8, e9, e10, e11, e12, e13, e14⟩ := kinds_is
  walk_at "rd"
  have fin : ∀ (u : Addr) (H' : Hp), Stp [] H H' → (∀ L, Lsts H L → R0.At K A (hid L H') u r) → Q (.ref u) H' := fun u H' S hA => k u H' (stp_ext S) S.dom (tabs_stp hTb S) hA
  cases r with
  | key cols =>
    obtain ⟨l, cvs, ht, hl, hC⟩ := hP
    refine v_ixTn (n := 0) (SqT.of ht) rfl rfl ?_
    walk_at "rd"
    refine v_eqS ?_
    rw [e1]
    walk_at "rd"
    refine v_ixTn (n := 1) (SqT.of ht) rfl rfl ?_
    walk_at "rd"
    intro q hq
    have S1 := (Stp.refl [] H).new (o := .lst cvs) hq
    have hq1 := upd_same (H := H) (a := q) (o := .lst cvs)
    generalize upd H q (.lst cvs) = H1 at S1 hq1 ⊢
    walk_at "rd"
    intro u du hu hdu hne
    have S2 : Stp [] H1 (upd (upd H1 du (.own u)) u (.ins A.KeyRule du [])) := ((Stp.refl [] H1).new hdu).new (by rw [upd_ne hne.symm]; exact hu)
    refine ⟨u, q, cvs, cols, rfl, ⟨du, upd_same⟩, ⟨S2.sql0 (SqL.of hq1), (hC.stp S1).stp S2, by have := hg.1; omega, fun c hc => by have := hg.2 c hc; omega⟩, fun dx l' H3 hl' hul hu3 hl3 S3 => ⟨rfl, ?_⟩⟩
    have S13 : Stp [] H1 H3 := S2.then S3 (by simp; exact hu)
    have S := S1.trans S13
    exact fin u H3 S fun L hL => .key (hid_at (hL.not (S1.dom _ hu)) hu3) (hid_at (hL.not (S1.dom _ (S2.dom _ hl'))) hl3) (cols_hid (hC.stp S) (hL.ext (stp_ext S)))
  | near i g =>
    have ht : H t = some (.tup [.str "near", .int i, .int g]) := hP
    refine v_ixTn (n := 0) (SqT.of ht) rfl rfl ?_
    walk_at "rd"
    refine v_eqS ?_
    rw [e2]
    walk_at "rd"
    refine v_ixTn (n := 0) (SqT.of ht) rfl rfl ?_
    walk_at "rd"
    refine v_eqS ?_
    rw [e3]
    walk_at "rd"
    refine v_ixTn (n := 1) (SqT.of ht) rfl rfl ?_
    walk_at "rd"
    refine v_ixTn (n := 2) (SqT.of ht) rfl rfl ?_
    walk_at "rd"
    intro u du hu hdu hne
    have hi := hg.1
    refine ⟨u, i, g, rfl, ⟨du, upd_same⟩, ⟨by omega, by omega, hg.2⟩, fun dx => ⟨rfl, ?_⟩⟩
    rw [upd_upd]
    have S : Stp [] H (upd (upd H du (.own u)) u (.ins A.NearRule dx [("at", .int i), ("gap", .int g)])) := ((Stp.refl [] H).new hdu).new (by rw [upd_ne hne.symm]; exact hu)
    exact fin u _ S fun L hL => .near (hid_at (hL.not hu) upd_same)
  | ring i m =>
    have ht : H t = some (.tup [.str "ring", .int i, .int m]) := hP
    refine v_ixTn (n := 0) (SqT.of ht) rfl rfl ?_
    walk_at "rd"
    refine v_eqS ?_
    rw [e4]
    walk_at "rd"
    refine v_ixTn (n := 0) (SqT.of ht) rfl rfl ?_
    walk_at "rd"
    refine v_eqS ?_
    rw [e5]
    walk_at "rd"
    refine v_ixTn (n := 0) (SqT.of ht) rfl rfl ?_
    walk_at "rd"
    refine v_eqS ?_
    rw [e6]
    walk_at "rd"
    refine v_ixTn (n := 1) (SqT.of ht) rfl rfl ?_
    walk_at "rd"
    refine v_ixTn (n := 2) (SqT.of ht) rfl rfl ?_
    walk_at "rd"
    intro u du hu hdu hne
    have hi := hg.1
    refine ⟨u, i, m, rfl, ⟨du, upd_same⟩, ⟨by omega, by omega, hg.2⟩, fun dx => ⟨rfl, ?_⟩⟩
    rw [upd_upd]
    have S : Stp [] H (upd (upd H du (.own u)) u (.ins A.RingRule dx [("at", .int i), ("size", .int m)])) := ((Stp.refl [] H).new hdu).new (by rw [upd_ne hne.symm]; exact hu)
    exact fin u _ S fun L hL => .ring (hid_at (hL.not hu) upd_same) hg.2
  | asked i m =>
    have ht : H t = some (.tup [.str "asked", .int i, .int m]) := hP
    refine v_ixTn (n := 0) (SqT.of ht) rfl rfl ?_
    walk_at "rd"
    refine v_eqS ?_
    rw [e7]
    walk_at "rd"
    refine v_ixTn (n := 0) (SqT.of ht) rfl rfl ?_
    walk_at "rd"
    refine v_eqS ?_
    rw [e8]
    walk_at "rd"
    refine v_ixTn (n := 0) (SqT.of ht) rfl rfl ?_
    walk_at "rd"
    refine v_eqS ?_
    rw [e9]
    walk_at "rd"
    refine v_ixTn (n := 0) (SqT.of ht) rfl rfl ?_
    walk_at "rd"
    refine v_eqS ?_
    rw [e10]
    walk_at "rd"
    refine v_ixTn (n := 1) (SqT.of ht) rfl rfl ?_
    walk_at "rd"
    refine v_ixTn (n := 2) (SqT.of ht) rfl rfl ?_
    walk_at "rd"
    refine ⟨.int i, .int m, rfl, hTb, fun f' H6 cl c' hE hdom hTb6 hf6 hC6 => ?_⟩
    walk_at "rd"
    intro u du hu hdu hne
    refine ⟨u, .ref f', rfl, ⟨du, upd_same⟩, fun dx => ⟨rfl, ?_⟩⟩
    rw [upd_upd]
    have S7 : Stp [] H6 (upd (upd H6 du (.own u)) u (.ins A.AskedRule dx [("teller", .ref f')])) := ((Stp.refl [] H6).new hdu).putN hu
    have hu7 : upd (upd H6 du (.own u)) u (.ins A.AskedRule dx [("teller", .ref f')]) u = some (.ins A.AskedRule dx [("teller", .ref f')]) := upd_same
    have e7 := hE.trans (stp_ext S7)
    exact k u _ e7 (fun b h => hdom b (S7.dom b h)) (tabs_stp hTb6 S7) fun L hL => .asked (hid_at (hL.not (hdom _ hu)) hu7) (clo_hid (hC6.step S7) (hL.ext e7)) hg.2
  | table i n' G =>
    obtain ⟨hi, rfl, hn5⟩ := hg
    obtain ⟨l, gvs, ht, hl, hG⟩ := hP
    refine v_ixTn (n := 0) (SqT.of ht) rfl rfl ?_
    walk_at "rd"
    refine v_eqS ?_
    rw [e11]
    walk_at "rd"
    refine v_ixTn (n := 0) (SqT.of ht) rfl rfl ?_
    walk_at "rd"
    refine v_eqS ?_
    rw [e12]
    walk_at "rd"
    refine v_ixTn (n := 0) (SqT.of ht) rfl rfl ?_
    walk_at "rd"
    refine v_eqS ?_
    rw [e13]
    walk_at "rd"
    refine v_ixTn (n := 0) (SqT.of ht) rfl rfl ?_
    walk_at "rd"
    refine v_eqS ?_
    rw [e14]
    walk_at "rd"
    refine v_ixTn (n := 2) (SqT.of ht) rfl rfl ?_
    walk_at "rd"
    have hgl := hG.len
    intro D hD
    have S0 := (Stp.refl [] H).new (o := .lst []) hD
    refine lc_it (walk_list (xs := gvs)) (fun j H' => Stp [D] (upd H D (.lst [])) H' ∧ ∃ hvs, H' D = some (.lst hvs) ∧ GMat H' hvs j n' G ∧ ∀ g, V.ref g ∈ hvs → H g = none ∧ g ≠ D) ⟨.refl _ _, [], upd_same, ⟨rfl, fun i v e => by cases e⟩, by simp⟩ (fun j H' _ z => SqL.of (z.1.keep1 (S0.keep0 hl) (ne_of_none hl hD))) ?_ ?_
    · rintro j v H4 H5 hj ⟨S, hvs, hL, hG5, hfr⟩ ⟨rfl, hv⟩
      obtain ⟨g, rfl, hg⟩ := hG.at_ j v hv
      have hg5 := S.keep1 (S0.keep0 hg) (ne_of_none hg hD)
      walk_at "rd"
      intro p hp
      have npD : p ≠ D := (ne_of_none hL hp).symm
      have hvl := hG5.len
      have S5 : Stp [D] H5 (upd (upd H5 p (.lst (gB n' (G j)))) D (.lst (hvs ++ [.ref p]))) := ((Stp.refl [D] H5).new hp).putL (by simp) (upd_old hL hp)
      refine ⟨hvs, upd_old hL hp, Nat.lt_of_le_of_lt (m := 1000) (by omega) (by decide), S.trans S5, hvs ++ [.ref p], upd_same, ⟨by simp [hvl], fun i' v' e => ?_⟩, ?_⟩
      · by_cases hi' : i' < hvs.length
        · rw [List.getElem?_append_left hi'] at e
          obtain ⟨g', rfl, hg'⟩ := hG5.at_ i' v' e
          exact ⟨g', rfl, S5.keep1 hg' (hfr g' (List.mem_of_getElem? e)).2⟩
        · rw [List.getElem?_append_right (by omega)] at e
          have : i' - hvs.length = 0 := by
            cases h : i' - hvs.length with
            | zero => rfl
            | succ m => rw [h] at e; cases e
          rw [this] at e
          cases e
          refine ⟨p, rfl, ?_⟩
          rw [show i' = j by omega]
          exact upd_far npD upd_same
      · intro g' hg'
        rw [List.mem_append] at hg'
        rcases hg' with z | z
        · exact hfr g' z
        · rw [List.mem_singleton] at z
          cases z
          exact ⟨(upd_free (S.dom p hp)).1, npD⟩
    rintro H2 ⟨S, hvs, hL, hG2, hfr⟩
    rw [hgl] at hG2
    have S02 : Stp [] H H2 := S0.then S (by simp; exact hD)
    have hhl := hG2.len
    obtain ⟨g0, e0, hg0⟩ := hG2.get (i := 0) (by omega)
    have hg0f := hfr g0 (List.mem_of_getElem? e0)
    walk_at "rd"
    refine v_ixTn (n := 1) (SqT.of (S02.tup ht)) rfl rfl ?_
    walk_at "rd"
    intro u du hu hdu hne
    have S5 : Stp [] H2 (upd (upd H2 du (.own u)) u (.ins A.TableRule du [])) := ((Stp.refl [] H2).new hdu).new (by rw [upd_ne hne.symm]; exact hu)
    refine ⟨u, D, i, hvs, n', G, rfl, ⟨du, upd_same⟩, ⟨by omega, by omega, S5.keep0 hL, hG2.stp0 S5, by omega⟩, fun dx l3 ivs H3 hl3 hul hu3 hl33 hG3 S3 hfr3 => ⟨rfl, ?_⟩⟩
    have S23 : Stp [] H2 H3 := S5.then S3 (by simp; exact hu)
    have S03 := S02.trans S23
    have hD3 := S23.keep0 hL
    have hg03 := S23.keep0 hg0
    have hl2n : H2 l3 = none := S5.dom _ hl3
    have hin : ∀ g, V.ref g ∈ ivs → H2 g = none := fun g hg => S5.dom _ (hfr3 g hg)
    walk_at "rd"
    refine v_ixTn (n := 2) (SqT.of (S03.tup ht)) rfl rfl ?_
    walk_at "rd"
    have isM : ∀ (H' : Hp) (ws : List V), GMat H' ws n' n' G → SH.IsL K H' ws ((List.range n').map fun p => (List.range n').map (G p)) := fun H' ws hM => by
      refine dpall_at (by simp [hM.len]) fun i v e => ?_
      obtain ⟨g, rfl, hg⟩ := hM.at_ i v e
      have hi' : i < n' := by have := (List.getElem?_eq_some_iff.mp e).1; rw [hM.len] at this; exact this
      refine ⟨Enc.d ((List.range n').map (G i)), ?_, ?_⟩
      · rw [List.getElem?_map, List.getElem?_map, List.getElem?_range hi']; rfl
      · have eg : gB n' (G i) = ((List.range n').map (G i)).map V.bl := by unfold gB; rw [List.map_map]; rfl
        rw [eg] at hg
        exact is_lst (SqL.of hg) isl_bls
    refine v_neE (is_lst (SqL.of hD3) (isM H3 hvs (hG2.stp0 S23))) (is_lst (SqL.of (S03.keep0 hl)) (isM H3 gvs (hG.stp0 S03))) ?_
    rw [@decide_eq_true _ (Enc.dec _ _) rfl]
    walk_at "rd"
    refine v_ixLn (n := 0) (SqL.of hD3) rfl e0 ?_
    refine ⟨ty_list hg03, ?_⟩
    walk_at "rd"
    refine v_clear hg03 ?_
    walk_at "rd"
    have hD4 := upd_far (u := .lst []) hg0f.2.symm hD3
    refine ⟨ty_list hD4, ?_⟩
    walk_at "rd"
    refine v_clear hD4 ?_
    walk_at "rd"
    have n1 : u ≠ g0 := (ne_of_none hg0 hu).symm
    have n2 : u ≠ D := (ne_of_none hL hu).symm
    have n3 : l3 ≠ g0 := (ne_of_none hg0 hl2n).symm
    have n4 : l3 ≠ D := (ne_of_none hL hl2n).symm
    have SE : Stp [] H (upd (upd H3 g0 (.lst [])) D (.lst [])) := (S03.putN hg0f.1).putN hD
    refine fin u _ SE fun L hL' => .table (hid_at (hL'.not (S02.dom _ hu)) (by rw [upd_ne n2, upd_ne n1]; exact hu3)) (hid_at (hL'.not (S02.dom _ hl2n)) (by rw [upd_ne n4, upd_ne n3]; exact hl33)) ⟨hG3.len, fun j v e => ?_⟩
    obtain ⟨g, rfl, hg⟩ := hG3.at_ j v e
    have hgn := hin g (List.mem_of_getElem? e)
    refine ⟨g, rfl, hid_at (hL'.not (S02.dom _ hgn)) ?_⟩
    rw [upd_ne (ne_of_none hL hgn).symm, upd_ne (ne_of_none hg0 hgn).symm]
    exact hg

/-! ### what is told, by each rule's own sentence -/
def sp__law_one (K : PySem.W.Frag) (A : Ad) : Sp := fun vs H Q _ => ∃ (t x y : Addr) (r : R0) (n : Nat) (xs ys : List Int), vs = [.ref t, .ref x, .ref y] ∧ (PlanAt K H t r ∧ r.good n ∧ H x = some (.tup (xs.map V.int)) ∧ H y = some (.tup (ys.map V.int)) ∧ Thg n xs ∧ Thg n ys) ∧ Q (.bl (r.b xs ys)) H
theorem ok__law_one {P : Program} {w : World} {K : PySem.W.Frag} {mg : Str → Option Value} {base : Heap} {A : Ad} {f : Addr} {fd : FuncData} (F : Fun K "_law_one" "_law_one" s__law_one f fd) (T : Txt K mg A)  : FnOk P w K mg base CX0 1 f fd ["_law_plan", "_law_x", "_law_y"] (sp__law_one K A) := by
  refine F.ok sc__law_one (fun vs H Q E h => by obtain ⟨_, _, _, _, _, _, _, rfl, _⟩ := h; rfl) (fun cdv A' outer s H vs Q E hr h => ?_)
  obtain ⟨t, x, y, r, n, xs, ys, rfl, ⟨hP, hg, hx, hy, fx, fy⟩, k⟩ := h
  refine ⟨_, (pss_cons (ps_if (pt_cmpR (SH.oEq hr.units) (pe_ix SH.ixA (pv 0) pe_int (fun _ _ => rfl)) pe_str (nomark _)) (pss_cons (ps_for PassesOwn.never rfl (pi_list (pe_ix SH.ixA (pv 0) pe_int (fun _ _ => rfl))) (pg_tup (by rfl) (pgs_cons (pg_name (i := 3) sc__law_one.nd rfl (Or.inl rfl)) (pgs_cons (pg_name (i := 4) sc__law_one.nd rfl (Or.inl rfl)) pgs_nil))) (pss_one (ps_if (pt_cmpR (SH.oNe hr.units) (pe_ix SH.ixA (pv 1) (pv 3) (fun _ _ => rfl)) (pe_ix SH.ixA (pv 2) (pv 3) (fun _ _ => rfl)) (nomark _)) (pss_one (ps_ret (pe_cmpR (SH.oEq hr.units) (pe_cmpR (SH.oLt hr.units0) (pe_ix SH.ixA (pv 1) (pv 3) (fun _ _ => rfl)) (pe_ix SH.ixA (pv 2) (pv 3) (fun _ _ => rfl)) (nomark _)) (pe_cmpR (SH.oEq hr.units) (pv 4) pe_str (nomark _)) (nomark _)))) pss_nil)))
        (pss_one (ps_ret pe_bl))) pss_nil)
        (pss_cons (ps_set (i := 5) sc__law_one.nd rfl (Or.inl rfl) (pe_op SH.oSub (pe_ix SH.ixA (pv 2) (pe_ix SH.ixA (pv 0) pe_int (fun _ _ => rfl)) (fun _ _ => rfl)) (pe_ix SH.ixA (pv 1) (pe_ix SH.ixA (pv 0) pe_int (fun _ _ => rfl)) (fun _ _ => rfl))))
        (pss_cons (ps_if (pt_cmpR (SH.oEq hr.units) (pe_ix SH.ixA (pv 0) pe_int (fun _ _ => rfl)) pe_str (nomark _)) (pss_one (ps_ret (pe_cmpR SH.oGt (pv 5) (pe_ix SH.ixA (pv 0) pe_int (fun _ _ => rfl)) (nomark _)))) pss_nil)
        (pss_cons (ps_if (pt_cmpR (SH.oEq hr.units) (pe_ix SH.ixA (pv 0) pe_int (fun _ _ => rfl)) pe_str (nomark _)) (pss_one (ps_ret (pe_chain (SH.oLt hr.units0) (SH.oLt hr.units0) pe_int (pe_op SH.oMul pe_int (pe_op SH.oMod (pv 5) (pe_ix SH.ixA (pv 0) pe_int (fun _ _ => rfl)))) (pe_ix SH.ixA (pv 0) pe_int (fun _ _ => rfl))))) pss_nil)
        (pss_cons (ps_if (pt_cmpR (SH.oEq hr.units) (pe_ix SH.ixA (pv 0) pe_int (fun _ _ => rfl)) pe_str (nomark _)) (pss_one (ps_ret (pe_cmpR (SH.oEq hr.units) (pe_op SH.oMod (pe_op SH.oAdd (pe_ix SH.ixA (pv 1) (pe_ix SH.ixA (pv 0) pe_int (fun _ _ => rfl)) (fun _ _ => rfl)) (pe_op SH.oMul pe_int (pe_ix SH.ixA (pv 2) (pe_ix SH.ixA (pv 0) pe_int (fun _ _ => rfl)) (fun _ _ => rfl)))) (pe_ix SH.ixA (pv 0) pe_int (fun _ _ => rfl))) pe_int (nomark _)))) pss_nil)
        (pss_one (ps_ret (pe_ix SH.ixA (pe_ix SH.ixA (pe_ix SH.ixA (pv 0) pe_int (fun _ _ => rfl)) (pe_ix SH.ixA (pv 1) (pe_ix SH.ixA (pv 0) pe_int (fun _ _ => rfl)) (fun _ _ => rfl)) (fun _ _ => rfl)) (pe_ix SH.ixA (pv 2) (pe_ix SH.ixA (pv 0) pe_int (fun _ _ => rfl)) (fun _ _ => rfl)) (fun _ _ => rfl))))))))), ?_⟩
  walk_at "begin"
  obtain ⟨e1, e2, e3, e4, e5, e6, e7, e8, e9, e10, e11, e12, e13, e14⟩ := kinds_is
  have lx := fx.1
  have ly := fy.1
  walk_at "rd"
  cases r with
  | key cols =>
    obtain ⟨l, cvs, ht, hl, hC⟩ := hP
    have hlt := hg.2
    refine v_ixTn (n := 0) (SqT.of ht) rfl rfl ?_
    walk_at "rd"
    refine v_eqS ?_
    rw [e1]
    walk_at "rd"
    refine v_ixTn (n := 1) (SqT.of ht) rfl rfl ?_
    refine v_iList (SqL.of hl) ?_
    refine for_it (walk_list (xs := cvs)) (fun j σ H' => H' = H ∧ keyB cols xs ys = keyB (cols.drop j) xs ys ∧ ∃ v3 v4, σ = [some (.ref t), some (.ref x), some (.ref y), v3, v4, none]) ⟨rfl, rfl, _, _, rfl⟩ (fun _ _ _ _ z => by rw [z.1]; exact SqL.of hl) ?_ ?_
    · rintro j v σ H1 H2 hj ⟨rfl, hk, v3, v4, rfl⟩ ⟨rfl, hv⟩
      obtain ⟨t2, c, rfl, hc, ht2⟩ := hC.2 j v hv
      have hc4 := hlt c (List.mem_of_getElem? hc)
      obtain ⟨hj', hc'⟩ := List.getElem?_eq_some_iff.mp hc
      rw [List.drop_eq_getElem_cons hj', hc'] at hk
      simp only [keyB] at hk
      walk_at "rd"
      refine v_ixTE (n := c.1) (SqT.of hx) rfl (by omega) ?_
      walk_at "rd"
      refine v_ixTE (n := c.1) (SqT.of hy) rfl (by omega) ?_
      walk_at "rd"
      refine r_nw (fun hne => ?_) fun he => ?_
      · rw [if_pos hne] at hk
        walk_at "rd"
        refine v_ixTE (n := c.1) (SqT.of hx) rfl (by omega) ?_
        walk_at "rd"
        refine v_ixTE (n := c.1) (SqT.of hy) rfl (by omega) ?_
        walk_at "rd"
        refine v_eqS ?_
        rw [wayS_up]
        walk_at "rd"
        have k' : Q (.bl (keyB cols xs ys)) H2 := k
        rw [hk] at k'
        rw [show decide (decide (getE xs c.1 < getE ys c.1) = c.2) = (decide (getE xs c.1 < getE ys c.1) == c.2) from by generalize decide (getE xs c.1 < getE ys c.1) = u; cases u <;> cases c.2 <;> rfl]
        exact k'
      · rw [if_neg (by simpa using he)] at hk
        walk_at "rd"
        exact ⟨rfl, hk, _, _, rfl⟩
    · rintro σ H1 ⟨rfl, hk, v3, v4, rfl⟩
      walk_at "rd"
      rw [List.drop_of_length_le (by have := hC.1; omega)] at hk
      have k' : Q (.bl (keyB cols xs ys)) H1 := k
      rw [hk] at k'
      exact k'
  | near i g =>
    have ht : H t = some (.tup [.str "near", .int i, .int g]) := hP
    have hi := hg.1
    refine v_ixTn (n := 0) (SqT.of ht) rfl rfl ?_
    walk_at "rd"
    refine v_eqS ?_
    rw [e2]
    walk_at "rd"
    refine v_ixTn (n := 1) (SqT.of ht) rfl rfl ?_
    walk_at "rd"
    refine v_ixTE (n := i) (SqT.of hy) rfl (by omega) ?_
    walk_at "rd"
    refine v_ixTn (n := 1) (SqT.of ht) rfl rfl ?_
    walk_at "rd"
    refine v_ixTE (n := i) (SqT.of hx) rfl (by omega) ?_
    walk_at "rd"
    refine v_ixTn (n := 0) (SqT.of ht) rfl rfl ?_
    walk_at "rd"
    refine v_eqS ?_
    rw [e3]
    walk_at "rd"
    refine v_ixTn (n := 2) (SqT.of ht) rfl rfl ?_
    walk_at "rd"
    exact k
  | ring i m =>
    have ht : H t = some (.tup [.str "ring", .int i, .int m]) := hP
    have hi := hg.1
    have hm := hg.2
    refine v_ixTn (n := 0) (SqT.of ht) rfl rfl ?_
    walk_at "rd"
    refine v_eqS ?_
    rw [e4]
    walk_at "rd"
    refine v_ixTn (n := 1) (SqT.of ht) rfl rfl ?_
    walk_at "rd"
    refine v_ixTE (n := i) (SqT.of hy) rfl (by omega) ?_
    walk_at "rd"
    refine v_ixTn (n := 1) (SqT.of ht) rfl rfl ?_
    walk_at "rd"
    refine v_ixTE (n := i) (SqT.of hx) rfl (by omega) ?_
    walk_at "rd"
    refine v_ixTn (n := 0) (SqT.of ht) rfl rfl ?_
    walk_at "rd"
    refine v_eqS ?_
    rw [e5]
    walk_at "rd"
    refine v_ixTn (n := 0) (SqT.of ht) rfl rfl ?_
    walk_at "rd"
    refine v_eqS ?_
    rw [e6]
    walk_at "rd"
    refine v_ixTn (n := 2) (SqT.of ht) rfl rfl ?_
    walk_at "rd"
    have k' : Q (.bl (ringB (getE xs i) (getE ys i) m)) H := k
    unfold ringB at k'
    refine r_w (fun hc => ?_) fun hc => ?_
    · walk_at "rd"
      refine v_ixTn (n := 2) (SqT.of ht) rfl rfl ?_
      walk_at "rd"
      rw [show decide (2 * ((getE ys i - getE xs i) % m) < m) = decide (0 < (getE ys i - getE xs i) % m ∧ 2 * ((getE ys i - getE xs i) % m) < m) from decide_eq_decide.mpr (by omega)]
      exact k'
    · rw [decide_eq_false (by omega)] at k'
      exact k'
  | asked i m =>
    have ht : H t = some (.tup [.str "asked", .int i, .int m]) := hP
    have hi := hg.1
    have hm := hg.2
    refine v_ixTn (n := 0) (SqT.of ht) rfl rfl ?_
    walk_at "rd"
    refine v_eqS ?_
    rw [e7]
    walk_at "rd"
    refine v_ixTn (n := 1) (SqT.of ht) rfl rfl ?_
    walk_at "rd"
    refine v_ixTE (n := i) (SqT.of hy) rfl (by omega) ?_
    walk_at "rd"
    refine v_ixTn (n := 1) (SqT.of ht) rfl rfl ?_
    walk_at "rd"
    refine v_ixTE (n := i) (SqT.of hx) rfl (by omega) ?_
    walk_at "rd"
    refine v_ixTn (n := 0) (SqT.of ht) rfl rfl ?_
    walk_at "rd"
    refine v_eqS ?_
    rw [e8]
    walk_at "rd"
    refine v_ixTn (n := 0) (SqT.of ht) rfl rfl ?_
    walk_at "rd"
    refine v_eqS ?_
    rw [e9]
    walk_at "rd"
    refine v_ixTn (n := 0) (SqT.of ht) rfl rfl ?_
    walk_at "rd"
    refine v_eqS ?_
    rw [e10]
    walk_at "rd"
    refine v_ixTn (n := 1) (SqT.of ht) rfl rfl ?_
    walk_at "rd"
    refine v_ixTE (n := i) (SqT.of hx) rfl (by omega) ?_
    walk_at "rd"
    refine v_ixTn (n := 1) (SqT.of ht) rfl rfl ?_
    walk_at "rd"
    refine v_ixTE (n := i) (SqT.of hy) rfl (by omega) ?_
    walk_at "rd"
    refine v_ixTn (n := 2) (SqT.of ht) rfl rfl ?_
    walk_at "rd"
    exact k
  | table i n' G =>
    obtain ⟨hi, rfl, hn5⟩ := hg
    obtain ⟨l, gvs, ht, hl, hG⟩ := hP
    obtain ⟨x0, x1⟩ := fx.2 i hi
    obtain ⟨y0, y1⟩ := fy.2 i hi
    obtain ⟨a1, a2⟩ := getE_nn x0 x1
    obtain ⟨b1, b2⟩ := getE_nn y0 y1
    obtain ⟨g, eg, hg⟩ := hG.get a1
    refine v_ixTn (n := 0) (SqT.of ht) rfl rfl ?_
    walk_at "rd"
    refine v_eqS ?_
    rw [e11]
    walk_at "rd"
    refine v_ixTn (n := 1) (SqT.of ht) rfl rfl ?_
    walk_at "rd"
    refine v_ixTE (n := i) (SqT.of hy) rfl (by omega) ?_
    walk_at "rd"
    refine v_ixTn (n := 1) (SqT.of ht) rfl rfl ?_
    walk_at "rd"
    refine v_ixTE (n := i) (SqT.of hx) rfl (by omega) ?_
    walk_at "rd"
    refine v_ixTn (n := 0) (SqT.of ht) rfl rfl ?_
    walk_at "rd"
    refine v_eqS ?_
    rw [e12]
    walk_at "rd"
    refine v_ixTn (n := 0) (SqT.of ht) rfl rfl ?_
    walk_at "rd"
    refine v_eqS ?_
    rw [e13]
    walk_at "rd"
    refine v_ixTn (n := 0) (SqT.of ht) rfl rfl ?_
    walk_at "rd"
    refine v_eqS ?_
    rw [e14]
    walk_at "rd"
    refine v_ixTn (n := 2) (SqT.of ht) rfl rfl ?_
    walk_at "rd"
    refine v_ixTn (n := 1) (SqT.of ht) rfl rfl ?_
    walk_at "rd"
    refine v_ixTE (n := i) (SqT.of hx) rfl (by omega) ?_
    walk_at "rd"
    refine v_ixLn (n := (getE xs i).toNat) (SqL.of hl) a2 eg ?_
    walk_at "rd"
    refine v_ixTn (n := 1) (SqT.of ht) rfl rfl ?_
    walk_at "rd"
    refine v_ixTE (n := i) (SqT.of hy) rfl (by omega) ?_
    walk_at "rd"
    refine v_ixLn (n := (getE ys i).toNat) (SqL.of hg) b2 (gB_at b1) ?_
    exact k
/-- a list of plans -/
structure PlsAt (K : PySem.W.Frag) (H : Hp) (pvs : List V) (rs : List R0) : Prop where
  len : pvs.length = rs.length
  at_ : ∀ (j : Nat) (v : V), pvs[j]? = some v → ∃ (t : Addr) (r : R0), v = .ref t ∧ rs[j]? = some r ∧ PlanAt K H t r
theorem PlsAt.ext {K : PySem.W.Frag} {H H' : Hp} {pvs : List V} {rs : List R0} (h : PlsAt K H pvs rs) (e : ExtN H H') : PlsAt K H' pvs rs :=
  ⟨h.len, fun j v z => by obtain ⟨t, r, h1, h2, h3⟩ := h.at_ j v z; exact ⟨t, r, h1, h2, h3.ext e⟩⟩
theorem PlsAt.tail {K : PySem.W.Frag} {H : Hp} {pvs : List V} {rs : List R0} (h : PlsAt K H pvs rs) : PlsAt K H (pvs.drop 1) (rs.drop 1) :=
  ⟨by simp [h.len], fun j v z => by rw [List.getElem?_drop] at z; obtain ⟨t, r, h1, h2, h3⟩ := h.at_ (1 + j) v z; exact ⟨t, r, h1, by rw [List.getElem?_drop]; exact h2, h3⟩⟩
def cntT (bs : List Bool) : Nat := bs.countP id
theorem cnt_bl (bs : List Bool) : ((bs.map V.bl).countP fun y => eqV y (.bl true)) = cntT bs := by
  unfold cntT
  rw [List.countP_map]
  congr 1
  funext b
  cases b <;> rfl
theorem bls_flat (bs : List Bool) : (bs.map V.bl).all flatV = true := by
  rw [List.all_map]
  exact List.all_eq_true.mpr fun _ _ => rfl
theorem vote_cnt (rs : List R0) (xs ys : List Int) : voteN rs xs ys = (cntT (rs.map fun r => r.b xs ys) : Int) - (cntT (rs.map fun r => r.b ys xs) : Int) := by
  induction rs with
  | nil => rfl
  | cons r rs ih =>
    have e : voteN (r :: rs) xs ys = bI (r.b xs ys) - bI (r.b ys xs) + voteN rs xs ys := by unfold voteN; rw [List.map_cons, List.sum_cons]
    rw [e, ih]
    unfold cntT bI
    rw [List.map_cons, List.map_cons, List.countP_cons, List.countP_cons]
    cases r.b xs ys <;> cases r.b ys xs <;> simp <;> omega
def sp__law_votes (K : PySem.W.Frag) (A : Ad) : Sp := fun vs H Q _ => ∃ (q x y : Addr) (pvs : List V) (rs : List R0) (n : Nat) (xs ys : List Int), vs = [.ref q, .ref x, .ref y] ∧ (H q = some (.lst pvs) ∧ PlsAt K H pvs rs ∧ rs.length ≤ 100 ∧ (∀ r ∈ rs, r.good n) ∧ H x = some (.tup (xs.map V.int)) ∧ H y = some (.tup (ys.map V.int)) ∧ Thg n xs ∧ Thg n ys) ∧ ∀ H', Stp [] H H' → Q (.bl (voteB rs xs ys)) H'
theorem ok__law_votes {P : Program} {w : World} {K : PySem.W.Frag} {mg : Str → Option Value} {base : Heap} {A : Ad} {f : Addr} {fd : FuncData} (F : Fun K "_law_votes" "_law_votes" s__law_votes f fd) (T : Txt K mg A) (C__law_one : SH.Cal P w K mg base CX0 1 "_law_one" [] (sp__law_one K A)) : FnOk P w K mg base CX0 2 f fd ["_law_plans", "_law_x", "_law_y"] (sp__law_votes K A) := by
  refine F.ok sc__law_votes (fun vs H Q E h => by obtain ⟨_, _, _, _, _, _, _, _, rfl, _⟩ := h; rfl) (fun cdv A' outer s H vs Q E hr h => ?_)
  obtain ⟨q, x, y, pvs, rs, n, xs, ys, rfl, ⟨hq, hP, hrl, hg, hx, hy, fx, fy⟩, k⟩ := h
  refine ⟨_, (pss_cons (ps_setLc (i := 3) (own := [("_law_plan", 5)]) (g := (gName 5)) (tt := tYes) (by rfl) sc__law_votes.nd rfl rfl (sw_true rfl rfl rfl (by decide +kernel)) (pi_list (pv 0)) (blkOk_by (own := [("_law_plan", 5)]) (N := ["_law_plans", "_law_x", "_law_y", "_law_votes_here", "_law_turned", "_law_plan"]) (sc := defScope s__law_votes) (by decide +kernel)) (fun _ _ _ _ _ => (pg_name (i := 5) sc__law_votes.nd rfl (Or.inl rfl))) (fun _ _ _ _ _ => pts_nil) (fun _ _ _ _ _ => (SH.pe_callF C__law_one hr (by rfl) pass0 (pa_cons (pv 5) (pa_cons (pv 1) (pa_cons (pv 2) pa_nil))))))
        (pss_cons (ps_setLc (i := 4) (own := [("_law_plan", 5)]) (g := (gName 5)) (tt := tYes) (by rfl) sc__law_votes.nd rfl rfl (sw_true rfl rfl rfl (by decide +kernel)) (pi_list (pv 0)) (blkOk_by (own := [("_law_plan", 5)]) (N := ["_law_plans", "_law_x", "_law_y", "_law_votes_here", "_law_turned", "_law_plan"]) (sc := defScope s__law_votes) (by decide +kernel)) (fun _ _ _ _ _ => (pg_name (i := 5) sc__law_votes.nd rfl (Or.inl rfl))) (fun _ _ _ _ _ => pts_nil) (fun _ _ _ _ _ => (SH.pe_callF C__law_one hr (by rfl) pass0 (pa_cons (pv 5) (pa_cons (pv 2) (pa_cons (pv 1) pa_nil))))))
        (pss_one (ps_ret (pe_cmpR SH.oGt (pe_bm PySem.F.plainAttrs_list PySem.F.slot_list_count PySem.F.type_list_count SH.mt_lcountF (pv 3) (pa_cons pe_bl pa_nil)) (pe_bm PySem.F.plainAttrs_list PySem.F.slot_list_count PySem.F.type_list_count SH.mt_lcountF (pv 4) (pa_cons pe_bl pa_nil)) (nomark _)))))), ?_⟩
  walk_at "begin"
  have hpl := hP.len
  walk_at "rd"
  intro D hD
  refine lc_it (walk_list (xs := pvs)) (fun j H' => Stp [] H H' ∧ H' D = some (.lst (((rs.take j).map fun r => r.b xs ys).map V.bl))) ⟨(Stp.refl _ _).new hD, upd_same⟩ (fun j H' _ z => SqL.of (z.1.keep0 hq)) ?_ ?_
  · rintro j v H1 H2 hj ⟨S, hL⟩ ⟨rfl, hv⟩
    obtain ⟨t, r, rfl, hr', hA⟩ := (hP.ext (stp_ext S)).at_ j v hv
    walk_at "rd"
    refine ⟨t, x, y, r, n, xs, ys, rfl, ⟨hA, hg r (List.mem_of_getElem? hr'), S.tup hx, S.tup hy, fx, fy⟩, ?_⟩
    refine ⟨_, hL, Nat.lt_of_le_of_lt (m := 1000) (by simp; omega) (by decide), S.putN hD, ?_⟩
    rw [upd_same, take_snoc hr', List.map_append, List.map_append]
    rfl
  rintro H1 ⟨S1, hL1⟩
  rw [hpl, List.take_length] at hL1
  walk_at "rd"
  intro E hE
  refine lc_it (walk_list (xs := pvs)) (fun j H' => Stp [] H1 H' ∧ H' E = some (.lst (((rs.take j).map fun r => r.b ys xs).map V.bl))) ⟨(Stp.refl _ _).new hE, upd_same⟩ (fun j H' _ z => SqL.of (z.1.keep0 (S1.keep0 hq))) ?_ ?_
  · rintro j v H2 H3 hj ⟨S, hL⟩ ⟨rfl, hv⟩
    have S02 := S1.trans S
    obtain ⟨t, r, rfl, hr', hA⟩ := (hP.ext (stp_ext S02)).at_ j v hv
    walk_at "rd"
    refine ⟨t, y, x, r, n, ys, xs, rfl, ⟨hA, hg r (List.mem_of_getElem? hr'), S02.tup hy, S02.tup hx, fy, fx⟩, ?_⟩
    refine ⟨_, hL, Nat.lt_of_le_of_lt (m := 1000) (by simp; omega) (by decide), S.putN hE, ?_⟩
    rw [upd_same, take_snoc hr', List.map_append, List.map_append]
    rfl
  rintro H2 ⟨S2, hL2⟩
  rw [hpl, List.take_length] at hL2
  have hL12 := S2.keep0 hL1
  walk_at "rd"
  refine ⟨D, _, .bl true, rfl, rfl, SqL.of hL12, rfl, bls_flat _, ?_⟩
  rw [cnt_bl]
  walk_at "rd"
  refine ⟨E, _, .bl true, rfl, rfl, SqL.of hL2, rfl, bls_flat _, ?_⟩
  rw [cnt_bl]
  walk_at "rd"
  have e : decide ((cntT (rs.map fun r => r.b ys xs) : Int) < (cntT (rs.map fun r => r.b xs ys) : Int)) = voteB rs xs ys := by
    unfold voteB
    rw [vote_cnt]
    exact decide_eq_decide.mpr (by omega)
  rw [e]
  exact k _ (S1.trans S2)
/-- pairs of truths: which of the two sides puts first -/
def chT : List (Bool × Bool) → Bool
  | [] => false
  | p :: ps => p.1 || (!p.2 && chT ps)
structure TlsAt (H : Hp) (tvs : List V) (ps : List (Bool × Bool)) : Prop where
  len : tvs.length = ps.length
  at_ : ∀ (j : Nat) (v : V), tvs[j]? = some v → ∃ (t : Addr) (p : Bool × Bool), v = .ref t ∧ ps[j]? = some p ∧ H t = some (.tup [.bl p.1, .bl p.2])
def sp__law_chain (K : PySem.W.Frag) (A : Ad) : Sp := fun vs H Q _ => ∃ (q : Addr) (tvs : List V) (ps : List (Bool × Bool)), vs = [.ref q] ∧ (H q = some (.lst tvs) ∧ TlsAt H tvs ps) ∧ Q (.bl (chT ps)) H
theorem ok__law_chain {P : Program} {w : World} {K : PySem.W.Frag} {mg : Str → Option Value} {base : Heap} {A : Ad} {f : Addr} {fd : FuncData} (F : Fun K "_law_chain" "_law_chain" s__law_chain f fd) (T : Txt K mg A)  : FnOk P w K mg base CX0 1 f fd ["_law_tells"] (sp__law_chain K A) := by
  refine F.ok sc__law_chain (fun vs H Q E h => by obtain ⟨_, _, _, rfl, _⟩ := h; rfl) (fun cdv A' outer s H vs Q E hr h => ?_)
  obtain ⟨q, tvs, ps, rfl, ⟨hq, hT⟩, k⟩ := h
  refine ⟨_, (pss_cons (ps_for PassesOwn.never rfl (pi_list (pv 0)) (pg_tup (by rfl) (pgs_cons (pg_name (i := 1) sc__law_chain.nd rfl (Or.inl rfl)) (pgs_cons (pg_name (i := 2) sc__law_chain.nd rfl (Or.inl rfl)) pgs_nil))) (pss_one (ps_if (PW.pt (pw_or (pt_val (pv 1)) (pw_or1 (pt_val (pv 2))))) (pss_one (ps_ret (pv 1))) pss_nil)))
        (pss_one (ps_ret pe_bl))), ?_⟩
  walk_at "begin"
  walk_at "rd"
  refine for_it (walk_list (xs := tvs)) (fun j σ H' => H' = H ∧ chT ps = chT (ps.drop j) ∧ ∃ v1 v2, σ = [some (.ref q), v1, v2]) ⟨rfl, rfl, _, _, rfl⟩ (fun _ _ _ _ z => by rw [z.1]; exact SqL.of hq) ?_ ?_
  · rintro j v σ H1 H2 hj ⟨rfl, hk, v1, v2, rfl⟩ ⟨rfl, hv⟩
    obtain ⟨t, p, rfl, hp, ht⟩ := hT.at_ j v hv
    obtain ⟨hj', hc'⟩ := List.getElem?_eq_some_iff.mp hp
    rw [List.drop_eq_getElem_cons hj', hc'] at hk
    simp only [chT] at hk
    obtain ⟨p1, p2⟩ := p
    walk_at "rd"
    cases p1 with
    | true =>
      simp at hk
      rw [hk] at k
      walk_at "rd"
      exact k
    | false =>
      walk_at "rd"
      cases p2 with
      | true =>
        simp at hk
        rw [hk] at k
        walk_at "rd"
        exact k
      | false =>
        simp at hk
        walk_at "rd"
        exact ⟨rfl, hk, _, _, rfl⟩
  · rintro σ H1 ⟨rfl, hk, v1, v2, rfl⟩
    walk_at "rd"
    rw [List.drop_of_length_le (by have := hT.len; omega)] at hk
    rw [hk] at k
    exact k
theorem chT_chain (ps : List R1) (xs ys : List Int) : chT (ps.map fun r => (r.b xs ys, r.b ys xs)) = chainB ps xs ys := by
  induction ps with
  | nil => rfl
  | cons r ps ih => simp only [List.map_cons, chT, chainB, ih]
/-- how the rules stand together -/
def partsOf (way : Nat) (rs : List R0) : List R1 := if way = 1 then rs.map .one else if way = 2 then [.one (rs.headD (.near 0 0)), .votes (rs.drop 1)] else [.votes (rs.drop 1), .one (rs.headD (.near 0 0))]
def topB (way : Nat) (rs : List R0) (xs ys : List Int) : Bool := if way = 0 then voteB rs xs ys else chainB (partsOf way rs) xs ys

/-! ### all rules together, and the law -/
theorem tls_cut {H : Hp} {tvs : List V} {ps : List (Bool × Bool)} (h : TlsAt H tvs ps) {M : List Addr} {H' : Hp} (S : Stp M H H') : TlsAt H' tvs ps :=
  ⟨h.len, fun j v e => by obtain ⟨t, p, h1, h2, h3⟩ := h.at_ j v e; exact ⟨t, p, h1, h2, S.tup h3⟩⟩
theorem cutV_from {vs : List V} : cutV vs (some 1) none = vs.drop 1 := by
  have e := cut_map (α := V) id vs (some 1) none
  rw [List.map_id, List.map_id] at e
  rw [e]
  exact cutL_from vs 1
def sp__law_before (K : PySem.W.Frag) (A : Ad) : Sp := fun vs H Q _ => ∃ (q x y : Addr) (pvs : List V) (rs : List R0) (n way : Nat) (xs ys : List Int), vs = [.ref q, .int way, .ref x, .ref y] ∧ (H q = some (.lst pvs) ∧ PlsAt K H pvs rs ∧ 1 ≤ rs.length ∧ rs.length ≤ 100 ∧ (∀ r ∈ rs, r.good n) ∧ H x = some (.tup (xs.map V.int)) ∧ H y = some (.tup (ys.map V.int)) ∧ Thg n xs ∧ Thg n ys ∧ way ≤ 3) ∧ ∀ H', Stp [] H H' → Q (.bl (topB way rs xs ys)) H'
theorem ok__law_before {P : Program} {w : World} {K : PySem.W.Frag} {mg : Str → Option Value} {base : Heap} {A : Ad} {f : Addr} {fd : FuncData} (F : Fun K "_law_before" "_law_before" s__law_before f fd) (T : Txt K mg A) (C__law_chain : SH.Cal P w K mg base CX0 1 "_law_chain" [] (sp__law_chain K A)) (C__law_one : SH.Cal P w K mg base CX0 1 "_law_one" [] (sp__law_one K A)) (C__law_votes : SH.Cal P w K mg base CX0 2 "_law_votes" [] (sp__law_votes K A)) : FnOk P w K mg base CX0 3 f fd ["_law_plans", "_law_way", "_law_x", "_law_y"] (sp__law_before K A) := by
  refine F.ok sc__law_before (fun vs H Q E h => by obtain ⟨_, _, _, _, _, _, _, _, _, rfl, _⟩ := h; rfl) (fun cdv A' outer s H vs Q E hr h => ?_)
  obtain ⟨q, x, y, pvs, rs, n, way, xs, ys, rfl, ⟨hq, hP, hr1, hrl, hg, hx, hy, fx, fy, hw⟩, k⟩ := h
  refine ⟨_, (pss_cons (ps_if (pt_cmpR (SH.oEq hr.units) (pv 1) pe_int (nomark _)) (pss_one (ps_ret (SH.pe_callF C__law_votes hr (by rfl) pass0 (pa_cons (pv 0) (pa_cons (pv 2) (pa_cons (pv 3) pa_nil)))))) pss_nil)
        (pss_cons (ps_setLc (i := 4) (own := [("_law_plan", 6)]) (g := (gName 6)) (tt := tYes) (by rfl) sc__law_before.nd rfl rfl (sw_true rfl rfl rfl (by decide +kernel)) (pi_list (pv 0)) (blkOk_by (own := [("_law_plan", 6)]) (N := ["_law_plans", "_law_way", "_law_x", "_law_y", "_law_tells", "_law_votes_here", "_law_plan"]) (sc := defScope s__law_before) (by decide +kernel)) (fun _ _ _ _ _ => (pg_name (i := 6) sc__law_before.nd rfl (Or.inl rfl))) (fun _ _ _ _ _ => pts_nil) (fun _ _ _ _ _ => (pe_tup (pa_cons (SH.pe_callF C__law_one hr (by rfl) pass0 (pa_cons (pv 6) (pa_cons (pv 2) (pa_cons (pv 3) pa_nil)))) (pa_cons (SH.pe_callF C__law_one hr (by rfl) pass0 (pa_cons (pv 6) (pa_cons (pv 3) (pa_cons (pv 2) pa_nil)))) pa_nil)))))
        (pss_cons (ps_if (pt_cmpR SH.oGt (pv 1) pe_int (nomark _)) (pss_cons (ps_set (i := 5) sc__law_before.nd rfl (Or.inl rfl) (pe_tup (pa_cons (SH.pe_callF C__law_votes hr (by rfl) pass0 (pa_cons (pe_slice sl_list (pv 0) (po_some pe_int) po_none) (pa_cons (pv 2) (pa_cons (pv 3) pa_nil)))) (pa_cons (SH.pe_callF C__law_votes hr (by rfl) pass0 (pa_cons (pe_slice sl_list (pv 0) (po_some pe_int) po_none) (pa_cons (pv 3) (pa_cons (pv 2) pa_nil)))) pa_nil))))
        (pss_one (ps_set (i := 4) sc__law_before.nd rfl (Or.inl rfl) (pe_lst (pa_cons (pe_ix SH.ixA (pv 4) pe_int (fun _ _ => rfl)) (pa_cons (pv 5) pa_nil)))))) pss_nil)
        (pss_cons (ps_if (pt_cmpR (SH.oEq hr.units) (pv 1) pe_int (nomark _)) (pss_one (ps_expr (pe_bm0 PySem.F.plainAttrs_list PySem.F.slot_list_reverse PySem.F.type_list_reverse mt_reverse (pv 4)))) pss_nil)
        (pss_one (ps_ret (SH.pe_callF C__law_chain hr (by rfl) pass0 (pa_cons (pv 4) pa_nil)))))))), ?_⟩
  walk_at "begin"
  have hpl := hP.len
  unfold topB partsOf at k
  walk_at "rd"
  refine r_w (fun hc => ?_) fun hc => ?_
  · have h0 : way = 0 := by omega
    rw [if_pos h0] at k
    walk_at "rd"
    exact ⟨q, x, y, pvs, rs, n, xs, ys, rfl, ⟨hq, hP, hrl, hg, hx, hy, fx, fy⟩, k⟩
  have h0 : way ≠ 0 := by omega
  rw [if_neg h0] at k
  walk_at "rd"
  intro D hD
  refine lc_it (walk_list (xs := pvs)) (fun j H' => Stp [] H H' ∧ ∃ tvs, H' D = some (.lst tvs) ∧ TlsAt H' tvs ((rs.take j).map fun r => (r.b xs ys, r.b ys xs))) ⟨(Stp.refl _ _).new hD, [], upd_same, rfl, fun j v e => by cases e⟩ (fun j H' _ z => SqL.of (z.1.keep0 hq)) ?_ ?_
  · rintro j v H1 H2 hj ⟨S, tvs, hL, hT⟩ ⟨rfl, hv⟩
    obtain ⟨t, r, rfl, hr', hA⟩ := (hP.ext (stp_ext S)).at_ j v hv
    have hgr := hg r (List.mem_of_getElem? hr')
    have htl := hT.len
    walk_at "rd"
    refine ⟨t, x, y, r, n, xs, ys, rfl, ⟨hA, hgr, S.tup hx, S.tup hy, fx, fy⟩, ?_⟩
    walk_at "rd"
    refine ⟨t, y, x, r, n, ys, xs, rfl, ⟨hA, hgr, S.tup hy, S.tup hx, fy, fx⟩, ?_⟩
    walk_at "rd"
    intro w hw
    have Sx : Stp [D] H2 (upd (upd H2 w (.tup [.bl (r.b xs ys), .bl (r.b ys xs)])) D (.lst (tvs ++ [.ref w]))) := ((Stp.refl [D] H2).new hw).putL (by simp) (upd_old hL hw)
    have nwD : w ≠ D := (ne_of_none hL hw).symm
    refine ⟨_, upd_old hL hw, Nat.lt_of_le_of_lt (m := 1000) (by rw [htl]; simp; omega) (by decide), (S.new hw).putN hD, tvs ++ [.ref w], upd_same, ?_⟩
    rw [take_snoc hr', List.map_append]
    have hT' := tls_cut hT Sx
    refine ⟨by simp [htl], fun i v e => ?_⟩
    by_cases hi : i < tvs.length
    · rw [List.getElem?_append_left hi] at e
      obtain ⟨t', p, z1, z2, z3⟩ := hT'.at_ i v e
      exact ⟨t', p, z1, by rw [List.getElem?_append_left (by rw [← htl]; exact hi)]; exact z2, z3⟩
    · rw [List.getElem?_append_right (by omega)] at e
      have : i - tvs.length = 0 := by
        cases h : i - tvs.length with
        | zero => rfl
        | succ m => rw [h] at e; cases e
      rw [this] at e
      cases e
      exact ⟨w, (r.b xs ys, r.b ys xs), rfl, by rw [List.getElem?_append_right (by rw [← htl]; omega), show i - ((rs.take j).map fun r => (r.b xs ys, r.b ys xs)).length = 0 by rw [← htl]; omega]; rfl, by rw [upd_ne nwD, upd_same]⟩
  rintro H1 ⟨S1, tvs, hL1, hT1⟩
  rw [hpl, List.take_length] at hT1
  have htl := hT1.len
  rw [List.length_map] at htl
  obtain ⟨r0, rr, hrs⟩ : ∃ r0 rr, rs = r0 :: rr := List.exists_cons_of_ne_nil (fun z => by subst z; simp at hr1)
  obtain ⟨t0, tr, htv⟩ : ∃ t0 tr, tvs = t0 :: tr := List.exists_cons_of_ne_nil (fun z => by subst z; simp at htl; omega)
  walk_at "ri"
  refine r_J (fun σ H' => Stp [] H H' ∧ ∃ (E : Addr) (svs : List V) (ps : List (Bool × Bool)) (v5 : Option V), (H' E = some (.lst svs) ∧ TlsAt H' svs ps ∧ (way = 1 → ps = rs.map fun r => (r.b xs ys, r.b ys xs)) ∧ (way ≠ 1 → ps = [(r0.b xs ys, r0.b ys xs), (voteB rr xs ys, voteB rr ys xs)]) ∧ H E = none) ∧ σ = [some (.ref q), some (.int way), some (.ref x), some (.ref y), some (.ref E), v5, none]) ?_ fun N hN => ?_
  rotate_left
  · walk_at "rd"
    refine r_w (fun hc => ?_) fun hc => ?_
    · walk_at "rd"
      intro c1 hc1
      rw [cutV_from]
      have S2 := S1.new (o := .lst (pvs.drop 1)) hc1
      have hc12 := upd_same (H := H1) (a := c1) (o := .lst (pvs.drop 1))
      have hL2 := upd_old (u := .lst (pvs.drop 1)) hL1 hc1
      have hT2 := tls_cut hT1 ((Stp.refl [] H1).new (o := .lst (pvs.drop 1)) hc1)
      generalize upd H1 c1 (.lst (pvs.drop 1)) = H2 at S2 hc12 hL2 hT2 ⊢
      have hPt : PlsAt K H2 (pvs.drop 1) rr := by
        have := (hP.ext (stp_ext S2)).tail
        rw [hrs] at this
        exact this
      have hgt : ∀ r ∈ rr, r.good n := fun r hr' => hg r (by rw [hrs]; exact List.mem_cons_of_mem _ hr')
      have hrrl : rr.length ≤ 100 := by rw [hrs] at hrl; simp at hrl; omega
      walk_at "rd"
      refine ⟨c1, x, y, _, rr, n, xs, ys, rfl, ⟨hc12, hPt, hrrl, hgt, S2.tup hx, S2.tup hy, fx, fy⟩, fun H3 S3 => ?_⟩
      walk_at "rd"
      intro c2 hc2
      rw [cutV_from]
      have S4 := (Stp.refl [] H3).new (o := .lst (pvs.drop 1)) hc2
      have hc24 := upd_same (H := H3) (a := c2) (o := .lst (pvs.drop 1))
      generalize upd H3 c2 (.lst (pvs.drop 1)) = H4 at S4 hc24 ⊢
      have S24 := S3.trans S4
      have S04 := S2.trans S24
      walk_at "rd"
      refine ⟨c2, y, x, _, rr, n, ys, xs, rfl, ⟨hc24, hPt.ext (stp_ext S24), hrrl, hgt, S04.tup hy, S04.tup hx, fy, fx⟩, fun H5 S5 => ?_⟩
      have S25 := S24.trans S5
      walk_at "rd"
      intro w hw
      have S6 := (Stp.refl [] H5).new (o := .tup [.bl (voteB rr xs ys), .bl (voteB rr ys xs)]) hw
      have hw6 := upd_same (H := H5) (a := w) (o := .tup [.bl (voteB rr xs ys), .bl (voteB rr ys xs)])
      have S26 := S25.trans S6
      have hL6 := S26.keep0 hL2
      have hT6 := tls_cut hT2 S26
      generalize upd H5 w (.tup [.bl (voteB rr xs ys), .bl (voteB rr ys xs)]) = H6 at S26 hw6 hL6 hT6 ⊢
      obtain ⟨tt, p0, z1, z2, z3⟩ := hT6.at_ 0 t0 (by rw [htv]; rfl)
      rw [hrs] at z2
      cases z2
      walk_at "rd"
      refine v_ixLn (n := 0) (SqL.of hL6) rfl (by rw [htv]; exact congrArg some z1) ?_
      walk_at "rd"
      intro E hE
      walk_at "rd"
      have S06 := S2.trans S26
      refine hN _ _ ⟨S06.new hE, E, _, [(r0.b xs ys, r0.b ys xs), (voteB rr xs ys, voteB rr ys xs)], _, ⟨upd_same, ⟨rfl, fun i v e => ?_⟩, fun z => by omega, fun _ => rfl, S06.dom _ hE⟩, rfl⟩
      match i, e with
      | 0, e => cases e; exact ⟨tt, _, rfl, rfl, upd_old z3 hE⟩
      | 1, e => cases e; exact ⟨w, _, rfl, rfl, upd_old hw6 hE⟩
    · walk_at "rd"
      exact hN _ _ ⟨S1, D, tvs, _, _, ⟨hL1, hT1, fun _ => rfl, fun z => by omega, hD⟩, rfl⟩
  rintro σ H2 ⟨S2, E, svs, ps, v5, ⟨hE2, hT2, hp1, hp2, hEn⟩, rfl⟩
  dsimp only
  walk_at "ri"
  refine r_J (fun σ H' => Stp [] H H' ∧ ∃ (svs : List V) (ps : List (Bool × Bool)), (H' E = some (.lst svs) ∧ TlsAt H' svs ps ∧ chT ps = chainB (if way = 1 then rs.map .one else if way = 2 then [.one (rs.headD (.near 0 0)), .votes (rs.drop 1)] else [.votes (rs.drop 1), .one (rs.headD (.near 0 0))]) xs ys) ∧ σ = [some (.ref q), some (.int way), some (.ref x), some (.ref y), some (.ref E), v5, none]) ?_ fun N hN => ?_
  rotate_left
  · walk_at "rd"
    refine r_w (fun hc => ?_) fun hc => ?_
    · have h3 : way = 3 := by omega
      walk_at "rd"
      refine v_rev hE2 ?_
      walk_at "rd"
      have hp := hp2 (by omega)
      subst hp
      obtain ⟨a, b, hab⟩ : ∃ a b, svs = [a, b] := by
        have := hT2.len
        match svs, this with
        | [a, b], _ => exact ⟨a, b, rfl⟩
      subst hab
      have Sx : Stp [E] H2 (upd H2 E (.lst [a, b].reverse)) := (Stp.refl _ _).putL (by simp) hE2
      obtain ⟨t1, p1, y1, y2, y3⟩ := (tls_cut hT2 Sx).at_ 0 a rfl
      obtain ⟨t2, p2, y4, y5, y6⟩ := (tls_cut hT2 Sx).at_ 1 b rfl
      refine hN _ _ ⟨S2.putN hEn, [a, b].reverse, [p2, p1], ⟨upd_same, ⟨rfl, fun i v e => ?_⟩, ?_⟩, rfl⟩
      · match i, e with
        | 0, e => cases e; exact ⟨t2, _, y4, rfl, y6⟩
        | 1, e => cases e; exact ⟨t1, _, y1, rfl, y3⟩
      · cases y2
        cases y5
        rw [if_neg (by omega), if_neg (by omega), hrs]
        simp [chT, chainB, R1.b]
    · walk_at "rd"
      refine hN _ _ ⟨S2, svs, ps, ⟨hE2, hT2, ?_⟩, rfl⟩
      by_cases h1 : way = 1
      · rw [if_pos h1, hp1 h1, ← chT_chain, List.map_map]
        rfl
      · rw [if_neg h1, if_pos (by omega), hp2 h1, hrs]
        simp [chT, chainB, R1.b]
  rintro σ H3 ⟨S3, svs, ps, ⟨hE3, hT3, hch⟩, rfl⟩
  dsimp only
  walk_at "rd"
  refine ⟨E, svs, ps, rfl, ⟨hE3, hT3⟩, ?_⟩
  rw [hch]
  exact k _ S3
def sp__law_widest (K : PySem.W.Frag) (A : Ad) : Sp := fun vs H Q _ => ∃ (t : Addr) (r : R0) (n : Nat), vs = [.ref t] ∧ (PlanAt K H t r ∧ r.good n) ∧ ∀ H', Stp [] H H' → Q (.int r.wid) H'
theorem ok__law_widest {P : Program} {w : World} {K : PySem.W.Frag} {mg : Str → Option Value} {base : Heap} {A : Ad} {f : Addr} {fd : FuncData} (F : Fun K "_law_widest" "_law_widest" s__law_widest f fd) (T : Txt K mg A)  : FnOk P w K mg base CX0 1 f fd ["_law_plan"] (sp__law_widest K A) := by
  refine F.ok sc__law_widest (fun vs H Q E h => by obtain ⟨_, _, _, rfl, _⟩ := h; rfl) (fun cdv A' outer s H vs Q E hr h => ?_)
  obtain ⟨t, r, n, rfl, ⟨hP, hg⟩, k⟩ := h
  refine ⟨_, (pss_cons (ps_if (pt_cmpR (SH.oEq hr.units) (pe_ix SH.ixA (pv 0) pe_int (fun _ _ => rfl)) pe_str (nomark _)) (pss_one (ps_ret (pe_callBK (SH.cr_maxDef rfl hr.units) (by rfl) T.z_max (by decide +kernel) (pa_cons (pe_lc (own := [("_law_at", 1), ("_law_way", 2)]) (g := (gTup K 2 (gCons (gName 1) (gCons (gName 2) gNil)))) (tt := tYes) (by rfl) sc__law_widest.nd (pi_list (pe_ix SH.ixA (pv 0) pe_int (fun _ _ => rfl))) (blkOk_by (own := [("_law_at", 1), ("_law_way", 2)]) (N := ["_law_plan", "_law_at", "_law_way"]) (sc := defScope s__law_widest) (by decide +kernel)) (fun _ _ _ _ _ => (pg_tup (by rfl) (pgs_cons (pg_name (i := 1) sc__law_widest.nd rfl (Or.inl rfl)) (pgs_cons (pg_name (i := 2) sc__law_widest.nd rfl (Or.inl rfl)) pgs_nil)))) (fun _ _ _ _ _ => pts_nil) (fun _ _ _ _ _ => (pv 1))) pa_nil) (pk_cons (pe_un un_neg pe_int) pk_nil)))) pss_nil)
        (pss_cons (ps_if (pt_cmpR (SH.oEq hr.units) (pe_ix SH.ixA (pv 0) pe_int (fun _ _ => rfl)) pe_str (nomark _)) (pss_one (ps_ret (pe_un un_neg pe_int))) pss_nil)
        (pss_one (ps_ret (pe_ix SH.ixA (pv 0) pe_int (fun _ _ => rfl)))))), ?_⟩
  walk_at "begin"
  obtain ⟨e1, e2, e3, e4, e5, e6, e7, e8, e9, e10, e11, e12, e13, e14⟩ := kinds_is
  walk_at "rd"
  cases r with
  | key cols =>
    obtain ⟨l, cvs, ht, hl, hC⟩ := hP
    have hc5 := hg.1
    refine v_ixTn (n := 0) (SqT.of ht) rfl rfl ?_
    walk_at "rd"
    refine v_eqS ?_
    rw [e1]
    walk_at "rd"
    refine v_ixTn (n := 1) (SqT.of ht) rfl rfl ?_
    refine v_iList (SqL.of hl) ?_
    intro D hD
    refine lc_it (walk_list (xs := cvs)) (fun j H' => Stp [] H H' ∧ H' D = some (.lst (((cols.take j).map fun c => (c.1 : Int)).map V.int))) ⟨(Stp.refl _ _).new hD, upd_same⟩ (fun j H' _ z => z.1.sql0 (SqL.of hl)) ?_ ?_
    · rintro j v H1 H2 hj ⟨S, hL⟩ ⟨rfl, hv⟩
      obtain ⟨t, c, rfl, hc, ht⟩ := hC.2 j v hv
      have ht2 := S.tup ht
      walk_at "rd"
      refine ⟨_, hL, Nat.lt_of_le_of_lt (m := 1000) (by rw [List.length_map, List.length_map]; exact Nat.le_trans (List.length_take_le' _ _) (by omega)) (by decide), S.putN hD, ?_⟩
      rw [upd_same, List.take_succ, hc]
      simp
    rintro H1 ⟨S, hL⟩
    rw [hC.1, List.take_length] at hL
    walk_at "rd"
    refine ⟨D, cols.map fun c => (c.1 : Int), -1, rfl, rfl, SqL.of hL, fun e => ?_, fun m h1 h2 => ?_⟩
    · have k' : Q (.int (maxD (cols.map fun c => (c.1 : Int)))) H1 := k H1 S
      rw [e] at k'
      exact k'
    · rw [maxD_of (fun n hn => by obtain ⟨c, _, rfl⟩ := List.mem_map.mp hn; omega) h1 h2]
      exact k H1 S
  | near i g =>
    have ht : H t = some (.tup [.str "near", .int i, .int g]) := hP
    refine v_ixTn (n := 0) (SqT.of ht) rfl rfl ?_
    walk_at "rd"
    refine v_eqS ?_
    rw [e2]
    walk_at "rd"
    refine v_ixTn (n := 0) (SqT.of ht) rfl rfl ?_
    walk_at "rd"
    refine v_eqS ?_
    rw [show decide (("near" : Str) = "asked") = false from by decide +kernel]
    walk_at "rd"
    refine v_ixTn (n := 1) (SqT.of ht) rfl rfl ?_
    exact k H (Stp.refl _ _)
  | ring i g =>
    have ht : H t = some (.tup [.str "ring", .int i, .int g]) := hP
    refine v_ixTn (n := 0) (SqT.of ht) rfl rfl ?_
    walk_at "rd"
    refine v_eqS ?_
    rw [e4]
    walk_at "rd"
    refine v_ixTn (n := 0) (SqT.of ht) rfl rfl ?_
    walk_at "rd"
    refine v_eqS ?_
    rw [show decide (("ring" : Str) = "asked") = false from by decide +kernel]
    walk_at "rd"
    refine v_ixTn (n := 1) (SqT.of ht) rfl rfl ?_
    exact k H (Stp.refl _ _)
  | asked i g =>
    have ht : H t = some (.tup [.str "asked", .int i, .int g]) := hP
    refine v_ixTn (n := 0) (SqT.of ht) rfl rfl ?_
    walk_at "rd"
    refine v_eqS ?_
    rw [e7]
    walk_at "rd"
    refine v_ixTn (n := 0) (SqT.of ht) rfl rfl ?_
    walk_at "rd"
    refine v_eqS ?_
    rw [e10]
    walk_at "rd"
    exact k H (Stp.refl _ _)
  | table i n' G =>
    obtain ⟨l, gvs, ht, hl, hG⟩ := hP
    refine v_ixTn (n := 0) (SqT.of ht) rfl rfl ?_
    walk_at "rd"
    refine v_eqS ?_
    rw [e11]
    walk_at "rd"
    refine v_ixTn (n := 0) (SqT.of ht) rfl rfl ?_
    walk_at "rd"
    refine v_eqS ?_
    rw [e14]
    walk_at "rd"
    refine v_ixTn (n := 1) (SqT.of ht) rfl rfl ?_
    exact k H (Stp.refl _ _)
/-- the votes or the chain -/
inductive Top.At (K : PySem.W.Frag) (A : Ad) (H : Hp) (u : Addr) (way : Nat) (rs : List R0) : Prop
  | votes {d l : Addr} {uvs : List V} (h0 : way = 0) (h : H u = some (.ins A.VoteRule d [("rules", .ref l)])) (hl : H l = some (.lst uvs)) (hR : RsAt K A H uvs rs) : Top.At K A H u way rs
  | chain {d l : Addr} {uvs : List V} (h0 : way ≠ 0) (h : H u = some (.ins A.ChainRule d [("rules", .ref l)])) (hl : H l = some (.lst uvs)) (hR : PsAt K A H uvs (partsOf way rs)) : Top.At K A H u way rs
theorem Top.At.ext {K : PySem.W.Frag} {A : Ad} {H H' : Hp} {u : Addr} {way : Nat} {rs : List R0} (h : Top.At K A H u way rs) (e : ExtN H H') : Top.At K A H' u way rs := by
  cases h with
  | votes h0 h hl hR => exact .votes h0 (ext_ins e h) (ext_lst e hl) (hR.ext e)
  | chain h0 h hl hR => exact .chain h0 (ext_ins e h) (ext_lst e hl) (hR.ext e)
def sp__law_told (K : PySem.W.Frag) (A : Ad) : Sp := fun vs H Q _ => ∃ (u q x y : Addr) (pvs : List V) (rs : List R0) (n way : Nat) (xs ys : List Int), vs = [.ref u, .ref q, .int way, .ref x, .ref y] ∧ (Top.At K A H u way rs ∧ H q = some (.lst pvs) ∧ PlsAt K H pvs rs ∧ 1 ≤ rs.length ∧ rs.length ≤ 100 ∧ (∀ r ∈ rs, r.good n) ∧ H x = some (.tup (xs.map V.int)) ∧ H y = some (.tup (ys.map V.int)) ∧ Thg n xs ∧ Thg n ys ∧ way ≤ 3) ∧ ∀ H', Stp [] H H' → Q (.bl true) H'
theorem parts_fit {n way : Nat} {rs : List R0} {xs : List Int} (hg : ∀ r ∈ rs, r.good n) (hr1 : 1 ≤ rs.length) (f : Thg n xs) : ∀ p ∈ partsOf way rs, p.fit xs := by
  obtain ⟨r0, rr, hrs⟩ : ∃ r0 rr, rs = r0 :: rr := List.exists_cons_of_ne_nil (fun z => by subst z; simp at hr1)
  intro p hp
  unfold partsOf at hp
  have h0 : (R1.one r0).fit xs := (hg r0 (by rw [hrs]; simp)).fit f
  have hv : (R1.votes rr).fit xs := fun r hr' => (hg r (by rw [hrs]; exact List.mem_cons_of_mem _ hr')).fit f
  split at hp
  · obtain ⟨r, hr', rfl⟩ := List.mem_map.mp hp
    exact (hg r hr').fit f
  · subst hrs
    split at hp
    · simp at hp
      rcases hp with rfl | rfl
      · exact h0
      · exact hv
    · simp at hp
      rcases hp with rfl | rfl
      · exact hv
      · exact h0
theorem ok__law_told {P : Program} {w : World} {K : PySem.W.Frag} {mg : Str → Option Value} {base : Heap} {A : Ad} {f : Addr} {fd : FuncData} (F : Fun K "_law_told" "_law_told" s__law_told f fd) (T : Txt K mg A) (M_ChainRule_before : SH.CalM P w K mg base CX0 4 A.ChainRule "before" [] (sp_ChainRule_before K A)) (M_VoteRule_before : SH.CalM P w K mg base CX0 3 A.VoteRule "before" [] (sp_VoteRule_before K A)) (C__law_before : SH.Cal P w K mg base CX0 3 "_law_before" [] (sp__law_before K A)) : FnOk P w K mg base CX0 5 f fd ["_law_rule", "_law_plans", "_law_way", "_law_x", "_law_y"] (sp__law_told K A) := by
  refine F.ok sc__law_told (fun vs H Q E h => by obtain ⟨_, _, _, _, _, _, _, _, _, _, rfl, _⟩ := h; rfl) (fun cdv A' outer s H vs Q E hr h => ?_)
  obtain ⟨u, q, x, y, pvs, rs, n, way, xs, ys, rfl, ⟨hU, hq, hP, hr1, hrl, hg, hx, hy, fx, fy, hw⟩, k⟩ := h
  refine ⟨_, (pss_cons (ps_set (i := 5) sc__law_told.nd rfl (Or.inl rfl) (SH.peOrE (SH.pe_methF (pv 0) M_VoteRule_before hr pass0 (pa_cons (pv 3) (pa_cons (pv 4) pa_nil))) (SH.pe_methF (pv 0) M_ChainRule_before hr pass0 (pa_cons (pv 3) (pa_cons (pv 4) pa_nil)))))
        (pss_one (ps_ret (pe_and (pe_callB call_isi (by rfl) T.z_isinstance (by decide +kernel) (pa_cons (pv 5) (pa_cons (pe_bltn (v := .ty "bool") (by rfl) T.z_bool (by decide +kernel) rfl) pa_nil))) (pe_one (pe_cmpR (SH.oEq hr.units) (pv 5) (SH.pe_callF C__law_before hr (by rfl) pass0 (pa_cons (pv 1) (pa_cons (pv 2) (pa_cons (pv 3) (pa_cons (pv 4) pa_nil))))) (nomark _))))))), ?_⟩
  walk_at "begin"
  walk_at "rd"
  have fin : ∀ (H1 : Hp), Stp [] H H1 → sp__law_before K A [.ref q, .int way, .ref x, .ref y] H1 (fun v H2 => ∃ b, v = .bl b ∧ b = topB way rs xs ys ∧ Stp [] H H2) E0 := fun H1 S1 =>
    ⟨q, x, y, pvs, rs, n, way, xs, ys, rfl, ⟨S1.keep0 hq, hP.ext (stp_ext S1), hr1, hrl, hg, S1.tup hx, S1.tup hy, fx, fy, hw⟩, fun H2 S2 => ⟨_, rfl, rfl, S1.trans S2⟩⟩
  cases hU with
  | @votes d l uvs h0 h hl hR =>
    refine r_orL ?_
    walk_at "rd"
    refine ⟨u, x, y, d, l, uvs, rs, xs, ys, rfl, h, ⟨SqL.of hl, hR, hx, hy, fun r hr' => ⟨(hg r hr').fit fx, (hg r hr').fit fy⟩⟩, fun H1 S1 => ?_⟩
    walk_at "rd"
    refine ⟨q, x, y, pvs, rs, n, way, xs, ys, rfl, ⟨S1.keep0 hq, hP.ext (stp_ext S1), hr1, hrl, hg, S1.tup hx, S1.tup hy, fx, fy, hw⟩, fun H2 S2 => ?_⟩
    walk_at "rd"
    rw [show topB way rs xs ys = voteB rs xs ys from by unfold topB; rw [if_pos h0]]
    rw [decide_eq_true rfl]
    exact k _ (S1.trans S2)
  | @chain d l uvs h0 h hl hR =>
    refine r_orR ?_
    walk_at "rd"
    refine ⟨u, x, y, d, l, uvs, _, xs, ys, rfl, h, ⟨SqL.of hl, hR, hx, hy, fun r hr' => ⟨parts_fit hg hr1 fx r hr', parts_fit hg hr1 fy r hr'⟩⟩, fun H1 S1 => ?_⟩
    walk_at "rd"
    refine ⟨q, x, y, pvs, rs, n, way, xs, ys, rfl, ⟨S1.keep0 hq, hP.ext (stp_ext S1), hr1, hrl, hg, S1.tup hx, S1.tup hy, fx, fy, hw⟩, fun H2 S2 => ?_⟩
    walk_at "rd"
    rw [show topB way rs xs ys = chainB (partsOf way rs) xs ys from by unfold topB; rw [if_neg h0]]
    rw [decide_eq_true rfl]
    exact k _ (S1.trans S2)

theorem tabs_M {A : Ad} {M : List Addr} {H H' : Hp} (h : TabsN (Tb A) H) (S : Stp M H H') (hM : A.P ∉ M) : TabsN (Tb A) H' := fun p hp => by
  rw [List.mem_singleton] at hp
  subst hp
  obtain ⟨ps, h1, h2, h3⟩ := h _ (List.mem_singleton.mpr rfl)
  exact ⟨ps, S.keep h1 hM, h2, fun pos cv hc => by obtain ⟨c, e, q⟩ := h3 pos cv hc; exact ⟨c, e, S.fix q True.intro⟩⟩
theorem tabs_at {A : Ad} {H : Hp} (h : TabsN (Tb A) H) : ∃ ps, H A.P = some (.tbl ps) := by
  obtain ⟨ps, h1, _⟩ := h _ (List.mem_singleton.mpr rfl)
  exact ⟨ps, h1⟩
theorem tabs_lst {A : Ad} {H : Hp} {D : Addr} {vs ws : List V} (h : TabsN (Tb A) H) (hD : H D = some (.lst vs)) : TabsN (Tb A) (upd H D (.lst ws)) := by
  refine tabs_M h ((Stp.refl [D] H).putL (by simp) hD) fun z => ?_
  obtain ⟨ps, hp⟩ := tabs_at h
  rw [List.mem_singleton] at z
  rw [z, hD] at hp
  cases hp
theorem ext_put {H H1 : Hp} {D : Addr} {o : HO} (e : ExtN H H1) (h : H D = none) : ExtN H (upd H1 D o) := fun b u k n => by
  rw [upd_ne (fun z => by subst z; rw [h] at k; cases k)]
  exact e b u k n
theorem hid_step {M L : List Addr} {H H' : Hp} (S : Stp M H H') (h : ∀ m ∈ M, m ∈ L) : Stp [] (hid L H) (hid L H') := ⟨fun b o e _ => by
  unfold hid at e ⊢
  by_cases hb : b ∈ L
  · rw [if_pos hb] at e; cases e
  · rw [if_neg hb] at e ⊢; exact S.keep e fun z => hb (h b z), fun b e => by
  unfold hid at e ⊢
  by_cases hb : b ∈ L
  · rw [if_pos hb]
  · rw [if_neg hb] at e ⊢; exact S.dom b e⟩
theorem PlsAt.snoc {K : PySem.W.Frag} {H : Hp} {pvs : List V} {rs : List R0} {t : Addr} {r : R0} (h : PlsAt K H pvs rs) (k : PlanAt K H t r) : PlsAt K H (pvs ++ [.ref t]) (rs ++ [r]) := by
  have hl := h.len
  refine ⟨by simp [hl], fun j v e => ?_⟩
  by_cases hj : j < pvs.length
  · rw [List.getElem?_append_left hj] at e
    obtain ⟨u', r', h1, h2, h3⟩ := h.at_ j v e
    exact ⟨u', r', h1, by rw [List.getElem?_append_left (by omega)]; exact h2, h3⟩
  · rw [List.getElem?_append_right (by omega)] at e
    have : j - pvs.length = 0 := by
      cases h : j - pvs.length with
      | zero => rfl
      | succ m => rw [h] at e; cases e
    rw [this] at e
    cases e
    exact ⟨t, r, rfl, by rw [List.getElem?_append_right (by omega), show j - rs.length = 0 by omega]; rfl, k⟩
theorem hid_all {L : List Addr} {H : Hp} : ExtN (hid L H) H := fun b o e _ => by
  unfold hid at e
  by_cases hb : b ∈ L
  · rw [if_pos hb] at e; cases e
  · rw [if_neg hb] at e; exact e
theorem RsAt.refs {K : PySem.W.Frag} {A : Ad} {H : Hp} {uvs : List V} {rs : List R0} (h : RsAt K A H uvs rs) : ∃ cs : List Addr, uvs = cs.map V.ref := by
  have : ∀ (us : List V), (∀ v ∈ us, ∃ u : Addr, v = .ref u) → ∃ cs : List Addr, us = cs.map V.ref := by
    intro us
    induction us with
    | nil => intro _; exact ⟨[], rfl⟩
    | cons a r ih =>
      intro h
      obtain ⟨u, rfl⟩ := h a (List.mem_cons_self ..)
      obtain ⟨cs, rfl⟩ := ih fun v hv => h v (List.mem_cons_of_mem _ hv)
      exact ⟨u :: cs, rfl⟩
  refine this uvs fun v hv => ?_
  obtain ⟨j, hj⟩ := List.getElem?_of_mem hv
  obtain ⟨u, r, e, _⟩ := h.at_ j v hj
  exact ⟨u, e⟩
theorem RsAt.noneOr {K : PySem.W.Frag} {mg : Str → Option Value} {A : Ad} {H : Hp} {uvs : List V} {rs : List R0} (T : Txt K mg A) (h : RsAt K A H uvs rs) : ∀ z ∈ uvs, NoneOr K H z := fun v hv => by
  obtain ⟨j, hj⟩ := List.getElem?_of_mem hv
  obtain ⟨u, r, e, _, hA⟩ := h.at_ j v hj
  subst e
  cases hA with
  | key h _ _ => exact .inr ⟨u, _, _, _, rfl, h, T.ne_KeyRule.mro, T.ne_KeyRule.eq⟩
  | near h => exact .inr ⟨u, _, _, _, rfl, h, T.ne_NearRule.mro, T.ne_NearRule.eq⟩
  | ring h _ => exact .inr ⟨u, _, _, _, rfl, h, T.ne_RingRule.mro, T.ne_RingRule.eq⟩
  | table h _ _ => exact .inr ⟨u, _, _, _, rfl, h, T.ne_TableRule.mro, T.ne_TableRule.eq⟩
  | asked h _ _ => exact .inr ⟨u, _, _, _, rfl, h, T.ne_AskedRule.mro, T.ne_AskedRule.eq⟩
theorem no_non (cs : List Addr) : (cs.map V.ref).any isNon = false := by
  rw [List.any_map]
  exact List.any_eq_false.mpr fun _ _ => by simp [isNon]
/-- things in the heap -/
def ThsAt (H : Hp) (tvs : List V) (X : List (List Int)) : Prop := tvs.length = X.length ∧ ∀ (i : Nat) (v : V), tvs[i]? = some v → ∃ (x : Addr) (xs : List Int), v = .ref x ∧ X[i]? = some xs ∧ H x = some (.tup (xs.map V.int))
theorem ThsAt.stp {M : List Addr} {H H' : Hp} {rvs : List V} {X : List (List Int)} (h : ThsAt H rvs X) (S : Stp M H H') : ThsAt H' rvs X :=
  ⟨h.1, fun i v e => by obtain ⟨x, xs, h1, h2, h3⟩ := h.2 i v e; exact ⟨x, xs, h1, h2, S.tup h3⟩⟩
theorem foldl_max2 : ∀ (b : List Int) (m k : Int), b.foldl max (max m k) = max m (b.foldl max k)
  | [], m, k => rfl
  | x :: b, m, k => by
    rw [List.foldl_cons, List.foldl_cons, show max (max m k) x = max m (max k x) by omega]
    exact foldl_max2 b m (max k x)
theorem maxD_app (a b : List Int) : maxD (a ++ b) = max (maxD a) (maxD b) := by
  have h := foldl_max2 b (maxD a) (-1)
  have hl := maxD_low a
  rw [show max (maxD a) (-1) = maxD a by omega] at h
  unfold maxD at *
  rw [List.foldl_append]
  exact h
theorem maxD_one (n : Int) (h : -1 ≤ n) : maxD [n] = n := by show max (-1) n = n; omega
theorem parts_wid {way : Nat} {rs : List R0} (hr1 : 1 ≤ rs.length) : maxD ((partsOf way rs).map R1.wid) = maxD (rs.map R0.wid) := by
  obtain ⟨r0, rr, hrs⟩ : ∃ r0 rr, rs = r0 :: rr := List.exists_cons_of_ne_nil (fun z => by subst z; simp at hr1)
  subst hrs
  have e0 : maxD ((r0 :: rr).map R0.wid) = max r0.wid (maxD (rr.map R0.wid)) := by
    rw [List.map_cons, show r0.wid :: rr.map R0.wid = [r0.wid] ++ rr.map R0.wid from rfl, maxD_app, maxD_one _ r0.wid_low]
  have hl := maxD_low (rr.map R0.wid)
  unfold partsOf
  split
  · rw [List.map_map]
    rfl
  · split
    · rw [e0]
      show maxD ([r0.wid] ++ [maxD (rr.map R0.wid)]) = _
      rw [maxD_app, maxD_one _ r0.wid_low, maxD_one _ hl]
    · rw [e0]
      show maxD ([maxD (rr.map R0.wid)] ++ [r0.wid]) = _
      rw [maxD_app, maxD_one _ r0.wid_low, maxD_one _ hl]
      omega
theorem parts_few {way : Nat} {rs : List R0} (hr1 : 1 ≤ rs.length) (hr5 : rs.length ≤ 100) (f : ∀ r ∈ rs, r.few) : ∀ p ∈ partsOf way rs, p.few := by
  obtain ⟨r0, rr, hrs⟩ : ∃ r0 rr, rs = r0 :: rr := List.exists_cons_of_ne_nil (fun z => by subst z; simp at hr1)
  subst hrs
  have h0 : (R1.one r0).few := f r0 (by simp)
  have hv : (R1.votes rr).few := ⟨fun r hr' => f r (List.mem_cons_of_mem _ hr'), by simp at hr5; omega⟩
  intro p hp
  unfold partsOf at hp
  split at hp
  · obtain ⟨r, hr', rfl⟩ := List.mem_map.mp hp
    exact f r hr'
  · split at hp
    · simp at hp
      rcases hp with rfl | rfl
      · exact h0
      · exact hv
    · simp at hp
      rcases hp with rfl | rfl
      · exact hv
      · exact h0
theorem parts_len {way : Nat} {rs : List R0} (hr5 : rs.length ≤ 100) : (partsOf way rs).length ≤ 1000 := by
  unfold partsOf
  split
  · simp; omega
  · split <;> simp
theorem ix_prev {K : PySem.W.Frag} {H : Hp} {X : Addr} {tvs : List V} {j : Nat} (hX : SqL K H X tvs) (hj : j < tvs.length) : ∃ i1, i1 < tvs.length ∧ ∀ (Q : VK) (v1 : V), tvs[i1]? = some v1 → Q v1 H → aIx K (.ref X) (.int ((j : Int) - 1)) H Q := by
  by_cases h0 : j = 0
  · subst h0
    have hne : tvs ≠ [] := fun z => by subst z; simp at hj
    obtain ⟨ds, y, e⟩ : ∃ ds y, tvs = ds ++ [y] := ⟨_, _, (List.dropLast_concat_getLast hne).symm⟩
    refine ⟨ds.length, by rw [e]; simp, fun Q v1 h q => ?_⟩
    rw [e] at h hX
    rw [List.getElem?_append_right (Nat.le_refl _), Nat.sub_self] at h
    cases h
    exact v_ixLast hX q
  · exact ⟨j - 1, by omega, fun Q v1 h q => v_ixLn (n := j - 1) hX (by omega) h q⟩
def sp_law (K : PySem.W.Frag) (A : Ad) : Sp := fun vs H Q _ => ∃ (a : Addr) (ns : List Int), vs = [.ref a] ∧ (SqL K H a (ns.map V.int) ∧ ns.length ≤ 63 ∧ TabsN (Tb A) H) ∧ ∀ H', Q (.bl true) H'
theorem ok_law {P : Program} {w : World} {K : PySem.W.Frag} {mg : Str → Option Value} {base : Heap} {A : Ad} {f : Addr} {fd : FuncData} (F : Fun K "law" "law" s_law f fd) (T : Txt K mg A) (M_ChainRule_widest : SH.CalM P w K mg base CX0 3 A.ChainRule "widest" [] (sp_ChainRule_widest K A)) (M_VoteRule_widest : SH.CalM P w K mg base CX0 2 A.VoteRule "widest" [] (sp_VoteRule_widest K A)) (C__law_cell_at : SH.Cal P w K mg base CX0 1 "_law_cell_at" [] (sp__law_cell_at K A)) (C__law_figures : SH.Cal P w K mg base CX0 1 "_law_figures" [] (sp__law_figures K A)) (C__law_plan_by : SH.Cal P w K mg base CX0 2 "_law_plan_by" [] (sp__law_plan_by K A)) (C__law_rule_of : SH.Cal P w K mg base CX0 4 "_law_rule_of" [] (sp__law_rule_of K A)) (C__law_told : SH.Cal P w K mg base CX0 5 "_law_told" [] (sp__law_told K A)) (C__law_widest : SH.Cal P w K mg base CX0 1 "_law_widest" [] (sp__law_widest K A)) (N_ChainRule : SH.CalC P w K mg base CX0 1 "ChainRule" A.ChainRule [] (sp_ChainRule___init__ K A)) (N_VoteRule : SH.CalC P w K mg base CX0 1 "VoteRule" A.VoteRule [] (sp_VoteRule___init__ K A)) : FnOk P w K mg base CX0 6 f fd ["_law_script"] (sp_law K A) := by
  refine F.ok sc_law (fun vs H Q E h => by obtain ⟨_, _, rfl, _⟩ := h; rfl) (fun cdv A' outer s H vs Q E hr h => ?_)
  obtain ⟨a, ns, rfl, ⟨hS, hlen, hTb⟩, k⟩ := h
  refine ⟨_, (pss_cons (ps_set (i := 1) sc_law.nd rfl (Or.inr rfl) (pe_op SH.oAdd pe_int (pe_op SH.oMod (SH.pe_callF C__law_cell_at hr (by rfl) pass0 (pa_cons (pv 0) (pa_cons pe_int pa_nil))) pe_int)))
        (pss_cons (ps_set (i := 2) sc_law.nd rfl (Or.inl rfl) (pe_op SH.oMod (pe_op SH.oDiv (SH.pe_callF C__law_cell_at hr (by rfl) pass0 (pa_cons (pv 0) (pa_cons pe_int pa_nil))) pe_int) pe_int))
        (pss_cons (ps_set (i := 3) sc_law.nd rfl (Or.inl rfl) (pe_lst pa_nil))
        (pss_cons (ps_for PassesOwn.never rfl (pi_range1 (by rfl) T.z_range (pa_cons (pe_op SH.oAdd pe_int (pe_op SH.oMod (SH.pe_callF C__law_cell_at hr (by rfl) pass0 (pa_cons (pv 0) (pa_cons pe_int pa_nil))) pe_int)) pa_nil)) (pg_name (i := 4) sc_law.nd rfl (Or.inl rfl)) (pss_one (ps_expr (pe_bm PySem.F.plainAttrs_list PySem.F.slot_list_append PySem.F.type_list_append mt_append (pv 3) (pa_cons (SH.pe_callF C__law_plan_by hr (by rfl) pass0 (pa_cons (SH.pe_callF C__law_cell_at hr (by rfl) pass0 (pa_cons (pv 0) (pa_cons (pe_op SH.oAdd pe_int (pv 4)) pa_nil))) (pa_cons (pv 1) pa_nil))) pa_nil)))))
        (pss_cons (ps_setLc (i := 5) (own := [("_law_plan", 12)]) (g := (gName 12)) (tt := tYes) (by rfl) sc_law.nd rfl rfl (sw_true rfl rfl rfl (by decide +kernel)) (pi_list (pv 3)) (blkOk_by (own := [("_law_plan", 12)]) (N := ["_law_script", "_law_long", "_law_way", "_law_plans", "_law_k", "_law_rules", "_law_handed", "_law_rule", "_law_things", "_law_x", "_law_y", "_law_found", "_law_plan", "_law_cell"]) (sc := defScope s_law) (by decide +kernel)) (fun _ _ _ _ _ => (pg_name (i := 12) sc_law.nd rfl (Or.inl rfl))) (fun _ _ _ _ _ => pts_nil) (fun _ _ _ _ _ => (SH.pe_callF C__law_rule_of hr (by rfl) pass0 (pa_cons (pv 12) pa_nil))))
        (pss_cons (ps_if (pt_cmpR (op_noneIn hr.units) pe_non (pv 5) (by rfl)) (pss_one (ps_ret pe_bl)) pss_nil)
        (pss_cons (ps_if (pt_cmpR SH.oGt (pv 2) pe_int (nomark _)) (pss_one (ps_set (i := 5) sc_law.nd rfl (Or.inl rfl) (pe_lst (pa_cons (pe_ix SH.ixA (pv 5) pe_int (fun _ _ => rfl)) (pa_cons (SH.pe_makeF N_VoteRule hr (by rfl) pass0 (pa_cons (pe_slice sl_list (pv 5) (po_some pe_int) po_none) pa_nil)) pa_nil))))) pss_nil)
        (pss_cons (ps_if (pt_cmpR (SH.oEq hr.units) (pv 2) pe_int (nomark _)) (pss_one (ps_expr (pe_bm0 PySem.F.plainAttrs_list PySem.F.slot_list_reverse PySem.F.type_list_reverse mt_reverse (pv 5)))) pss_nil)
        (pss_cons (ps_set (i := 6) sc_law.nd rfl (Or.inl rfl) (pe_callTy SH.cListOf (by rfl) T.z_list (by decide +kernel) (pa_cons (pv 5) pa_nil)))
        (pss_cons (ps_if (pt_cmpR (SH.oEq hr.units) (pv 2) pe_int (nomark _)) (pss_one (ps_set (i := 7) sc_law.nd rfl (Or.inl rfl) (SH.pe_makeF N_VoteRule hr (by rfl) pass0 (pa_cons (pv 6) pa_nil)))) (pss_one (ps_set (i := 7) sc_law.nd rfl (Or.inl rfl) (SH.pe_makeF N_ChainRule hr (by rfl) pass0 (pa_cons (pv 6) pa_nil)))))
        (pss_cons (ps_if (pt_cmpR (SH.op_neSame hr.units) (pv 6) (pv 5) (nomark _)) (pss_one (ps_ret pe_bl)) pss_nil)
        (pss_cons (ps_expr (pe_bm0 PySem.F.plainAttrs_list PySem.F.slot_list_clear PySem.F.type_list_clear mt_clear (pv 6)))
        (pss_cons (ps_setLc (i := 8) (own := [("_law_cell", 13)]) (g := (gName 13)) (tt := tYes) (by rfl) sc_law.nd rfl rfl (sw_true rfl rfl rfl (by decide +kernel)) (pi_list (pe_slice sl_list (pv 0) (po_some pe_int) (po_some pe_int))) (blkOk_by (own := [("_law_cell", 13)]) (N := ["_law_script", "_law_long", "_law_way", "_law_plans", "_law_k", "_law_rules", "_law_handed", "_law_rule", "_law_things", "_law_x", "_law_y", "_law_found", "_law_plan", "_law_cell"]) (sc := defScope s_law) (by decide +kernel)) (fun _ _ _ _ _ => (pg_name (i := 13) sc_law.nd rfl (Or.inl rfl))) (fun _ _ _ _ _ => pts_nil) (fun _ _ _ _ _ => (pe_callTy (SH.crK SH.rTupOf K SH.cTupOf) (by rfl) T.z_tuple (by decide +kernel) (pa_cons (SH.pe_callF C__law_figures hr (by rfl) pass0 (pa_cons (pv 13) (pa_cons pe_int (pa_cons (pv 1) pa_nil)))) pa_nil))))
        (pss_cons (ps_for PassesOwn.never rfl (pi_range1 (by rfl) T.z_range (pa_cons (pe_callB SH.cLen (by rfl) T.z_len (by decide +kernel) (pa_cons (pv 8) pa_nil)) pa_nil)) (pg_name (i := 4) sc_law.nd rfl (Or.inl rfl)) (pss_one (ps_for PassesOwn.never rfl (pi_list (pe_lst (pa_cons (pe_tup (pa_cons (pe_ix SH.ixA (pv 8) (pv 4) (fun _ _ => rfl)) (pa_cons (pe_ix SH.ixA (pv 8) (pe_op SH.oSub (pv 4) pe_int) (fun _ _ => rfl)) pa_nil))) (pa_cons (pe_tup (pa_cons (pe_ix SH.ixA (pv 8) (pv 4) (fun _ _ => rfl)) (pa_cons (pe_ix SH.ixA (pv 8) (pv 4) (fun _ _ => rfl)) pa_nil))) (pa_cons (pe_tup (pa_cons (pe_ix SH.ixA (pv 8) (pv 4) (fun _ _ => rfl)) (pa_cons (pe_ix SH.ixA (pv 8) pe_int (fun _ _ => rfl)) pa_nil))) pa_nil))))) (pg_tup (by rfl) (pgs_cons (pg_name (i := 9) sc_law.nd rfl (Or.inl rfl)) (pgs_cons (pg_name (i := 10) sc_law.nd rfl (Or.inl rfl)) pgs_nil))) (pss_one (ps_if (PW.pt (pw_or (pt_not (pt_val (SH.pe_callF C__law_told hr (by rfl) pass0 (pa_cons (pv 7) (pa_cons (pv 3) (pa_cons (pv 2) (pa_cons (pv 9) (pa_cons (pv 10) pa_nil)))))))) (pw_or1 (pt_not (pt_val (SH.pe_callF C__law_told hr (by rfl) pass0 (pa_cons (pv 7) (pa_cons (pv 3) (pa_cons (pv 2) (pa_cons (pv 10) (pa_cons (pv 9) pa_nil))))))))))) (pss_one (ps_ret pe_bl)) pss_nil)))))
        (pss_cons (ps_set (i := 11) sc_law.nd rfl (Or.inl rfl) (SH.peOrE (SH.pe_methF0 (pv 7) M_VoteRule_widest hr pass0) (SH.pe_methF0 (pv 7) M_ChainRule_widest hr pass0)))
        (pss_cons (ps_if (PW.pt (pw_or (pt_not (pt_val (pe_callB call_isi (by rfl) T.z_isinstance (by decide +kernel) (pa_cons (pv 11) (pa_cons (pe_bltn (v := .ty "int") (by rfl) T.z_int (by decide +kernel) rfl) pa_nil))))) (pw_or1 (pt_val (pe_callB call_isi (by rfl) T.z_isinstance (by decide +kernel) (pa_cons (pv 11) (pa_cons (pe_bltn (v := .ty "bool") (by rfl) T.z_bool (by decide +kernel) rfl) pa_nil))))))) (pss_one (ps_ret pe_bl)) pss_nil)
        (pss_one (ps_ret (pe_cmpR (SH.oEq hr.units) (pv 11) (pe_callB (cr_max rfl) (by rfl) T.z_max (by decide +kernel) (pa_cons (pe_lc (own := [("_law_plan", 12)]) (g := (gName 12)) (tt := tYes) (by rfl) sc_law.nd (pi_list (pv 3)) (blkOk_by (own := [("_law_plan", 12)]) (N := ["_law_script", "_law_long", "_law_way", "_law_plans", "_law_k", "_law_rules", "_law_handed", "_law_rule", "_law_things", "_law_x", "_law_y", "_law_found", "_law_plan", "_law_cell"]) (sc := defScope s_law) (by decide +kernel)) (fun _ _ _ _ _ => (pg_name (i := 12) sc_law.nd rfl (Or.inl rfl))) (fun _ _ _ _ _ => pts_nil) (fun _ _ _ _ _ => (SH.pe_callF C__law_widest hr (by rfl) pass0 (pa_cons (pv 12) pa_nil)))) pa_nil)) (nomark _)))))))))))))))))))), ?_⟩
  walk_at "begin"
  walk_at "rd"
  refine ⟨a, ns, 0, rfl, hS, fun c0 => ?_⟩
  walk_at "rd"
  have n0 := Int.emod_nonneg c0 (show (5 : Int) ≠ 0 by decide)
  have n1 := Int.emod_lt_of_pos c0 (show (0 : Int) < 5 by decide)
  obtain ⟨n, hn⟩ : ∃ n : Nat, 1 + c0 % 5 = (n : Int) := Int.eq_ofNat_of_zero_le (by omega)
  rw [hn]
  have hn15 : 1 ≤ n ∧ n ≤ 5 := by omega
  clear n0 n1 hn
  refine ⟨a, ns, 0, rfl, hS, fun c0' => ?_⟩
  walk_at "rd"
  have w0 := Int.emod_nonneg (c0' / 5) (show (4 : Int) ≠ 0 by decide)
  have w1 := Int.emod_lt_of_pos (c0' / 5) (show (0 : Int) < 4 by decide)
  obtain ⟨way, hway⟩ := Int.eq_ofNat_of_zero_le w0
  rw [hway]
  have hw3 : way ≤ 3 := by omega
  clear w0 w1 hway
  intro D hD
  have S1 := (Stp.refl [] H).new (o := .lst []) hD
  have hD1 := upd_same (H := H) (a := D) (o := .lst [])
  generalize hH1 : upd H D (.lst []) = H1 at S1 hD1 ⊢
  have hS1 := S1.sql0 hS
  walk_at "rd"
  refine ⟨a, ns, 1, rfl, hS1, fun c1 => ?_⟩
  walk_at "rd"
  have m0 := Int.emod_nonneg c1 (show (5 : Int) ≠ 0 by decide)
  have m1 := Int.emod_lt_of_pos c1 (show (0 : Int) < 5 by decide)
  generalize c1 % 5 = m at m0 m1 ⊢
  walk_at "rd"
  refine for_it walk_range (fun j σ H' => ∃ (pvs : List V) (rs : List R0) (v4 : Option V), (Stp [D] H1 H' ∧ H' D = some (.lst pvs) ∧ PlsAt K (hid [D] H') pvs rs ∧ rs.length = j ∧ ∀ r ∈ rs, r.good n) ∧ σ = [some (.ref a), some (.int n), some (.int way), some (.ref D), v4, none, none, none, none, none, none, none, none, none])
    ⟨[], [], _, ⟨.refl _ _, hD1, ⟨rfl, fun i v e => by cases e⟩, rfl, by simp⟩, rfl⟩ (fun _ _ _ _ _ => True.intro) ?_ ?_
  · rintro j x σ H2 H3 hj ⟨pvs, rs, v4, ⟨S, hL, hP, hl, hg⟩, rfl⟩ ⟨rfl, rfl⟩
    simp only [Int.zero_add]
    have S03 : Stp [] H H3 := S1.then S (by simp; exact hD)
    have hpl := hP.len
    walk_at "rd"
    refine ⟨a, ns, 2 + j, rfl, S03.sql0 hS, fun c => ?_⟩
    walk_at "rd"
    refine ⟨c, n, rfl, hn15, fun t r H4 ht S4 hA hgr => ?_⟩
    walk_at "rd"
    have hL4 := S4.keep0 hL
    refine v_app hL4 (by omega) ?_
    have Sx : Stp [D] H3 (upd H4 D (.lst (pvs ++ [.ref t]))) := (S4.mono (by simp)).putL (by simp) hL4
    refine ⟨pvs ++ [.ref t], rs ++ [r], _, ⟨S.trans Sx, upd_same, ?_, by simp [hl], fun r' hr' => ?_⟩, rfl⟩
    · rw [hid_upd (List.mem_singleton.mpr rfl)]
      exact (hP.ext (stp_ext (hid_mono S4))).snoc (hA [D] (Took.nil.cons hL))
    · rcases List.mem_append.mp hr' with z | z
      · exact hg r' z
      · rw [List.mem_singleton] at z; subst z; exact hgr
  rintro σ H2 ⟨pvs, rs, v4, ⟨S, hL, hP', hl, hg⟩, rfl⟩
  have hP := hP'.ext hid_all
  have S02 : Stp [] H H2 := S1.then S (by simp; exact hD)
  have hTb2 := tabs_stp hTb S02
  have hS2 := S02.sql0 hS
  have hrl : 1 ≤ rs.length ∧ rs.length ≤ 5 := by omega
  have hpl := hP.len
  clear S hP' S1 hD1 hS1 hTb
  walk_at "rd"
  intro E hE
  refine lc_it (walk_list (xs := pvs)) (fun j H' => (ExtN H2 H' ∧ (∀ b, H' b = none → H2 b = none) ∧ TabsN (Tb A) H') ∧ ∃ uvs, H' E = some (.lst uvs) ∧ RsAt K A (hid [E] H') uvs (rs.take j)) ⟨⟨stp_ext ((Stp.refl _ _).new hE), ((Stp.refl [] _).new hE).dom, tabs_stp hTb2 ((Stp.refl _ _).new hE)⟩, [], upd_same, RsAt.nil⟩ (fun j H' _ z => SqL.of (ext_lst z.1.1 hL)) ?_ ?_
  · rintro j v H3 H4 hj ⟨⟨e4, d4, tb4⟩, uvs, hL4, hR⟩ ⟨rfl, hv⟩
    obtain ⟨t, r, rfl, hr', hA⟩ := (hP.ext e4).at_ j v hv
    have hul := hR.len
    walk_at "rd"
    refine ⟨t, r, n, rfl, ⟨hA, hg r (List.mem_of_getElem? hr'), tb4, hn15.1⟩, fun u H5 e5 d5 tb5 hA5 => ?_⟩
    have hL5 := ext_lst e5 hL4
    refine ⟨uvs, hL5, Nat.lt_of_le_of_lt (m := 1000) (by rw [hul, List.length_take]; omega) (by decide), ⟨ext_put (e4.trans e5) hE, fun b h => ?_, tabs_lst tb5 hL5⟩, uvs ++ [.ref u], upd_same, ?_⟩
    · by_cases hb : b = E
      · subst hb; rw [upd_same] at h; cases h
      · rw [upd_ne hb] at h; exact d4 b (d5 b h)
    · rw [hid_upd (List.mem_singleton.mpr rfl), take_snoc hr']
      exact RsAt.snoc (hR.ext (hid_ext e5)) (hA5 [E] (Lsts.nil.cons hL4))
  rintro H3 ⟨⟨e3, d3, -⟩, uvs, hE3, hR'⟩
  rw [hpl, List.take_length] at hR'
  have hR := hR'.ext hid_all
  clear hR' hTb2
  have hL3 := ext_lst e3 hL
  have hP3 := hP.ext e3
  have hS3 := sql_extN e3 hS2
  obtain ⟨cs, hcs⟩ := hR.refs
  have hul := hR.len
  clear e3 d3 hL hP hS2 S02 hE
  walk_at "rd"
  refine ⟨E, uvs, rfl, rfl, SqL.of hE3, RsAt.noneOr T hR, ?_⟩
  rw [hcs, no_non]
  obtain ⟨r0, rr, hrs⟩ : ∃ r0 rr, rs = r0 :: rr := List.exists_cons_of_ne_nil (fun z => by subst z; simp at hrl)
  obtain ⟨c0, cr, hcc⟩ : ∃ c0 cr, cs = c0 :: cr := List.exists_cons_of_ne_nil (fun z => by subst z; rw [hcs] at hul; simp at hul; omega)
  have hR0 : R0.At K A H3 c0 r0 := by
    obtain ⟨u', r', z1, z2, z3⟩ := hR.at_ 0 (.ref c0) (by rw [hcs, hcc]; rfl)
    cases z1
    rw [hrs] at z2
    cases z2
    exact z3
  have hRr : RsAt K A H3 (cr.map V.ref) rr := ⟨by rw [hcs, hcc, hrs] at hul; simpa using hul, fun j v e => by
    obtain ⟨u', r', z1, z2, z3⟩ := hR.at_ (j + 1) v (by rw [hcs, hcc]; exact e)
    rw [hrs] at z2
    exact ⟨u', r', z1, z2, z3⟩⟩
  refine ⟨_, rfl, ?_⟩
  rw [if_neg (show ¬ ((if (false = true) then !false else false) = true) by simp)]
  walk_at "ri"
  refine r_J (fun σ H' => Stp [] H3 H' ∧ ∃ (lq : Addr) (ds : List Addr) (v4 : Option V), (H' lq = some (.lst (ds.map V.ref)) ∧ (way < 2 → RsAt K A H' (ds.map V.ref) rs) ∧ (1 < way → ∃ (H5 : Hp) (u1 : Addr), H5 lq = none ∧ Stp [] H3 H5 ∧ H' = upd H5 lq (.lst (ds.map V.ref)) ∧ ds = [c0, u1] ∧ R1.At K A H5 u1 (.votes rr))) ∧ σ = [some (.ref a), some (.int n), some (.int way), some (.ref D), v4, some (.ref lq), none, none, none, none, none, none, none, none]) ?_ fun N hN => ?_
  rotate_left
  · walk_at "rd"
    refine r_w (fun hc => ?_) fun hc => ?_
    · walk_at "rd"
      refine v_ixLn (n := 0) (SqL.of hE3) rfl (by rw [hcs, hcc]; rfl) ?_
      walk_at "rd"
      intro w hw
      rw [cutV_from, show uvs.drop 1 = cr.map V.ref by rw [hcs, hcc]; rfl]
      have S4 := (Stp.refl [] H3).new (o := .lst (cr.map V.ref)) hw
      have hw4 := upd_same (H := H3) (a := w) (o := .lst (cr.map V.ref))
      generalize upd H3 w (.lst (cr.map V.ref)) = H4 at S4 hw4 ⊢
      walk_at "rd"
      intro u du hu hdu hne
      have S5 : Stp [] H4 (upd (upd H4 du (.own u)) u (.ins A.VoteRule du [])) := ((Stp.refl [] H4).new hdu).new (by rw [upd_ne hne.symm]; exact hu)
      refine ⟨u, w, cr.map V.ref, rfl, ⟨du, upd_same⟩, S5.sql0 (SqL.of hw4), fun dx l H6 hl6 hul6 hu6 hl66 S6 => ⟨rfl, ?_⟩⟩
      have S36 : Stp [] H3 H6 := S4.trans (S5.then S6 (by simp; exact hu))
      walk_at "rd"
      intro lq hlq
      walk_at "rd"
      exact hN _ _ ⟨S36.new hlq, lq, [c0, u], _, ⟨upd_same, fun z => by omega, fun _ => ⟨H6, u, hlq, S36, rfl, rfl, .votes hu6 hl66 (hRr.ext (stp_ext S36))⟩⟩, rfl⟩
    · walk_at "rd"
      exact hN _ _ ⟨.refl _ _, E, cs, _, ⟨by rw [← hcs]; exact hE3, fun _ => by rw [← hcs]; exact hR, fun z => by omega⟩, rfl⟩
  rintro σ H4 ⟨S4, lq, ds, v4, ⟨hq4, hw1, hw2⟩, rfl⟩
  dsimp only
  walk_at "ri"
  refine r_J (fun σ H' => Stp [] H3 H' ∧ ∃ (ds : List Addr), (H' lq = some (.lst (ds.map V.ref)) ∧ (way = 0 → RsAt K A H' (ds.map V.ref) rs) ∧ (way ≠ 0 → PsAt K A H' (ds.map V.ref) (partsOf way rs))) ∧ σ = [some (.ref a), some (.int n), some (.int way), some (.ref D), v4, some (.ref lq), none, none, none, none, none, none, none, none]) ?_ fun N hN => ?_
  rotate_left
  · walk_at "rd"
    refine r_w (fun hc => ?_) fun hc => ?_
    · obtain ⟨H5, u1, h5n, S5, rfl, rfl, hV⟩ := hw2 (by omega)
      walk_at "rd"
      refine v_rev hq4 ?_
      rw [upd_upd]
      walk_at "rd"
      have S6 : Stp [] H5 (upd H5 lq (.lst ([c0, u1].map V.ref).reverse)) := (Stp.refl _ _).new h5n
      refine hN _ _ ⟨S5.trans S6, [u1, c0], ⟨upd_same, fun z => by omega, fun _ => ?_⟩, rfl⟩
      have : PsAt K A (upd H5 lq (.lst ([c0, u1].map V.ref).reverse)) ([] ++ [.ref u1] ++ [.ref c0]) ([] ++ [.votes rr] ++ [.one r0]) := (PsAt.nil.snoc (hV.ext (stp_ext S6))).snoc (.one (hR0.ext (stp_ext (S5.trans S6))))
      unfold partsOf
      rw [if_neg (by omega), if_neg (by omega), hrs]
      exact this
    · walk_at "rd"
      refine hN _ _ ⟨S4, ds, ⟨hq4, fun z => hw1 (by omega), fun z => ?_⟩, rfl⟩
      unfold partsOf
      by_cases h1 : way = 1
      · rw [if_pos h1]
        have hR4 := hw1 (by omega)
        exact ⟨by rw [hR4.len, List.length_map], fun j v e => by
          obtain ⟨u, r, z1, z2, z3⟩ := hR4.at_ j v e
          exact ⟨u, .one r, z1, by rw [List.getElem?_map, z2]; rfl, .one z3⟩⟩
      · rw [if_neg h1, if_pos (by omega), hrs]
        obtain ⟨H5, u1, h5n, S5, rfl, rfl, hV⟩ := hw2 (by omega)
        have S6 : Stp [] H5 (upd H5 lq (.lst ([c0, u1].map V.ref))) := (Stp.refl _ _).new h5n
        have : PsAt K A (upd H5 lq (.lst ([c0, u1].map V.ref))) ([] ++ [.ref c0] ++ [.ref u1]) ([] ++ [.one r0] ++ [.votes rr]) := (PsAt.nil.snoc (.one (hR0.ext (stp_ext (S5.trans S6))))).snoc (hV.ext (stp_ext S6))
        exact this
  rintro σ H5 ⟨S5, ds5, ⟨hq5, hw0, hwn⟩, rfl⟩
  clear hw1 hw2 hq4 S4 hR hRr hR0
  have hL5 := S5.keep0 hL3
  have hP5 := hP3.ext (stp_ext S5)
  have hS5 := S5.sql0 hS3
  clear hL3 hP3 hS3 S5
  dsimp only
  walk_at "rd"
  intro hq hhq
  have S6 := (Stp.refl [] H5).new (o := .lst (ds5.map V.ref)) hhq
  have hh6 := upd_same (H := H5) (a := hq) (o := .lst (ds5.map V.ref))
  generalize hH6 : upd H5 hq (.lst (ds5.map V.ref)) = H6 at S6 hh6 ⊢
  have hq6 := S6.keep0 hq5
  walk_at "ri"
  refine r_J (fun σ H' => Stp [] H6 H' ∧ ∃ (u d l : Addr), (H' l = some (.lst (ds5.map V.ref)) ∧ u ≠ hq ∧ l ≠ hq ∧ (way = 0 → H' u = some (.ins A.VoteRule d [("rules", .ref l)])) ∧ (way ≠ 0 → H' u = some (.ins A.ChainRule d [("rules", .ref l)]))) ∧ σ = [some (.ref a), some (.int n), some (.int way), some (.ref D), v4, some (.ref lq), some (.ref hq), some (.ref u), none, none, none, none, none, none]) ?_ fun N hN => ?_
  rotate_left
  · walk_at "rd"
    refine r_w (fun hc => ?_) fun hc => ?_
    · walk_at "rd"
      intro u du hu hdu hne
      have S7 : Stp [] H6 (upd (upd H6 du (.own u)) u (.ins A.VoteRule du [])) := ((Stp.refl [] H6).new hdu).new (by rw [upd_ne hne.symm]; exact hu)
      refine ⟨u, hq, _, rfl, ⟨du, upd_same⟩, S7.sql0 (SqL.of hh6), fun dx l H8 hl8 hul8 hu8 hl88 S8 => ⟨rfl, ?_⟩⟩
      have S68 : Stp [] H6 H8 := S7.then S8 (by simp; exact hu)
      walk_at "rd"
      exact hN _ _ ⟨S68, u, dx, l, ⟨hl88, (ne_of_none hh6 hu).symm, (ne_of_none hh6 (S7.dom _ hl8)).symm, fun _ => hu8, fun z => by omega⟩, rfl⟩
    · walk_at "rd"
      intro u du hu hdu hne
      have S7 : Stp [] H6 (upd (upd H6 du (.own u)) u (.ins A.ChainRule du [])) := ((Stp.refl [] H6).new hdu).new (by rw [upd_ne hne.symm]; exact hu)
      refine ⟨u, hq, _, rfl, ⟨du, upd_same⟩, S7.sql0 (SqL.of hh6), fun dx l H8 hl8 hul8 hu8 hl88 S8 => ⟨rfl, ?_⟩⟩
      have S68 : Stp [] H6 H8 := S7.then S8 (by simp; exact hu)
      walk_at "rd"
      exact hN _ _ ⟨S68, u, dx, l, ⟨hl88, (ne_of_none hh6 hu).symm, (ne_of_none hh6 (S7.dom _ hl8)).symm, fun z => by omega, fun _ => hu8⟩, rfl⟩
  rintro σ H7 ⟨S7, u, d, l, ⟨hl7, nu, nl, hu0, hun⟩, rfl⟩
  dsimp only
  walk_at "rd"
  refine ⟨hq, lq, ds5, rfl, rfl, SqL.of (S7.keep0 hh6), SqL.of (S7.keep0 hq6), ?_⟩
  walk_at "rd"
  refine v_clear (S7.keep0 hh6) ?_
  have e58 : ExtN H5 (upd H7 hq (.lst [])) := ext_put (stp_ext (S6.trans S7)) hhq
  have hT8 : Top.At K A (upd H7 hq (.lst [])) u way rs := by
    by_cases h0 : way = 0
    · exact .votes h0 (by rw [upd_ne nu]; exact hu0 h0) (by rw [upd_ne nl]; exact hl7) ((hw0 h0).ext e58)
    · exact .chain h0 (by rw [upd_ne nu]; exact hun h0) (by rw [upd_ne nl]; exact hl7) ((hwn h0).ext e58)
  have hL8 := ext_lst e58 hL5
  have hP8 := hP5.ext e58
  have hS8 := sql_extN e58 hS5
  generalize upd H7 hq (.lst []) = H8 at hT8 hL8 hP8 hS8 ⊢
  clear e58 hw0 hwn hu0 hun hl7 S7 S6 hh6 hq6 hL5 hP5 hS5
  walk_at "rd"
  intro cq hcq
  rw [cut_map]
  have hcl := cutL_len ns (some 7) (some 31)
  generalize cutL ns (some 7) (some 31) = ms at hcl ⊢
  have S9 := (Stp.refl [] H8).new (o := .lst (ms.map V.int)) hcq
  have hc9 := upd_same (H := H8) (a := cq) (o := .lst (ms.map V.int))
  generalize upd H8 cq (.lst (ms.map V.int)) = H9 at S9 hc9 ⊢
  walk_at "rd"
  intro X hX
  refine lc_it (walk_list (xs := ms.map V.int)) (fun j H' => Stp [] H9 H' ∧ ∃ (tvs : List V) (Y : List (List Int)), H' X = some (.lst tvs) ∧ ThsAt H' tvs Y ∧ Y.length = j ∧ ∀ xs ∈ Y, Thg n xs) ⟨(Stp.refl _ _).new hX, [], [], upd_same, ⟨rfl, fun i v e => by cases e⟩, rfl, by simp⟩ (fun j H' _ z => SqL.of (z.1.keep0 hc9)) ?_ ?_
  · rintro j v H10 H11 hj ⟨S, tvs, Y, hL, hY, hYl, hYg⟩ ⟨rfl, hv⟩
    obtain ⟨c, hc', rfl⟩ := map_at hv
    rw [List.length_map] at hj
    have hyl := hY.1
    walk_at "rd"
    refine ⟨c, 4, n, rfl, ⟨by omega, by omega, by omega⟩, fun q xs H12 hq S12 hq12 hxl hxr => ?_⟩
    have hL12 := S12.keep0 hL
    walk_at "rd"
    intro t ht
    have ntX : t ≠ X := (ne_of_none hL12 ht).symm
    have Sx : Stp [X] H11 (upd (upd H12 t (.tup (xs.map V.int))) X (.lst (tvs ++ [.ref t]))) := ((S12.mono (by simp)).new ht).putL (by simp) (upd_old hL12 ht)
    refine ⟨_, upd_old hL12 ht, Nat.lt_of_le_of_lt (m := 1000) (by omega) (by decide), ((S.trans S12).new ht).putN hX, tvs ++ [.ref t], Y ++ [xs], upd_same, ⟨by simp [hyl], fun i v e => ?_⟩, by simp [hYl], fun ys hys => ?_⟩
    · by_cases hi : i < tvs.length
      · rw [List.getElem?_append_left hi] at e
        obtain ⟨x', xs', z1, z2, z3⟩ := (hY.stp Sx).2 i v e
        exact ⟨x', xs', z1, by rw [List.getElem?_append_left (by omega)]; exact z2, z3⟩
      · rw [List.getElem?_append_right (by omega)] at e
        have : i - tvs.length = 0 := by
          cases h : i - tvs.length with
          | zero => rfl
          | succ m => rw [h] at e; cases e
        rw [this] at e
        cases e
        exact ⟨t, xs, rfl, by rw [List.getElem?_append_right (by omega), show i - Y.length = 0 by omega]; rfl, by rw [upd_ne ntX, upd_same]⟩
    · rcases List.mem_append.mp hys with z | z
      · exact hYg ys z
      · rw [List.mem_singleton] at z; subst z
        exact ⟨hxl, fun i hi => hxr _ (by unfold getE; simp [List.getD, show i < ys.length by omega])⟩
  rintro H10 ⟨S10, tvs, Y, hX10, hY, hYl, hYg⟩
  rw [List.length_map] at hYl
  have S810 := S9.trans S10
  have hT10 := hT8.ext (stp_ext S810)
  have hL10 := S810.keep0 hL8
  have hP10 := hP8.ext (stp_ext S810)
  clear S9 S10 S810 hT8 hL8 hP8 hS8 hc9
  have htl := hY.1
  walk_at "rd"
  refine for_it walk_range (fun j σ H' => Stp [] H10 H' ∧ ∃ v4 v9 v10, σ = [some (.ref a), some (.int n), some (.int way), some (.ref D), v4, some (.ref lq), some (.ref hq), some (.ref u), some (.ref X), v9, v10, none, none, none]) ⟨.refl _ _, _, _, _, rfl⟩ (fun _ _ _ _ _ => True.intro) ?_ ?_
  · rintro j v σ H11 H12 hj ⟨S, v4, v9, v10, rfl⟩ ⟨rfl, rfl⟩
    simp only [Int.zero_add]
    have hjt : j < tvs.length := by omega
    have hX12 := S.keep0 hX10
    obtain ⟨x, xs, e1, e2, e3⟩ := (hY.stp S).2 j _ (List.getElem?_eq_getElem hjt)
    have hat : tvs[j]? = some (.ref x) := by rw [List.getElem?_eq_getElem hjt, e1]
    have gx := hYg xs (List.mem_of_getElem? e2)
    obtain ⟨i1, hi1, hprev⟩ := ix_prev (K := K) (H := H12) (SqL.of hX12) hjt
    obtain ⟨x1, xs1, f1, f2, f3⟩ := (hY.stp S).2 i1 _ (List.getElem?_eq_getElem hi1)
    have hat1 : tvs[i1]? = some (.ref x1) := by rw [List.getElem?_eq_getElem hi1, f1]
    have gx1 := hYg xs1 (List.mem_of_getElem? f2)
    have h00 : 0 < tvs.length := by omega
    obtain ⟨x0, xs0, g1, g2, g3⟩ := (hY.stp S).2 0 _ (List.getElem?_eq_getElem h00)
    have hat0 : tvs[0]? = some (.ref x0) := by rw [List.getElem?_eq_getElem h00, g1]
    have gx0 := hYg xs0 (List.mem_of_getElem? g2)
    walk_at "rd"
    refine v_ixLn (n := j) (SqL.of hX12) rfl hat ?_
    walk_at "rd"
    refine hprev _ _ hat1 ?_
    walk_at "rd"
    intro p1 hp1
    have S1 := (Stp.refl [] H12).new (o := .tup [.ref x, .ref x1]) hp1
    have q1 := upd_same (H := H12) (a := p1) (o := .tup [.ref x, .ref x1])
    generalize upd H12 p1 (.tup [.ref x, .ref x1]) = H13 at S1 q1 ⊢
    have hX13 := S1.keep0 hX12
    walk_at "rd"
    refine v_ixLn (n := j) (SqL.of hX13) rfl hat ?_
    walk_at "rd"
    refine v_ixLn (n := j) (SqL.of hX13) rfl hat ?_
    walk_at "rd"
    intro p2 hp2
    have S2 := (Stp.refl [] H13).new (o := .tup [.ref x, .ref x]) hp2
    have q2 := upd_same (H := H13) (a := p2) (o := .tup [.ref x, .ref x])
    generalize upd H13 p2 (.tup [.ref x, .ref x]) = H14 at S2 q2 ⊢
    have hX14 := S2.keep0 hX13
    walk_at "rd"
    refine v_ixLn (n := j) (SqL.of hX14) rfl hat ?_
    walk_at "rd"
    refine v_ixLn (n := 0) (SqL.of hX14) rfl hat0 ?_
    walk_at "rd"
    intro p3 hp3
    have S3 := (Stp.refl [] H14).new (o := .tup [.ref x, .ref x0]) hp3
    have q3 := upd_same (H := H14) (a := p3) (o := .tup [.ref x, .ref x0])
    generalize upd H14 p3 (.tup [.ref x, .ref x0]) = H15 at S3 q3 ⊢
    walk_at "rd"
    intro w hw
    have S4 := (Stp.refl [] H15).new (o := .lst [.ref p1, .ref p2, .ref p3]) hw
    have q4 := upd_same (H := H15) (a := w) (o := .lst [.ref p1, .ref p2, .ref p3])
    generalize upd H15 w (.lst [.ref p1, .ref p2, .ref p3]) = H16 at S4 q4 ⊢
    have S12' := (S1.trans S2).trans (S3.trans S4)
    have S06 := S.trans S12'
    have pairs : ∀ (i : Nat) (v : V), ([.ref p1, .ref p2, .ref p3] : List V)[i]? = some v → ∃ (p xa ya : Addr) (za zb : List Int), v = .ref p ∧ H16 p = some (.tup [.ref xa, .ref ya]) ∧ H16 xa = some (.tup (za.map V.int)) ∧ H16 ya = some (.tup (zb.map V.int)) ∧ Thg n za ∧ Thg n zb := by
      intro i v e
      match i, e with
      | 0, e => cases e; exact ⟨p1, x, x1, xs, xs1, rfl, ((S2.trans S3).trans S4).keep0 q1, S12'.tup e3, S12'.tup f3, gx, gx1⟩
      | 1, e => cases e; exact ⟨p2, x, x, xs, xs, rfl, (S3.trans S4).keep0 q2, S12'.tup e3, S12'.tup e3, gx, gx⟩
      | 2, e => cases e; exact ⟨p3, x, x0, xs, xs0, rfl, S4.keep0 q3, S12'.tup e3, S12'.tup g3, gx, gx0⟩
    walk_at "rd"
    refine for_it (walk_list (xs := [.ref p1, .ref p2, .ref p3])) (fun i σ H' => Stp [] H16 H' ∧ ∃ v9 v10, σ = [some (.ref a), some (.int n), some (.int way), some (.ref D), some (.int j), some (.ref lq), some (.ref hq), some (.ref u), some (.ref X), v9, v10, none, none, none]) ⟨.refl _ _, _, _, rfl⟩ (fun _ _ _ _ z => SqL.of (z.1.keep0 q4)) ?_ ?_
    · rintro i v σ H17 H18 hi ⟨S17, w9, w10, rfl⟩ ⟨rfl, hv⟩
      obtain ⟨p, xa, ya, za, zb, rfl, y1, y2, y3, ga, gb⟩ := pairs i v hv
      have S018 := S06.trans S17
      have hp18 := S17.tup y1
      walk_at "rd"
      refine ⟨u, D, xa, ya, pvs, rs, n, way, za, zb, rfl, ⟨hT10.ext (stp_ext S018), S018.keep0 hL10, hP10.ext (stp_ext S018), hrl.1, by omega, hg, S17.tup y2, S17.tup y3, ga, gb, hw3⟩, fun H19 S19 => ?_⟩
      have S019 := S018.trans S19
      have S169 := S17.trans S19
      walk_at "rd"
      refine ⟨u, D, ya, xa, pvs, rs, n, way, zb, za, rfl, ⟨hT10.ext (stp_ext S019), S019.keep0 hL10, hP10.ext (stp_ext S019), hrl.1, by omega, hg, S169.tup y3, S169.tup y2, gb, ga, hw3⟩, fun H20 S20 => ?_⟩
      walk_at "rd"
      exact ⟨S169.trans S20, _, _, rfl⟩
    · rintro σ H17 ⟨S17, w9, w10, rfl⟩
      walk_at "rd"
      exact ⟨S06.trans S17, _, _, _, rfl⟩
  rintro σ H11 ⟨S11, v4', v9, v10, rfl⟩
  have hT11 := hT10.ext (stp_ext S11)
  have hL11 := S11.keep0 hL10
  have hP11 := hP10.ext (stp_ext S11)
  clear S11 hT10 hL10 hP10 hX10
  have few : ∀ r ∈ rs, r.few := fun r hr' => (hg r hr').few
  walk_at "rd"
  cases hT11 with
  | @votes d2 l2 uvs2 h0 h hl hR =>
    refine r_orL ?_
    walk_at "rd"
    refine ⟨u, d2, l2, uvs2, rs, rfl, h, ⟨SqL.of hl, hR, few, by omega⟩, fun H12 S12 => ?_⟩
    have hP12 := hP11.ext (stp_ext S12)
    have hL12 := S12.keep0 hL11
    walk_at "rd"
    intro E2 hE2
    refine lc_it (walk_list (xs := pvs)) (fun j H' => Stp [] H12 H' ∧ H' E2 = some (.lst (((rs.take j).map R0.wid).map V.int))) ⟨(Stp.refl _ _).new hE2, upd_same⟩ (fun j H' _ z => SqL.of (z.1.keep0 hL12)) ?_ ?_
    · rintro j v H13 H14 hj ⟨S, hL⟩ ⟨rfl, hv⟩
      obtain ⟨t, r, rfl, hr', hA⟩ := (hP12.ext (stp_ext S)).at_ j v hv
      walk_at "rd"
      refine ⟨t, r, n, rfl, ⟨hA, hg r (List.mem_of_getElem? hr')⟩, fun H15 S15 => ?_⟩
      refine ⟨_, S15.keep0 hL, Nat.lt_of_le_of_lt (m := 1000) (by simp; omega) (by decide), (S.trans S15).putN hE2, ?_⟩
      rw [upd_same, take_snoc hr', List.map_append, List.map_append]
      rfl
    rintro H13 ⟨S13, hL13⟩
    rw [hpl, List.take_length] at hL13
    walk_at "rd"
    refine ⟨E2, rs.map R0.wid, rfl, SqL.of hL13, by simp; omega, fun m h1 h2 => ?_⟩
    rw [maxD_of (fun n hn => by obtain ⟨c, _, rfl⟩ := List.mem_map.mp hn; exact c.wid_low) h1 h2]
    walk_at "rd"
    rw [decide_eq_true rfl]
    exact k _
  | @chain d2 l2 uvs2 h0 h hl hR =>
    refine r_orR ?_
    walk_at "rd"
    refine ⟨u, d2, l2, uvs2, partsOf way rs, rfl, h, ⟨SqL.of hl, hR, parts_few hrl.1 (by omega) few, parts_len (by omega)⟩, fun H12 S12 => ?_⟩
    rw [parts_wid hrl.1]
    have hP12 := hP11.ext (stp_ext S12)
    have hL12 := S12.keep0 hL11
    walk_at "rd"
    intro E2 hE2
    refine lc_it (walk_list (xs := pvs)) (fun j H' => Stp [] H12 H' ∧ H' E2 = some (.lst (((rs.take j).map R0.wid).map V.int))) ⟨(Stp.refl _ _).new hE2, upd_same⟩ (fun j H' _ z => SqL.of (z.1.keep0 hL12)) ?_ ?_
    · rintro j v H13 H14 hj ⟨S, hL⟩ ⟨rfl, hv⟩
      obtain ⟨t, r, rfl, hr', hA⟩ := (hP12.ext (stp_ext S)).at_ j v hv
      walk_at "rd"
      refine ⟨t, r, n, rfl, ⟨hA, hg r (List.mem_of_getElem? hr')⟩, fun H15 S15 => ?_⟩
      refine ⟨_, S15.keep0 hL, Nat.lt_of_le_of_lt (m := 1000) (by simp; omega) (by decide), (S.trans S15).putN hE2, ?_⟩
      rw [upd_same, take_snoc hr', List.map_append, List.map_append]
      rfl
    rintro H13 ⟨S13, hL13⟩
    rw [hpl, List.take_length] at hL13
    walk_at "rd"
    refine ⟨E2, rs.map R0.wid, rfl, SqL.of hL13, by simp; omega, fun m h1 h2 => ?_⟩
    rw [maxD_of (fun n hn => by obtain ⟨c, _, rfl⟩ := List.mem_map.mp hn; exact c.wid_low) h1 h2]
    walk_at "rd"
    rw [decide_eq_true rfl]
    exact k _
theorem all_mk {l : PySem.W.OpenLaw} {w : World} {K : PySem.W.Frag} {h : Heap} {mg : Str → Option Value} {fa : Addr} (X : K.In h) (G : h.Ns mainGlobals mg) (hfa : mg "law" = some (.ref fa))
    {f1 f2 f3 f4 f5 f6 f7 f8 f9 f10 f11 f12 f13 f14 f15 f16 f17 f18 f19 f20 f21 f22 f23 f24 f25 f26 f27 f28 f29 f30 f31 f32 f33 f34 c_HallError c_NoRule c_Rule c_KeyRule c_NearRule c_RingRule c_TableRule c_VoteRule c_ChainRule c_AskedRule : Addr} {od1 an1 od2 an2 od3 an3 od4 an4 od5 an5 od6 an6 od7 an7 od8 an8 od9 an9 od10 an10 od11 an11 od12 an12 od13 an13 od14 an14 od15 an15 od16 an16 od17 an17 od18 an18 od19 an19 od20 an20 od21 an21 od22 an22 od23 an23 od24 an24 od25 an25 od26 an26 od27 an27 od28 an28 od29 an29 od30 an30 od31 an31 od32 an32 od33 an33 od34 an34 : Option Addr} {sl1 sl2 sl3 sl4 sl5 sl6 sl7 sl8 sl9 sl10 sl11 sl12 sl13 sl14 sl15 sl16 sl17 sl18 sl19 sl20 sl21 sl22 sl23 sl24 sl25 sl26 sl27 sl28 sl29 sl30 sl31 sl32 sl33 sl34 : Array (Option Value)} {oc1 kV1 dc1 pm1 cd1 ct1 oc2 kV2 dc2 pm2 cd2 ct2 oc3 kV3 dc3 pm3 cd3 ct3 oc4 kV4 dc4 pm4 cd4 ct4 oc5 kV5 dc5 pm5 cd5 ct5 oc6 kV6 dc6 pm6 cd6 ct6 oc7 kV7 dc7 pm7 cd7 ct7 oc8 kV8 dc8 pm8 cd8 ct8 oc9 kV9 dc9 pm9 cd9 ct9 oc10 kV10 dc10 pm10 cd10 ct10 oc11 kV11 dc11 pm11 ct11 oc12 kV12 dc12 pm12 cd12 ct12 oc13 kV13 dc13 pm13 cd13 ct13 oc14 kV14 dc14 pm14 cd14 ct14 oc15 kV15 dc15 pm15 cd15 ct15 oc16 kV16 dc16 pm16 cd16 ct16 oc17 kV17 dc17 pm17 cd17 ct17 oc18 kV18 dc18 pm18 cd18 ct18 oc19 kV19 dc19 pm19 cd19 ct19 oc20 kV20 dc20 pm20 cd20 ct20 oc21 kV21 dc21 pm21 cd21 ct21 oc22 kV22 dc22 pm22 cd22 ct22 oc23 kV23 dc23 pm23 cd23 ct23 oc24 kV24 dc24 pm24 cd24 ct24 oc25 kV25 dc25 pm25 cd25 ct25 oc26 kV26 dc26 pm26 cd26 ct26 oc27 kV27 dc27 pm27 cd27 ct27 oc28 kV28 dc28 pm28 cd28 ct28 oc29 kV29 dc29 pm29 cd29 ct29 oc30 kV30 dc30 pm30 cd30 ct30 oc31 kV31 dc31 pm31 cd31 ct31 oc32 kV32 dc32 pm32 cd32 ct32 oc33 kV33 dc33 pm33 cd33 ct33 oc34 kV34 dc34 pm34 cd34 ct34 : Value} {cc11 : Addr} {oK11 : Value} {uK11 : Option Addr} {vs11 : Array Value} {sK11 : Array (Option Value)} {P11 : Addr} {t_LAST : Tok}
    (aC_HallError : PySem.W.nsIn K mainGlobals "HallError" = some (some (.ref c_HallError)))
    (aC_NoRule : PySem.W.nsIn K mainGlobals "NoRule" = some (some (.ref c_NoRule)))
    (aC_Rule : PySem.W.nsIn K mainGlobals "Rule" = some (some (.ref c_Rule)))
    (pg_Rule : PySem.W.plainGet K c_Rule Str.empty = true)
    (hd_Rule : PySem.W.hasDictIn K c_Rule = true)
    (po_Rule : PySem.W.plainOver K c_Rule = true)
    (sa_Rule : PySem.W.findIn K (.ref c_Rule) "__setattr__" = some (some (.builtin "object.__setattr__")))
    (mk_Rule : PySem.W.makesIn K c_Rule = true)
    (kc_Rule : PySem.W.keepIn K (.ref c_Rule) = true)
    (aC_KeyRule : PySem.W.nsIn K mainGlobals "KeyRule" = some (some (.ref c_KeyRule)))
    (pg_KeyRule : PySem.W.plainGet K c_KeyRule Str.empty = true)
    (hd_KeyRule : PySem.W.hasDictIn K c_KeyRule = true)
    (po_KeyRule : PySem.W.plainOver K c_KeyRule = true)
    (sa_KeyRule : PySem.W.findIn K (.ref c_KeyRule) "__setattr__" = some (some (.builtin "object.__setattr__")))
    (mk_KeyRule : PySem.W.makesIn K c_KeyRule = true)
    (kc_KeyRule : PySem.W.keepIn K (.ref c_KeyRule) = true)
    (na_KeyRule_columns : PySem.W.findIn K (.ref c_KeyRule) "columns" = some none)
    (aC_NearRule : PySem.W.nsIn K mainGlobals "NearRule" = some (some (.ref c_NearRule)))
    (pg_NearRule : PySem.W.plainGet K c_NearRule Str.empty = true)
    (hd_NearRule : PySem.W.hasDictIn K c_NearRule = true)
    (po_NearRule : PySem.W.plainOver K c_NearRule = true)
    (sa_NearRule : PySem.W.findIn K (.ref c_NearRule) "__setattr__" = some (some (.builtin "object.__setattr__")))
    (mk_NearRule : PySem.W.makesIn K c_NearRule = true)
    (kc_NearRule : PySem.W.keepIn K (.ref c_NearRule) = true)
    (na_NearRule_at : PySem.W.findIn K (.ref c_NearRule) "at" = some none)
    (na_NearRule_gap : PySem.W.findIn K (.ref c_NearRule) "gap" = some none)
    (aC_RingRule : PySem.W.nsIn K mainGlobals "RingRule" = some (some (.ref c_RingRule)))
    (pg_RingRule : PySem.W.plainGet K c_RingRule Str.empty = true)
    (hd_RingRule : PySem.W.hasDictIn K c_RingRule = true)
    (po_RingRule : PySem.W.plainOver K c_RingRule = true)
    (sa_RingRule : PySem.W.findIn K (.ref c_RingRule) "__setattr__" = some (some (.builtin "object.__setattr__")))
    (mk_RingRule : PySem.W.makesIn K c_RingRule = true)
    (kc_RingRule : PySem.W.keepIn K (.ref c_RingRule) = true)
    (na_RingRule_at : PySem.W.findIn K (.ref c_RingRule) "at" = some none)
    (na_RingRule_size : PySem.W.findIn K (.ref c_RingRule) "size" = some none)
    (aC_TableRule : PySem.W.nsIn K mainGlobals "TableRule" = some (some (.ref c_TableRule)))
    (pg_TableRule : PySem.W.plainGet K c_TableRule Str.empty = true)
    (hd_TableRule : PySem.W.hasDictIn K c_TableRule = true)
    (po_TableRule : PySem.W.plainOver K c_TableRule = true)
    (sa_TableRule : PySem.W.findIn K (.ref c_TableRule) "__setattr__" = some (some (.builtin "object.__setattr__")))
    (mk_TableRule : PySem.W.makesIn K c_TableRule = true)
    (kc_TableRule : PySem.W.keepIn K (.ref c_TableRule) = true)
    (na_TableRule_at : PySem.W.findIn K (.ref c_TableRule) "at" = some none)
    (na_TableRule_table : PySem.W.findIn K (.ref c_TableRule) "table" = some none)
    (aC_VoteRule : PySem.W.nsIn K mainGlobals "VoteRule" = some (some (.ref c_VoteRule)))
    (pg_VoteRule : PySem.W.plainGet K c_VoteRule Str.empty = true)
    (hd_VoteRule : PySem.W.hasDictIn K c_VoteRule = true)
    (po_VoteRule : PySem.W.plainOver K c_VoteRule = true)
    (sa_VoteRule : PySem.W.findIn K (.ref c_VoteRule) "__setattr__" = some (some (.builtin "object.__setattr__")))
    (mk_VoteRule : PySem.W.makesIn K c_VoteRule = true)
    (kc_VoteRule : PySem.W.keepIn K (.ref c_VoteRule) = true)
    (na_VoteRule_rules : PySem.W.findIn K (.ref c_VoteRule) "rules" = some none)
    (aC_ChainRule : PySem.W.nsIn K mainGlobals "ChainRule" = some (some (.ref c_ChainRule)))
    (pg_ChainRule : PySem.W.plainGet K c_ChainRule Str.empty = true)
    (hd_ChainRule : PySem.W.hasDictIn K c_ChainRule = true)
    (po_ChainRule : PySem.W.plainOver K c_ChainRule = true)
    (sa_ChainRule : PySem.W.findIn K (.ref c_ChainRule) "__setattr__" = some (some (.builtin "object.__setattr__")))
    (mk_ChainRule : PySem.W.makesIn K c_ChainRule = true)
    (kc_ChainRule : PySem.W.keepIn K (.ref c_ChainRule) = true)
    (na_ChainRule_rules : PySem.W.findIn K (.ref c_ChainRule) "rules" = some none)
    (aC_AskedRule : PySem.W.nsIn K mainGlobals "AskedRule" = some (some (.ref c_AskedRule)))
    (pg_AskedRule : PySem.W.plainGet K c_AskedRule Str.empty = true)
    (hd_AskedRule : PySem.W.hasDictIn K c_AskedRule = true)
    (po_AskedRule : PySem.W.plainOver K c_AskedRule = true)
    (sa_AskedRule : PySem.W.findIn K (.ref c_AskedRule) "__setattr__" = some (some (.builtin "object.__setattr__")))
    (mk_AskedRule : PySem.W.makesIn K c_AskedRule = true)
    (kc_AskedRule : PySem.W.keepIn K (.ref c_AskedRule) = true)
    (na_AskedRule_teller : PySem.W.findIn K (.ref c_AskedRule) "teller" = some none)
    (a1 : PySem.W.nsIn K mainGlobals "_law_cell_at" = some (some (.ref f1)))
    (l1 : K.lookup f1 = some ⟨oc1, od1, .func (PySem.W.fnOf "_law_cell_at" "_law_cell_at" (defArgs s__law_cell_at) (defBody s__law_cell_at) (defScope s__law_cell_at) .none kV1 dc1 pm1 an1 cd1 ct1), sl1⟩)
    (c1 : PySem.W.codeIn K cd1 "_law_cell_at" = true)
    (k1 : PySem.W.keepIn K (.ref f1) = true)
    (a2 : PySem.W.nsIn K mainGlobals "good" = some (some (.ref f2)))
    (l2 : K.lookup f2 = some ⟨oc2, od2, .func (PySem.W.fnOf "good" "good" (defArgs s_good) (defBody s_good) (defScope s_good) .none kV2 dc2 pm2 an2 cd2 ct2), sl2⟩)
    (c2 : PySem.W.codeIn K cd2 "good" = true)
    (k2 : PySem.W.keepIn K (.ref f2) = true)
    (a3_KeyRule : PySem.W.findIn K (.ref c_KeyRule) "__init__" = some (some (.ref f3)))
    (i3 : PySem.W.isFn K (.ref f3) = true)
    (l3 : K.lookup f3 = some ⟨oc3, od3, .func (PySem.W.fnOf "__init__" "KeyRule.__init__" (defArgs s_KeyRule___init__) (defBody s_KeyRule___init__) (defScope s_KeyRule___init__) .none kV3 dc3 pm3 an3 cd3 ct3), sl3⟩)
    (c3 : PySem.W.codeIn K cd3 "KeyRule.__init__" = true)
    (k3 : PySem.W.keepIn K (.ref f3) = true)
    (a4_KeyRule : PySem.W.findIn K (.ref c_KeyRule) "before" = some (some (.ref f4)))
    (i4 : PySem.W.isFn K (.ref f4) = true)
    (l4 : K.lookup f4 = some ⟨oc4, od4, .func (PySem.W.fnOf "before" "KeyRule.before" (defArgs s_KeyRule_before) (defBody s_KeyRule_before) (defScope s_KeyRule_before) .none kV4 dc4 pm4 an4 cd4 ct4), sl4⟩)
    (c4 : PySem.W.codeIn K cd4 "KeyRule.before" = true)
    (k4 : PySem.W.keepIn K (.ref f4) = true)
    (a5_NearRule : PySem.W.findIn K (.ref c_NearRule) "__init__" = some (some (.ref f5)))
    (i5 : PySem.W.isFn K (.ref f5) = true)
    (l5 : K.lookup f5 = some ⟨oc5, od5, .func (PySem.W.fnOf "__init__" "NearRule.__init__" (defArgs s_NearRule___init__) (defBody s_NearRule___init__) (defScope s_NearRule___init__) .none kV5 dc5 pm5 an5 cd5 ct5), sl5⟩)
    (c5 : PySem.W.codeIn K cd5 "NearRule.__init__" = true)
    (k5 : PySem.W.keepIn K (.ref f5) = true)
    (a6_NearRule : PySem.W.findIn K (.ref c_NearRule) "before" = some (some (.ref f6)))
    (i6 : PySem.W.isFn K (.ref f6) = true)
    (l6 : K.lookup f6 = some ⟨oc6, od6, .func (PySem.W.fnOf "before" "NearRule.before" (defArgs s_NearRule_before) (defBody s_NearRule_before) (defScope s_NearRule_before) .none kV6 dc6 pm6 an6 cd6 ct6), sl6⟩)
    (c6 : PySem.W.codeIn K cd6 "NearRule.before" = true)
    (k6 : PySem.W.keepIn K (.ref f6) = true)
    (a7_RingRule : PySem.W.findIn K (.ref c_RingRule) "__init__" = some (some (.ref f7)))
    (i7 : PySem.W.isFn K (.ref f7) = true)
    (l7 : K.lookup f7 = some ⟨oc7, od7, .func (PySem.W.fnOf "__init__" "RingRule.__init__" (defArgs s_RingRule___init__) (defBody s_RingRule___init__) (defScope s_RingRule___init__) .none kV7 dc7 pm7 an7 cd7 ct7), sl7⟩)
    (c7 : PySem.W.codeIn K cd7 "RingRule.__init__" = true)
    (k7 : PySem.W.keepIn K (.ref f7) = true)
    (a8_RingRule : PySem.W.findIn K (.ref c_RingRule) "before" = some (some (.ref f8)))
    (i8 : PySem.W.isFn K (.ref f8) = true)
    (l8 : K.lookup f8 = some ⟨oc8, od8, .func (PySem.W.fnOf "before" "RingRule.before" (defArgs s_RingRule_before) (defBody s_RingRule_before) (defScope s_RingRule_before) .none kV8 dc8 pm8 an8 cd8 ct8), sl8⟩)
    (c8 : PySem.W.codeIn K cd8 "RingRule.before" = true)
    (k8 : PySem.W.keepIn K (.ref f8) = true)
    (a9_TableRule : PySem.W.findIn K (.ref c_TableRule) "__init__" = some (some (.ref f9)))
    (i9 : PySem.W.isFn K (.ref f9) = true)
    (l9 : K.lookup f9 = some ⟨oc9, od9, .func (PySem.W.fnOf "__init__" "TableRule.__init__" (defArgs s_TableRule___init__) (defBody s_TableRule___init__) (defScope s_TableRule___init__) .none kV9 dc9 pm9 an9 cd9 ct9), sl9⟩)
    (c9 : PySem.W.codeIn K cd9 "TableRule.__init__" = true)
    (k9 : PySem.W.keepIn K (.ref f9) = true)
    (a10_TableRule : PySem.W.findIn K (.ref c_TableRule) "before" = some (some (.ref f10)))
    (i10 : PySem.W.isFn K (.ref f10) = true)
    (l10 : K.lookup f10 = some ⟨oc10, od10, .func (PySem.W.fnOf "before" "TableRule.before" (defArgs s_TableRule_before) (defBody s_TableRule_before) (defScope s_TableRule_before) .none kV10 dc10 pm10 an10 cd10 ct10), sl10⟩)
    (c10 : PySem.W.codeIn K cd10 "TableRule.before" = true)
    (k10 : PySem.W.keepIn K (.ref f10) = true)
    (a11 : PySem.W.nsIn K mainGlobals "_law_teller" = some (some (.ref f11)))
    (l11 : K.lookup f11 = some ⟨oc11, od11, .func (PySem.W.fnOf "_law_teller" "_law_teller" (defArgs s__law_teller) (defBody s__law_teller) (defScope s__law_teller) .none kV11 dc11 pm11 an11 (.ref cc11) ct11), sl11⟩)
    (lc11 : K.lookup cc11 = some ⟨oK11, uK11, .fields vs11, sK11⟩)
    (lp11 : (vs11[11]? : Option Value) = some (.ref P11))
    (hh11 : PySem.W.codeHdIn K cc11 P11 = true)
    (np11 : K.lookup P11 = Option.none)
    (gp11 : mainGlobals ≠ P11)
    (tp11 : h.get? P11 = some (PySem.W.tabObj #[]))
    (c11 : PySem.W.codeIn K (.ref cc11) "_law_teller" = true)
    (k11 : PySem.W.keepIn K (.ref f11) = true)
    (a12_AskedRule : PySem.W.findIn K (.ref c_AskedRule) "__init__" = some (some (.ref f12)))
    (i12 : PySem.W.isFn K (.ref f12) = true)
    (l12 : K.lookup f12 = some ⟨oc12, od12, .func (PySem.W.fnOf "__init__" "AskedRule.__init__" (defArgs s_AskedRule___init__) (defBody s_AskedRule___init__) (defScope s_AskedRule___init__) .none kV12 dc12 pm12 an12 cd12 ct12), sl12⟩)
    (c12 : PySem.W.codeIn K cd12 "AskedRule.__init__" = true)
    (k12 : PySem.W.keepIn K (.ref f12) = true)
    (a13_AskedRule : PySem.W.findIn K (.ref c_AskedRule) "before" = some (some (.ref f13)))
    (i13 : PySem.W.isFn K (.ref f13) = true)
    (l13 : K.lookup f13 = some ⟨oc13, od13, .func (PySem.W.fnOf "before" "AskedRule.before" (defArgs s_AskedRule_before) (defBody s_AskedRule_before) (defScope s_AskedRule_before) .none kV13 dc13 pm13 an13 cd13 ct13), sl13⟩)
    (c13 : PySem.W.codeIn K cd13 "AskedRule.before" = true)
    (k13 : PySem.W.keepIn K (.ref f13) = true)
    (a14_VoteRule : PySem.W.findIn K (.ref c_VoteRule) "__init__" = some (some (.ref f14)))
    (i14 : PySem.W.isFn K (.ref f14) = true)
    (l14 : K.lookup f14 = some ⟨oc14, od14, .func (PySem.W.fnOf "__init__" "VoteRule.__init__" (defArgs s_VoteRule___init__) (defBody s_VoteRule___init__) (defScope s_VoteRule___init__) .none kV14 dc14 pm14 an14 cd14 ct14), sl14⟩)
    (c14 : PySem.W.codeIn K cd14 "VoteRule.__init__" = true)
    (k14 : PySem.W.keepIn K (.ref f14) = true)
    (a15_VoteRule : PySem.W.findIn K (.ref c_VoteRule) "before" = some (some (.ref f15)))
    (i15 : PySem.W.isFn K (.ref f15) = true)
    (l15 : K.lookup f15 = some ⟨oc15, od15, .func (PySem.W.fnOf "before" "VoteRule.before" (defArgs s_VoteRule_before) (defBody s_VoteRule_before) (defScope s_VoteRule_before) .none kV15 dc15 pm15 an15 cd15 ct15), sl15⟩)
    (c15 : PySem.W.codeIn K cd15 "VoteRule.before" = true)
    (k15 : PySem.W.keepIn K (.ref f15) = true)
    (a16_ChainRule : PySem.W.findIn K (.ref c_ChainRule) "__init__" = some (some (.ref f16)))
    (i16 : PySem.W.isFn K (.ref f16) = true)
    (l16 : K.lookup f16 = some ⟨oc16, od16, .func (PySem.W.fnOf "__init__" "ChainRule.__init__" (defArgs s_ChainRule___init__) (defBody s_ChainRule___init__) (defScope s_ChainRule___init__) .none kV16 dc16 pm16 an16 cd16 ct16), sl16⟩)
    (c16 : PySem.W.codeIn K cd16 "ChainRule.__init__" = true)
    (k16 : PySem.W.keepIn K (.ref f16) = true)
    (a17_ChainRule : PySem.W.findIn K (.ref c_ChainRule) "before" = some (some (.ref f17)))
    (i17 : PySem.W.isFn K (.ref f17) = true)
    (l17 : K.lookup f17 = some ⟨oc17, od17, .func (PySem.W.fnOf "before" "ChainRule.before" (defArgs s_ChainRule_before) (defBody s_ChainRule_before) (defScope s_ChainRule_before) .none kV17 dc17 pm17 an17 cd17 ct17), sl17⟩)
    (c17 : PySem.W.codeIn K cd17 "ChainRule.before" = true)
    (k17 : PySem.W.keepIn K (.ref f17) = true)
    (a18_KeyRule : PySem.W.findIn K (.ref c_KeyRule) "widest" = some (some (.ref f18)))
    (i18 : PySem.W.isFn K (.ref f18) = true)
    (l18 : K.lookup f18 = some ⟨oc18, od18, .func (PySem.W.fnOf "widest" "KeyRule.widest" (defArgs s_KeyRule_widest) (defBody s_KeyRule_widest) (defScope s_KeyRule_widest) .none kV18 dc18 pm18 an18 cd18 ct18), sl18⟩)
    (c18 : PySem.W.codeIn K cd18 "KeyRule.widest" = true)
    (k18 : PySem.W.keepIn K (.ref f18) = true)
    (a19_NearRule : PySem.W.findIn K (.ref c_NearRule) "widest" = some (some (.ref f19)))
    (i19 : PySem.W.isFn K (.ref f19) = true)
    (l19 : K.lookup f19 = some ⟨oc19, od19, .func (PySem.W.fnOf "widest" "NearRule.widest" (defArgs s_NearRule_widest) (defBody s_NearRule_widest) (defScope s_NearRule_widest) .none kV19 dc19 pm19 an19 cd19 ct19), sl19⟩)
    (c19 : PySem.W.codeIn K cd19 "NearRule.widest" = true)
    (k19 : PySem.W.keepIn K (.ref f19) = true)
    (a20_RingRule : PySem.W.findIn K (.ref c_RingRule) "widest" = some (some (.ref f20)))
    (i20 : PySem.W.isFn K (.ref f20) = true)
    (l20 : K.lookup f20 = some ⟨oc20, od20, .func (PySem.W.fnOf "widest" "RingRule.widest" (defArgs s_RingRule_widest) (defBody s_RingRule_widest) (defScope s_RingRule_widest) .none kV20 dc20 pm20 an20 cd20 ct20), sl20⟩)
    (c20 : PySem.W.codeIn K cd20 "RingRule.widest" = true)
    (k20 : PySem.W.keepIn K (.ref f20) = true)
    (a21_TableRule : PySem.W.findIn K (.ref c_TableRule) "widest" = some (some (.ref f21)))
    (i21 : PySem.W.isFn K (.ref f21) = true)
    (l21 : K.lookup f21 = some ⟨oc21, od21, .func (PySem.W.fnOf "widest" "TableRule.widest" (defArgs s_TableRule_widest) (defBody s_TableRule_widest) (defScope s_TableRule_widest) .none kV21 dc21 pm21 an21 cd21 ct21), sl21⟩)
    (c21 : PySem.W.codeIn K cd21 "TableRule.widest" = true)
    (k21 : PySem.W.keepIn K (.ref f21) = true)
    (a22_AskedRule : PySem.W.findIn K (.ref c_AskedRule) "widest" = some (some (.ref f22)))
    (i22 : PySem.W.isFn K (.ref f22) = true)
    (l22 : K.lookup f22 = some ⟨oc22, od22, .func (PySem.W.fnOf "widest" "Rule.widest" (defArgs s_AskedRule_widest) (defBody s_AskedRule_widest) (defScope s_AskedRule_widest) .none kV22 dc22 pm22 an22 cd22 ct22), sl22⟩)
    (c22 : PySem.W.codeIn K cd22 "Rule.widest" = true)
    (k22 : PySem.W.keepIn K (.ref f22) = true)
    (a23_VoteRule : PySem.W.findIn K (.ref c_VoteRule) "widest" = some (some (.ref f23)))
    (i23 : PySem.W.isFn K (.ref f23) = true)
    (l23 : K.lookup f23 = some ⟨oc23, od23, .func (PySem.W.fnOf "widest" "VoteRule.widest" (defArgs s_VoteRule_widest) (defBody s_VoteRule_widest) (defScope s_VoteRule_widest) .none kV23 dc23 pm23 an23 cd23 ct23), sl23⟩)
    (c23 : PySem.W.codeIn K cd23 "VoteRule.widest" = true)
    (k23 : PySem.W.keepIn K (.ref f23) = true)
    (a24_ChainRule : PySem.W.findIn K (.ref c_ChainRule) "widest" = some (some (.ref f24)))
    (i24 : PySem.W.isFn K (.ref f24) = true)
    (l24 : K.lookup f24 = some ⟨oc24, od24, .func (PySem.W.fnOf "widest" "ChainRule.widest" (defArgs s_ChainRule_widest) (defBody s_ChainRule_widest) (defScope s_ChainRule_widest) .none kV24 dc24 pm24 an24 cd24 ct24), sl24⟩)
    (c24 : PySem.W.codeIn K cd24 "ChainRule.widest" = true)
    (k24 : PySem.W.keepIn K (.ref f24) = true)
    (a25 : PySem.W.nsIn K mainGlobals "_law_figures" = some (some (.ref f25)))
    (l25 : K.lookup f25 = some ⟨oc25, od25, .func (PySem.W.fnOf "_law_figures" "_law_figures" (defArgs s__law_figures) (defBody s__law_figures) (defScope s__law_figures) .none kV25 dc25 pm25 an25 cd25 ct25), sl25⟩)
    (c25 : PySem.W.codeIn K cd25 "_law_figures" = true)
    (k25 : PySem.W.keepIn K (.ref f25) = true)
    (a26 : PySem.W.nsIn K mainGlobals "_law_plan_by" = some (some (.ref f26)))
    (l26 : K.lookup f26 = some ⟨oc26, od26, .func (PySem.W.fnOf "_law_plan_by" "_law_plan_by" (defArgs s__law_plan_by) (defBody s__law_plan_by) (defScope s__law_plan_by) .none kV26 dc26 pm26 an26 cd26 ct26), sl26⟩)
    (c26 : PySem.W.codeIn K cd26 "_law_plan_by" = true)
    (k26 : PySem.W.keepIn K (.ref f26) = true)
    (a27 : PySem.W.nsIn K mainGlobals "_law_rule_of" = some (some (.ref f27)))
    (l27 : K.lookup f27 = some ⟨oc27, od27, .func (PySem.W.fnOf "_law_rule_of" "_law_rule_of" (defArgs s__law_rule_of) (defBody s__law_rule_of) (defScope s__law_rule_of) .none kV27 dc27 pm27 an27 cd27 ct27), sl27⟩)
    (c27 : PySem.W.codeIn K cd27 "_law_rule_of" = true)
    (k27 : PySem.W.keepIn K (.ref f27) = true)
    (a28 : PySem.W.nsIn K mainGlobals "_law_one" = some (some (.ref f28)))
    (l28 : K.lookup f28 = some ⟨oc28, od28, .func (PySem.W.fnOf "_law_one" "_law_one" (defArgs s__law_one) (defBody s__law_one) (defScope s__law_one) .none kV28 dc28 pm28 an28 cd28 ct28), sl28⟩)
    (c28 : PySem.W.codeIn K cd28 "_law_one" = true)
    (k28 : PySem.W.keepIn K (.ref f28) = true)
    (a29 : PySem.W.nsIn K mainGlobals "_law_votes" = some (some (.ref f29)))
    (l29 : K.lookup f29 = some ⟨oc29, od29, .func (PySem.W.fnOf "_law_votes" "_law_votes" (defArgs s__law_votes) (defBody s__law_votes) (defScope s__law_votes) .none kV29 dc29 pm29 an29 cd29 ct29), sl29⟩)
    (c29 : PySem.W.codeIn K cd29 "_law_votes" = true)
    (k29 : PySem.W.keepIn K (.ref f29) = true)
    (a30 : PySem.W.nsIn K mainGlobals "_law_chain" = some (some (.ref f30)))
    (l30 : K.lookup f30 = some ⟨oc30, od30, .func (PySem.W.fnOf "_law_chain" "_law_chain" (defArgs s__law_chain) (defBody s__law_chain) (defScope s__law_chain) .none kV30 dc30 pm30 an30 cd30 ct30), sl30⟩)
    (c30 : PySem.W.codeIn K cd30 "_law_chain" = true)
    (k30 : PySem.W.keepIn K (.ref f30) = true)
    (a31 : PySem.W.nsIn K mainGlobals "_law_before" = some (some (.ref f31)))
    (l31 : K.lookup f31 = some ⟨oc31, od31, .func (PySem.W.fnOf "_law_before" "_law_before" (defArgs s__law_before) (defBody s__law_before) (defScope s__law_before) .none kV31 dc31 pm31 an31 cd31 ct31), sl31⟩)
    (c31 : PySem.W.codeIn K cd31 "_law_before" = true)
    (k31 : PySem.W.keepIn K (.ref f31) = true)
    (a32 : PySem.W.nsIn K mainGlobals "_law_widest" = some (some (.ref f32)))
    (l32 : K.lookup f32 = some ⟨oc32, od32, .func (PySem.W.fnOf "_law_widest" "_law_widest" (defArgs s__law_widest) (defBody s__law_widest) (defScope s__law_widest) .none kV32 dc32 pm32 an32 cd32 ct32), sl32⟩)
    (c32 : PySem.W.codeIn K cd32 "_law_widest" = true)
    (k32 : PySem.W.keepIn K (.ref f32) = true)
    (a33 : PySem.W.nsIn K mainGlobals "_law_told" = some (some (.ref f33)))
    (l33 : K.lookup f33 = some ⟨oc33, od33, .func (PySem.W.fnOf "_law_told" "_law_told" (defArgs s__law_told) (defBody s__law_told) (defScope s__law_told) .none kV33 dc33 pm33 an33 cd33 ct33), sl33⟩)
    (c33 : PySem.W.codeIn K cd33 "_law_told" = true)
    (k33 : PySem.W.keepIn K (.ref f33) = true)
    (a34 : PySem.W.nsIn K mainGlobals "law" = some (some (.ref f34)))
    (l34 : K.lookup f34 = some ⟨oc34, od34, .func (PySem.W.fnOf "law" "law" (defArgs s_law) (defBody s_law) (defScope s_law) .none kV34 dc34 pm34 an34 cd34 ct34), sl34⟩)
    (c34 : PySem.W.codeIn K cd34 "law" = true)
    (k34 : PySem.W.keepIn K (.ref f34) = true)
    (z_ValueError : PySem.W.nsIn K mainGlobals "ValueError" = some none)
    (z_range : PySem.W.nsIn K mainGlobals "range" = some none)
    (z_list : PySem.W.nsIn K mainGlobals "list" = some none)
    (z_max : PySem.W.nsIn K mainGlobals "max" = some none)
    (z_len : PySem.W.nsIn K mainGlobals "len" = some none)
    (z_isinstance : PySem.W.nsIn K mainGlobals "isinstance" = some none)
    (z_bool : PySem.W.nsIn K mainGlobals "bool" = some none)
    (z_tuple : PySem.W.nsIn K mainGlobals "tuple" = some none)
    (z_int : PySem.W.nsIn K mainGlobals "int" = some none)
    (nm_KeyRule : PySem.W.mroIn K c_KeyRule (.type "object") = some true)
    (nq_KeyRule : PySem.W.findIn K (.ref c_KeyRule) "__eq__" = some (some (.builtin "object.__eq__")))
    (nm_NearRule : PySem.W.mroIn K c_NearRule (.type "object") = some true)
    (nq_NearRule : PySem.W.findIn K (.ref c_NearRule) "__eq__" = some (some (.builtin "object.__eq__")))
    (nm_RingRule : PySem.W.mroIn K c_RingRule (.type "object") = some true)
    (nq_RingRule : PySem.W.findIn K (.ref c_RingRule) "__eq__" = some (some (.builtin "object.__eq__")))
    (nm_TableRule : PySem.W.mroIn K c_TableRule (.type "object") = some true)
    (nq_TableRule : PySem.W.findIn K (.ref c_TableRule) "__eq__" = some (some (.builtin "object.__eq__")))
    (nm_AskedRule : PySem.W.mroIn K c_AskedRule (.type "object") = some true)
    (nq_AskedRule : PySem.W.findIn K (.ref c_AskedRule) "__eq__" = some (some (.builtin "object.__eq__")))
    (nm_VoteRule : PySem.W.mroIn K c_VoteRule (.type "object") = some true)
    (nq_VoteRule : PySem.W.findIn K (.ref c_VoteRule) "__eq__" = some (some (.builtin "object.__eq__")))
    (kk_LAST : PySem.W.nsIn K mainGlobals "LAST" = some (some (.int 7 t_LAST))) :
    LamX.LawAtS l w K CX0 6 63 "_law_script" mg fa h := by
  have e := hfa.symm.trans (PySem.W.mg_of X G a34)
  cases e
  let A : Ad := ⟨c_HallError, c_NoRule, c_Rule, c_KeyRule, c_NearRule, c_RingRule, c_TableRule, c_VoteRule, c_ChainRule, c_AskedRule, P11⟩
  have T : Txt K mg A := ⟨PySem.W.mg_none_of X G z_ValueError, PySem.W.mg_none_of X G z_range, PySem.W.mg_none_of X G z_list, PySem.W.mg_none_of X G z_max, PySem.W.mg_none_of X G z_len, PySem.W.mg_none_of X G z_isinstance, PySem.W.mg_none_of X G z_bool, PySem.W.mg_none_of X G z_tuple, PySem.W.mg_none_of X G z_int, PySem.W.mg_of X G aC_HallError, PySem.W.mg_of X G aC_NoRule, PySem.W.mg_of X G aC_Rule, ⟨pg_Rule, hd_Rule, po_Rule, sa_Rule⟩, PySem.W.mg_of X G aC_KeyRule, ⟨pg_KeyRule, hd_KeyRule, po_KeyRule, sa_KeyRule⟩, na_KeyRule_columns, PySem.W.mg_of X G aC_NearRule, ⟨pg_NearRule, hd_NearRule, po_NearRule, sa_NearRule⟩, na_NearRule_at, na_NearRule_gap, PySem.W.mg_of X G aC_RingRule, ⟨pg_RingRule, hd_RingRule, po_RingRule, sa_RingRule⟩, na_RingRule_at, na_RingRule_size, PySem.W.mg_of X G aC_TableRule, ⟨pg_TableRule, hd_TableRule, po_TableRule, sa_TableRule⟩, na_TableRule_at, na_TableRule_table, PySem.W.mg_of X G aC_VoteRule, ⟨pg_VoteRule, hd_VoteRule, po_VoteRule, sa_VoteRule⟩, na_VoteRule_rules, PySem.W.mg_of X G aC_ChainRule, ⟨pg_ChainRule, hd_ChainRule, po_ChainRule, sa_ChainRule⟩, na_ChainRule_rules, PySem.W.mg_of X G aC_AskedRule, ⟨pg_AskedRule, hd_AskedRule, po_AskedRule, sa_AskedRule⟩, na_AskedRule_teller, ⟨_, PySem.W.mg_of X G kk_LAST, _, rfl⟩, ⟨nm_KeyRule, nq_KeyRule⟩, ⟨nm_NearRule, nq_NearRule⟩, ⟨nm_RingRule, nq_RingRule⟩, ⟨nm_TableRule, nq_TableRule⟩, ⟨nm_AskedRule, nq_AskedRule⟩, ⟨nm_VoteRule, nq_VoteRule⟩⟩
  have F1 := fun_mk (st := s__law_cell_at) l1 c1 k1
  have F2 := fun_mk (st := s_good) l2 c2 k2
  have F3 := fun_mk (st := s_KeyRule___init__) l3 c3 k3
  have F4 := fun_mk (st := s_KeyRule_before) l4 c4 k4
  have F5 := fun_mk (st := s_NearRule___init__) l5 c5 k5
  have F6 := fun_mk (st := s_NearRule_before) l6 c6 k6
  have F7 := fun_mk (st := s_RingRule___init__) l7 c7 k7
  have F8 := fun_mk (st := s_RingRule_before) l8 c8 k8
  have F9 := fun_mk (st := s_TableRule___init__) l9 c9 k9
  have F10 := fun_mk (st := s_TableRule_before) l10 c10 k10
  have F12 := fun_mk (st := s_AskedRule___init__) l12 c12 k12
  have F13 := fun_mk (st := s_AskedRule_before) l13 c13 k13
  have F14 := fun_mk (st := s_VoteRule___init__) l14 c14 k14
  have F15 := fun_mk (st := s_VoteRule_before) l15 c15 k15
  have F16 := fun_mk (st := s_ChainRule___init__) l16 c16 k16
  have F17 := fun_mk (st := s_ChainRule_before) l17 c17 k17
  have F18 := fun_mk (st := s_KeyRule_widest) l18 c18 k18
  have F19 := fun_mk (st := s_NearRule_widest) l19 c19 k19
  have F20 := fun_mk (st := s_RingRule_widest) l20 c20 k20
  have F21 := fun_mk (st := s_TableRule_widest) l21 c21 k21
  have F22 := fun_mk (st := s_AskedRule_widest) l22 c22 k22
  have F23 := fun_mk (st := s_VoteRule_widest) l23 c23 k23
  have F24 := fun_mk (st := s_ChainRule_widest) l24 c24 k24
  have F25 := fun_mk (st := s__law_figures) l25 c25 k25
  have F26 := fun_mk (st := s__law_plan_by) l26 c26 k26
  have F27 := fun_mk (st := s__law_rule_of) l27 c27 k27
  have F28 := fun_mk (st := s__law_one) l28 c28 k28
  have F29 := fun_mk (st := s__law_votes) l29 c29 k29
  have F30 := fun_mk (st := s__law_chain) l30 c30 k30
  have F31 := fun_mk (st := s__law_before) l31 c31 k31
  have F32 := fun_mk (st := s__law_widest) l32 c32 k32
  have F33 := fun_mk (st := s__law_told) l33 c33 k33
  have F34 := fun_mk (st := s_law) l34 c34 k34
  refine ⟨PySem.W.fnOf "law" "law" (defArgs s_law) (defBody s_law) (defScope s_law) .none kV34 dc34 pm34 an34 cd34 ct34, [(cc11, P11)], sp_law K A, (fun p hp => by rw [List.mem_singleton] at hp; rw [hp]; exact tp11), (fun p hp => by rw [List.mem_singleton] at hp; rw [hp]; exact np11), (fun p hp => by rw [List.mem_singleton] at hp; rw [hp]; exact PySem.W.codeHd_of_K X hh11), (fun s v => .of_eq rfl), (fun H a ns hl _ hcs hS => ⟨a, ns, rfl, ⟨hS, hl, fun p hp => by rw [List.mem_singleton] at hp; rw [hp]; exact SH.tabN_empty (hcs _ (List.mem_singleton.mpr rfl))⟩, fun _ => rfl⟩), fun base _ _ hTB => ?_⟩
  have TB : LamX.TabB base mg cc11 P11 := hTB _ (List.mem_singleton.mpr rfl)
  have TEL := (cok__law_teller___law_ask (P := l.prog) (w := w) (base := base) T).tel
  have O__law_cell_at := ok__law_cell_at (P := l.prog) (w := w) (base := base) F1 T 
  have O_good := ok_good (P := l.prog) (w := w) (base := base) F2 T 
  have X1 : SH.Cal l.prog w K mg base CX0 _ "good" [] _ := ⟨f2, _, _, _, PySem.W.mg_of X G a2, k2, (F2.binds (ps := ["at"]) fun _ _ _ _ _ _ us hl => match us, hl with | [_], _ => rfl), .nil, O_good⟩
  have O_KeyRule___init__ := ok_KeyRule___init__ (P := l.prog) (w := w) (base := base) F3 T X1
  have O_KeyRule_before := ok_KeyRule_before (P := l.prog) (w := w) (base := base) F4 T 
  have O_NearRule___init__ := ok_NearRule___init__ (P := l.prog) (w := w) (base := base) F5 T X1
  have O_NearRule_before := ok_NearRule_before (P := l.prog) (w := w) (base := base) F6 T 
  have O_RingRule___init__ := ok_RingRule___init__ (P := l.prog) (w := w) (base := base) F7 T X1
  have O_RingRule_before := ok_RingRule_before (P := l.prog) (w := w) (base := base) F8 T 
  have O_TableRule___init__ := ok_TableRule___init__ (P := l.prog) (w := w) (base := base) F9 T X1
  have O_TableRule_before := ok_TableRule_before (P := l.prog) (w := w) (base := base) F10 T 
  have O__law_teller := ok__law_teller (P := l.prog) (w := w) (base := base) (A := A) l11 c11 TB
  have O_AskedRule___init__ := ok_AskedRule___init__ (P := l.prog) (w := w) (base := base) F12 T 
  have O_AskedRule_before := ok_AskedRule_before (P := l.prog) (w := w) (base := base) F13 T TEL
  have O_VoteRule___init__ := ok_VoteRule___init__ (P := l.prog) (w := w) (base := base) F14 T 
  have X2 : SH.CalM l.prog w K mg base CX0 _ A.AskedRule "before" [] _ := ⟨T.cl_AskedRule, f13, _, _, _, ⟨a13_AskedRule, i13, k13⟩, (F13.binds (ps := ["self", "x", "y"]) fun _ _ _ _ _ _ us hl => match us, hl with | [_, _, _], _ => rfl), .nil, O_AskedRule_before⟩
  have X3 : SH.CalM l.prog w K mg base CX0 _ A.KeyRule "before" [] _ := ⟨T.cl_KeyRule, f4, _, _, _, ⟨a4_KeyRule, i4, k4⟩, (F4.binds (ps := ["self", "x", "y"]) fun _ _ _ _ _ _ us hl => match us, hl with | [_, _, _], _ => rfl), .nil, O_KeyRule_before⟩
  have X4 : SH.CalM l.prog w K mg base CX0 _ A.NearRule "before" [] _ := ⟨T.cl_NearRule, f6, _, _, _, ⟨a6_NearRule, i6, k6⟩, (F6.binds (ps := ["self", "x", "y"]) fun _ _ _ _ _ _ us hl => match us, hl with | [_, _, _], _ => rfl), .nil, O_NearRule_before⟩
  have X5 : SH.CalM l.prog w K mg base CX0 _ A.RingRule "before" [] _ := ⟨T.cl_RingRule, f8, _, _, _, ⟨a8_RingRule, i8, k8⟩, (F8.binds (ps := ["self", "x", "y"]) fun _ _ _ _ _ _ us hl => match us, hl with | [_, _, _], _ => rfl), .nil, O_RingRule_before⟩
  have X6 : SH.CalM l.prog w K mg base CX0 _ A.TableRule "before" [] _ := ⟨T.cl_TableRule, f10, _, _, _, ⟨a10_TableRule, i10, k10⟩, (F10.binds (ps := ["self", "x", "y"]) fun _ _ _ _ _ _ us hl => match us, hl with | [_, _, _], _ => rfl), .nil, O_TableRule_before⟩
  have O_VoteRule_before := ok_VoteRule_before (P := l.prog) (w := w) (base := base) F15 T X2 X3 X4 X5 X6
  have O_ChainRule___init__ := ok_ChainRule___init__ (P := l.prog) (w := w) (base := base) F16 T 
  have X7 : SH.CalM l.prog w K mg base CX0 _ A.VoteRule "before" [] _ := ⟨T.cl_VoteRule, f15, _, _, _, ⟨a15_VoteRule, i15, k15⟩, (F15.binds (ps := ["self", "x", "y"]) fun _ _ _ _ _ _ us hl => match us, hl with | [_, _, _], _ => rfl), .nil, O_VoteRule_before⟩
  have O_ChainRule_before := ok_ChainRule_before (P := l.prog) (w := w) (base := base) F17 T X2 X3 X4 X5 X6 X7
  have O_KeyRule_widest := ok_KeyRule_widest (P := l.prog) (w := w) (base := base) F18 T 
  have O_NearRule_widest := ok_NearRule_widest (P := l.prog) (w := w) (base := base) F19 T 
  have O_RingRule_widest := ok_RingRule_widest (P := l.prog) (w := w) (base := base) F20 T 
  have O_TableRule_widest := ok_TableRule_widest (P := l.prog) (w := w) (base := base) F21 T 
  have O_AskedRule_widest := ok_AskedRule_widest (P := l.prog) (w := w) (base := base) F22 T 
  have X8 : SH.CalM l.prog w K mg base CX0 _ A.AskedRule "widest" [] _ := ⟨T.cl_AskedRule, f22, _, _, _, ⟨a22_AskedRule, i22, k22⟩, (F22.binds (ps := ["self"]) fun _ _ _ _ _ _ us hl => match us, hl with | [_], _ => rfl), .nil, O_AskedRule_widest⟩
  have X9 : SH.CalM l.prog w K mg base CX0 _ A.KeyRule "widest" [] _ := ⟨T.cl_KeyRule, f18, _, _, _, ⟨a18_KeyRule, i18, k18⟩, (F18.binds (ps := ["self"]) fun _ _ _ _ _ _ us hl => match us, hl with | [_], _ => rfl), .nil, O_KeyRule_widest⟩
  have X10 : SH.CalM l.prog w K mg base CX0 _ A.NearRule "widest" [] _ := ⟨T.cl_NearRule, f19, _, _, _, ⟨a19_NearRule, i19, k19⟩, (F19.binds (ps := ["self"]) fun _ _ _ _ _ _ us hl => match us, hl with | [_], _ => rfl), .nil, O_NearRule_widest⟩
  have X11 : SH.CalM l.prog w K mg base CX0 _ A.RingRule "widest" [] _ := ⟨T.cl_RingRule, f20, _, _, _, ⟨a20_RingRule, i20, k20⟩, (F20.binds (ps := ["self"]) fun _ _ _ _ _ _ us hl => match us, hl with | [_], _ => rfl), .nil, O_RingRule_widest⟩
  have X12 : SH.CalM l.prog w K mg base CX0 _ A.TableRule "widest" [] _ := ⟨T.cl_TableRule, f21, _, _, _, ⟨a21_TableRule, i21, k21⟩, (F21.binds (ps := ["self"]) fun _ _ _ _ _ _ us hl => match us, hl with | [_], _ => rfl), .nil, O_TableRule_widest⟩
  have O_VoteRule_widest := ok_VoteRule_widest (P := l.prog) (w := w) (base := base) F23 T X8 X9 X10 X11 X12
  have X13 : SH.CalM l.prog w K mg base CX0 _ A.VoteRule "widest" [] _ := ⟨T.cl_VoteRule, f23, _, _, _, ⟨a23_VoteRule, i23, k23⟩, (F23.binds (ps := ["self"]) fun _ _ _ _ _ _ us hl => match us, hl with | [_], _ => rfl), .nil, O_VoteRule_widest⟩
  have O_ChainRule_widest := ok_ChainRule_widest (P := l.prog) (w := w) (base := base) F24 T X8 X9 X10 X11 X12 X13
  have O__law_figures := ok__law_figures (P := l.prog) (w := w) (base := base) F25 T 
  have X14 : SH.Cal l.prog w K mg base CX0 _ "_law_figures" [] _ := ⟨f25, _, _, _, PySem.W.mg_of X G a25, k25, (F25.binds (ps := ["_law_cell", "_law_many", "_law_base"]) fun _ _ _ _ _ _ us hl => match us, hl with | [_, _, _], _ => rfl), .nil, O__law_figures⟩
  have O__law_plan_by := ok__law_plan_by (P := l.prog) (w := w) (base := base) F26 T X14
  have X15 : SH.Cal l.prog w K mg base CX0 _ "_law_teller" [] _ := ⟨f11, _, _, _, PySem.W.mg_of X G a11, k11, (.all fun us hl => match us, hl with | [_, _], _ => rfl), .nil, O__law_teller⟩
  have X16 : SH.CalC l.prog w K mg base CX0 _ "AskedRule" A.AskedRule [] _ := ⟨f12, _, _, _, T.g_AskedRule, ⟨mk_AskedRule, a12_AskedRule, i12, kc_AskedRule⟩, (F12.binds (ps := ["self", "teller"]) fun _ _ _ _ _ _ us hl => match us, hl with | [_, _], _ => rfl), .nil, O_AskedRule___init__⟩
  have X17 : SH.CalC l.prog w K mg base CX0 _ "KeyRule" A.KeyRule [] _ := ⟨f3, _, _, _, T.g_KeyRule, ⟨mk_KeyRule, a3_KeyRule, i3, kc_KeyRule⟩, (F3.binds (ps := ["self", "columns"]) fun _ _ _ _ _ _ us hl => match us, hl with | [_, _], _ => rfl), .nil, O_KeyRule___init__⟩
  have X18 : SH.CalC l.prog w K mg base CX0 _ "NearRule" A.NearRule [] _ := ⟨f5, _, _, _, T.g_NearRule, ⟨mk_NearRule, a5_NearRule, i5, kc_NearRule⟩, (F5.binds (ps := ["self", "at", "gap"]) fun _ _ _ _ _ _ us hl => match us, hl with | [_, _, _], _ => rfl), .nil, O_NearRule___init__⟩
  have X19 : SH.CalC l.prog w K mg base CX0 _ "RingRule" A.RingRule [] _ := ⟨f7, _, _, _, T.g_RingRule, ⟨mk_RingRule, a7_RingRule, i7, kc_RingRule⟩, (F7.binds (ps := ["self", "at", "size"]) fun _ _ _ _ _ _ us hl => match us, hl with | [_, _, _], _ => rfl), .nil, O_RingRule___init__⟩
  have X20 : SH.CalC l.prog w K mg base CX0 _ "TableRule" A.TableRule [] _ := ⟨f9, _, _, _, T.g_TableRule, ⟨mk_TableRule, a9_TableRule, i9, kc_TableRule⟩, (F9.binds (ps := ["self", "at", "table"]) fun _ _ _ _ _ _ us hl => match us, hl with | [_, _, _], _ => rfl), .nil, O_TableRule___init__⟩
  have O__law_rule_of := ok__law_rule_of (P := l.prog) (w := w) (base := base) F27 T X15 X16 X17 X18 X19 X20
  have O__law_one := ok__law_one (P := l.prog) (w := w) (base := base) F28 T 
  have X21 : SH.Cal l.prog w K mg base CX0 _ "_law_one" [] _ := ⟨f28, _, _, _, PySem.W.mg_of X G a28, k28, (F28.binds (ps := ["_law_plan", "_law_x", "_law_y"]) fun _ _ _ _ _ _ us hl => match us, hl with | [_, _, _], _ => rfl), .nil, O__law_one⟩
  have O__law_votes := ok__law_votes (P := l.prog) (w := w) (base := base) F29 T X21
  have O__law_chain := ok__law_chain (P := l.prog) (w := w) (base := base) F30 T 
  have X22 : SH.Cal l.prog w K mg base CX0 _ "_law_chain" [] _ := ⟨f30, _, _, _, PySem.W.mg_of X G a30, k30, (F30.binds (ps := ["_law_tells"]) fun _ _ _ _ _ _ us hl => match us, hl with | [_], _ => rfl), .nil, O__law_chain⟩
  have X23 : SH.Cal l.prog w K mg base CX0 _ "_law_votes" [] _ := ⟨f29, _, _, _, PySem.W.mg_of X G a29, k29, (F29.binds (ps := ["_law_plans", "_law_x", "_law_y"]) fun _ _ _ _ _ _ us hl => match us, hl with | [_, _, _], _ => rfl), .nil, O__law_votes⟩
  have O__law_before := ok__law_before (P := l.prog) (w := w) (base := base) F31 T X22 X21 X23
  have O__law_widest := ok__law_widest (P := l.prog) (w := w) (base := base) F32 T 
  have X24 : SH.CalM l.prog w K mg base CX0 _ A.ChainRule "before" [] _ := ⟨T.cl_ChainRule, f17, _, _, _, ⟨a17_ChainRule, i17, k17⟩, (F17.binds (ps := ["self", "x", "y"]) fun _ _ _ _ _ _ us hl => match us, hl with | [_, _, _], _ => rfl), .nil, O_ChainRule_before⟩
  have X25 : SH.Cal l.prog w K mg base CX0 _ "_law_before" [] _ := ⟨f31, _, _, _, PySem.W.mg_of X G a31, k31, (F31.binds (ps := ["_law_plans", "_law_way", "_law_x", "_law_y"]) fun _ _ _ _ _ _ us hl => match us, hl with | [_, _, _, _], _ => rfl), .nil, O__law_before⟩
  have O__law_told := ok__law_told (P := l.prog) (w := w) (base := base) F33 T X24 X7 X25
  have X26 : SH.CalM l.prog w K mg base CX0 _ A.ChainRule "widest" [] _ := ⟨T.cl_ChainRule, f24, _, _, _, ⟨a24_ChainRule, i24, k24⟩, (F24.binds (ps := ["self"]) fun _ _ _ _ _ _ us hl => match us, hl with | [_], _ => rfl), .nil, O_ChainRule_widest⟩
  have X27 : SH.Cal l.prog w K mg base CX0 _ "_law_cell_at" [] _ := ⟨f1, _, _, _, PySem.W.mg_of X G a1, k1, (F1.binds (ps := ["_law_script", "_law_k"]) fun _ _ _ _ _ _ us hl => match us, hl with | [_, _], _ => rfl), .nil, O__law_cell_at⟩
  have X28 : SH.Cal l.prog w K mg base CX0 _ "_law_plan_by" [] _ := ⟨f26, _, _, _, PySem.W.mg_of X G a26, k26, (F26.binds (ps := ["_law_cell", "_law_long"]) fun _ _ _ _ _ _ us hl => match us, hl with | [_, _], _ => rfl), .nil, O__law_plan_by⟩
  have X29 : SH.Cal l.prog w K mg base CX0 _ "_law_rule_of" [] _ := ⟨f27, _, _, _, PySem.W.mg_of X G a27, k27, (F27.binds (ps := ["_law_plan"]) fun _ _ _ _ _ _ us hl => match us, hl with | [_], _ => rfl), .nil, O__law_rule_of⟩
  have X30 : SH.Cal l.prog w K mg base CX0 _ "_law_told" [] _ := ⟨f33, _, _, _, PySem.W.mg_of X G a33, k33, (F33.binds (ps := ["_law_rule", "_law_plans", "_law_way", "_law_x", "_law_y"]) fun _ _ _ _ _ _ us hl => match us, hl with | [_, _, _, _, _], _ => rfl), .nil, O__law_told⟩
  have X31 : SH.Cal l.prog w K mg base CX0 _ "_law_widest" [] _ := ⟨f32, _, _, _, PySem.W.mg_of X G a32, k32, (F32.binds (ps := ["_law_plan"]) fun _ _ _ _ _ _ us hl => match us, hl with | [_], _ => rfl), .nil, O__law_widest⟩
  have X32 : SH.CalC l.prog w K mg base CX0 _ "ChainRule" A.ChainRule [] _ := ⟨f16, _, _, _, T.g_ChainRule, ⟨mk_ChainRule, a16_ChainRule, i16, kc_ChainRule⟩, (F16.binds (ps := ["self", "rules"]) fun _ _ _ _ _ _ us hl => match us, hl with | [_, _], _ => rfl), .nil, O_ChainRule___init__⟩
  have X33 : SH.CalC l.prog w K mg base CX0 _ "VoteRule" A.VoteRule [] _ := ⟨f14, _, _, _, T.g_VoteRule, ⟨mk_VoteRule, a14_VoteRule, i14, kc_VoteRule⟩, (F14.binds (ps := ["self", "rules"]) fun _ _ _ _ _ _ us hl => match us, hl with | [_, _], _ => rfl), .nil, O_VoteRule___init__⟩
  have O_law := ok_law (P := l.prog) (w := w) (base := base) F34 T X26 X13 X27 X14 X28 X29 X30 X31 X32 X33
  exact O_law
theorem walk {l : PySem.W.OpenLaw} {q : Program} {loose : List Str} {XP : (Str → Option Value) → Heap → Prop} {YP : World → Heap → Prop} {d : DefRec} {K : Params → PySem.W.Frag} (hn : l.most = some 63) (hdf : d.params.defaults = [])
    (hY : ∀ (w : World) (h : Heap), YP w h → (K w.params).In h)
    (F : ∀ (w : World) (mg : Str → Option Value) (fa : Addr) (h : Heap), YP w h → (K w.params).In h → h.Ns mainGlobals mg → mg d.name = some (.ref fa) → LamX.LawAtS l w (K w.params) CX0 6 63 "_law_script" mg fa h) :
    PySem.W.WalkO q loose XP YP l.row.toRowW d [] (fun f vs => PySem.call f vs) :=
  LamX.walk_ofTs (n := 63) (k := 6) (x := "_law_script") (CX := fun _ => CX0) hn (by decide) hdf ⟨rfl, by decide, by decide⟩ hY F fun _ _ _ _ _ z => z
end Law

open PySem PySem.W PyProof.Rows
set_option maxRecDepth 100000 in
set_option maxHeartbeats 0 in
theorem PySem.Challenge.cw_sorthall_k13_tables_votes_chains_holds : PySem.Challenge.rw_sorthall_k13_tables_votes_chains.Holds := by
  w_on; o_law; k_head; (case hw => w_witness2)
  k_fill
  refine Law.walk (l := PySem.Challenge.rw_sorthall_k13_tables_votes_chains) rfl rfl (fun w h Y => PySem.W.km_in_of Y) ?F
  case F =>
    intro w mg fa h Y KX G hmg
    refine' Law.all_mk KX G hmg ?aC_HallError ?aC_NoRule ?aC_Rule ?pg_Rule ?hd_Rule ?po_Rule ?sa_Rule ?mk_Rule ?kc_Rule ?aC_KeyRule ?pg_KeyRule ?hd_KeyRule ?po_KeyRule ?sa_KeyRule ?mk_KeyRule ?kc_KeyRule ?na_KeyRule_columns ?aC_NearRule ?pg_NearRule ?hd_NearRule ?po_NearRule ?sa_NearRule ?mk_NearRule ?kc_NearRule ?na_NearRule_at ?na_NearRule_gap ?aC_RingRule ?pg_RingRule ?hd_RingRule ?po_RingRule ?sa_RingRule ?mk_RingRule ?kc_RingRule ?na_RingRule_at ?na_RingRule_size ?aC_TableRule ?pg_TableRule ?hd_TableRule ?po_TableRule ?sa_TableRule ?mk_TableRule ?kc_TableRule ?na_TableRule_at ?na_TableRule_table ?aC_VoteRule ?pg_VoteRule ?hd_VoteRule ?po_VoteRule ?sa_VoteRule ?mk_VoteRule ?kc_VoteRule ?na_VoteRule_rules ?aC_ChainRule ?pg_ChainRule ?hd_ChainRule ?po_ChainRule ?sa_ChainRule ?mk_ChainRule ?kc_ChainRule ?na_ChainRule_rules ?aC_AskedRule ?pg_AskedRule ?hd_AskedRule ?po_AskedRule ?sa_AskedRule ?mk_AskedRule ?kc_AskedRule ?na_AskedRule_teller ?a1 ?l1 ?c1 ?k1 ?a2 ?l2 ?c2 ?k2 ?a3_KeyRule ?i3 ?l3 ?c3 ?k3 ?a4_KeyRule ?i4 ?l4 ?c4 ?k4 ?a5_NearRule ?i5 ?l5 ?c5 ?k5 ?a6_NearRule ?i6 ?l6 ?c6 ?k6 ?a7_RingRule ?i7 ?l7 ?c7 ?k7 ?a8_RingRule ?i8 ?l8 ?c8 ?k8 ?a9_TableRule ?i9 ?l9 ?c9 ?k9 ?a10_TableRule ?i10 ?l10 ?c10 ?k10 ?a11 ?l11 ?lc11 ?lp11 ?hh11 ?np11 ?gp11 ?tp11 ?c11 ?k11 ?a12_AskedRule ?i12 ?l12 ?c12 ?k12 ?a13_AskedRule ?i13 ?l13 ?c13 ?k13 ?a14_VoteRule ?i14 ?l14 ?c14 ?k14 ?a15_VoteRule ?i15 ?l15 ?c15 ?k15 ?a16_ChainRule ?i16 ?l16 ?c16 ?k16 ?a17_ChainRule ?i17 ?l17 ?c17 ?k17 ?a18_KeyRule ?i18 ?l18 ?c18 ?k18 ?a19_NearRule ?i19 ?l19 ?c19 ?k19 ?a20_RingRule ?i20 ?l20 ?c20 ?k20 ?a21_TableRule ?i21 ?l21 ?c21 ?k21 ?a22_AskedRule ?i22 ?l22 ?c22 ?k22 ?a23_VoteRule ?i23 ?l23 ?c23 ?k23 ?a24_ChainRule ?i24 ?l24 ?c24 ?k24 ?a25 ?l25 ?c25 ?k25 ?a26 ?l26 ?c26 ?k26 ?a27 ?l27 ?c27 ?k27 ?a28 ?l28 ?c28 ?k28 ?a29 ?l29 ?c29 ?k29 ?a30 ?l30 ?c30 ?k30 ?a31 ?l31 ?c31 ?k31 ?a32 ?l32 ?c32 ?k32 ?a33 ?l33 ?c33 ?k33 ?a34 ?l34 ?c34 ?k34 ?z_ValueError ?z_range ?z_list ?z_max ?z_len ?z_isinstance ?z_bool ?z_tuple ?z_int ?nm_KeyRule ?nq_KeyRule ?nm_NearRule ?nq_NearRule ?nm_RingRule ?nq_RingRule ?nm_TableRule ?nq_TableRule ?nm_AskedRule ?nq_AskedRule ?nm_VoteRule ?nq_VoteRule ?kk_LAST
    (case aC_HallError => k_is); (case aC_NoRule => k_is); (case aC_Rule => k_is); (case pg_Rule => k_is); (case hd_Rule => k_is); (case po_Rule => k_is); (case sa_Rule => k_is); (case mk_Rule => k_is); (case kc_Rule => k_is); (case aC_KeyRule => k_is); (case pg_KeyRule => k_is); (case hd_KeyRule => k_is); (case po_KeyRule => k_is); (case sa_KeyRule => k_is); (case mk_KeyRule => k_is); (case kc_KeyRule => k_is); (case na_KeyRule_columns => k_is); (case aC_NearRule => k_is); (case pg_NearRule => k_is); (case hd_NearRule => k_is); (case po_NearRule => k_is); (case sa_NearRule => k_is); (case mk_NearRule => k_is); (case kc_NearRule => k_is); (case na_NearRule_at => k_is); (case na_NearRule_gap => k_is); (case aC_RingRule => k_is); (case pg_RingRule => k_is); (case hd_RingRule => k_is); (case po_RingRule => k_is); (case sa_RingRule => k_is); (case mk_RingRule => k_is); (case kc_RingRule => k_is); (case na_RingRule_at => k_is); (case na_RingRule_size => k_is); (case aC_TableRule => k_is); (case pg_TableRule => k_is); (case hd_TableRule => k_is); (case po_TableRule => k_is); (case sa_TableRule => k_is); (case mk_TableRule => k_is); (case kc_TableRule => k_is); (case na_TableRule_at => k_is); (case na_TableRule_table => k_is); (case aC_VoteRule => k_is); (case pg_VoteRule => k_is); (case hd_VoteRule => k_is); (case po_VoteRule => k_is); (case sa_VoteRule => k_is); (case mk_VoteRule => k_is); (case kc_VoteRule => k_is); (case na_VoteRule_rules => k_is); (case aC_ChainRule => k_is); (case pg_ChainRule => k_is); (case hd_ChainRule => k_is); (case po_ChainRule => k_is); (case sa_ChainRule => k_is); (case mk_ChainRule => k_is); (case kc_ChainRule => k_is); (case na_ChainRule_rules => k_is); (case aC_AskedRule => k_is); (case pg_AskedRule => k_is); (case hd_AskedRule => k_is); (case po_AskedRule => k_is); (case sa_AskedRule => k_is); (case mk_AskedRule => k_is); (case kc_AskedRule => k_is); (case na_AskedRule_teller => k_is); (case a1 => k_is); (case l1 => k_is); (case c1 => k_is); (case k1 => k_is); (case a2 => k_is); (case l2 => k_is); (case c2 => k_is); (case k2 => k_is); (case a3_KeyRule => k_is); (case i3 => k_is); (case l3 => k_is); (case c3 => k_is); (case k3 => k_is); (case a4_KeyRule => k_is); (case i4 => k_is); (case l4 => k_is); (case c4 => k_is); (case k4 => k_is); (case a5_NearRule => k_is); (case i5 => k_is); (case l5 => k_is); (case c5 => k_is); (case k5 => k_is); (case a6_NearRule => k_is); (case i6 => k_is); (case l6 => k_is); (case c6 => k_is); (case k6 => k_is); (case a7_RingRule => k_is); (case i7 => k_is); (case l7 => k_is); (case c7 => k_is); (case k7 => k_is); (case a8_RingRule => k_is); (case i8 => k_is); (case l8 => k_is); (case c8 => k_is); (case k8 => k_is); (case a9_TableRule => k_is); (case i9 => k_is); (case l9 => k_is); (case c9 => k_is); (case k9 => k_is); (case a10_TableRule => k_is); (case i10 => k_is); (case l10 => k_is); (case c10 => k_is); (case k10 => k_is); (case a11 => k_is); (case l11 => k_is); (case lc11 => k_is); (case lp11 => rfl); (case hh11 => kernel_rfl); (case np11 => kernel_rfl); (case gp11 => decide); (case tp11 => exact PySem.W.km_tabs_of Y _ (by simp)); (case c11 => k_is); (case k11 => k_is); (case a12_AskedRule => k_is); (case i12 => k_is); (case l12 => k_is); (case c12 => k_is); (case k12 => k_is); (case a13_AskedRule => k_is); (case i13 => k_is); (case l13 => k_is); (case c13 => k_is); (case k13 => k_is); (case a14_VoteRule => k_is); (case i14 => k_is); (case l14 => k_is); (case c14 => k_is); (case k14 => k_is); (case a15_VoteRule => k_is); (case i15 => k_is); (case l15 => k_is); (case c15 => k_is); (case k15 => k_is); (case a16_ChainRule => k_is); (case i16 => k_is); (case l16 => k_is); (case c16 => k_is); (case k16 => k_is); (case a17_ChainRule => k_is); (case i17 => k_is); (case l17 => k_is); (case c17 => k_is); (case k17 => k_is); (case a18_KeyRule => k_is); (case i18 => k_is); (case l18 => k_is); (case c18 => k_is); (case k18 => k_is); (case a19_NearRule => k_is); (case i19 => k_is); (case l19 => k_is); (case c19 => k_is); (case k19 => k_is); (case a20_RingRule => k_is); (case i20 => k_is); (case l20 => k_is); (case c20 => k_is); (case k20 => k_is); (case a21_TableRule => k_is); (case i21 => k_is); (case l21 => k_is); (case c21 => k_is); (case k21 => k_is); (case a22_AskedRule => k_is); (case i22 => k_is); (case l22 => k_is); (case c22 => k_is); (case k22 => k_is); (case a23_VoteRule => k_is); (case i23 => k_is); (case l23 => k_is); (case c23 => k_is); (case k23 => k_is); (case a24_ChainRule => k_is); (case i24 => k_is); (case l24 => k_is); (case c24 => k_is); (case k24 => k_is); (case a25 => k_is); (case l25 => k_is); (case c25 => k_is); (case k25 => k_is); (case a26 => k_is); (case l26 => k_is); (case c26 => k_is); (case k26 => k_is); (case a27 => k_is); (case l27 => k_is); (case c27 => k_is); (case k27 => k_is); (case a28 => k_is); (case l28 => k_is); (case c28 => k_is); (case k28 => k_is); (case a29 => k_is); (case l29 => k_is); (case c29 => k_is); (case k29 => k_is); (case a30 => k_is); (case l30 => k_is); (case c30 => k_is); (case k30 => k_is); (case a31 => k_is); (case l31 => k_is); (case c31 => k_is); (case k31 => k_is); (case a32 => k_is); (case l32 => k_is); (case c32 => k_is); (case k32 => k_is); (case a33 => k_is); (case l33 => k_is); (case c33 => k_is); (case k33 => k_is); (case a34 => k_is); (case l34 => k_is); (case c34 => k_is); (case k34 => k_is); (case z_ValueError => k_is); (case z_range => k_is); (case z_list => k_is); (case z_max => k_is); (case z_len => k_is); (case z_isinstance => k_is); (case z_bool => k_is); (case z_tuple => k_is); (case z_int => k_is); (case nm_KeyRule => k_is); (case nq_KeyRule => k_is); (case nm_NearRule => k_is); (case nq_NearRule => k_is); (case nm_RingRule => k_is); (case nq_RingRule => k_is); (case nm_TableRule => k_is); (case nq_TableRule => k_is); (case nm_AskedRule => k_is); (case nq_AskedRule => k_is); (case nm_VoteRule => k_is); (case nq_VoteRule => k_is); (case kk_LAST => k_is)
#print axioms PySem.Challenge.cw_sorthall_k13_tables_votes_chains_holds

