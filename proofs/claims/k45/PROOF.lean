import PyProof.Rows.All
import Wide.All
import OpenK.AllK
import Wide.FinOn
import HandS.ForMost
import HandS.ForExc
import HandS.Wide
import HandS.WideBits
import HandS.IsInst
import HandS.Conv
import HandS.Walk
import HandS.SortInts
import HandS.SortRule
import HandS.Nested
import HandS.More
import HandS.Defaults
import HandS.EndTab
import HandS.Rev
import HandS.RevTup
import HandS.SortKw
import KE.DataMinMax
import HandS.Dict
import HandS.Style
import KE.DataCmp
import KE.KDictCopyH
import HandS.MakeKw
import HandS.CallLocal
import HandS.SetFor
import HandS.Strs
import HandS.CallSlots
import HandS.ExcIs
import HandS.ExcInit
import HandS.ExcField
import KE.KExcIs
import HandS.ExcInitHot
import PySem.Challenge.RW_sorthall_k45_stopped_and_asked_again
set_option Elab.async false
set_option linter.all false
set_option maxRecDepth 100000
set_option maxHeartbeats 4000000
/-! SHA: steps of the heap, rules that look at the values themselves, readings one by one -/
namespace SH
open PySem PySem.Spec PyProof.Rows L2

/-! ### what a heap becomes -/
/-- what never changes -/
def Fix : HO → Prop
  | .tup _ => True
  | .ext _ => True
  | .frz _ _ => True
  | _ => False
/-- H' has all that H has, but what stands at M may be another (no tuple, no function, no cell) -/
structure Stp (M : List Addr) (H H' : Hp) : Prop where
  same : ∀ b o, H b = some o → (b ∉ M ∨ Fix o) → H' b = some o
  dom : ∀ b, H' b = none → H b = none
theorem Stp.refl (M : List Addr) (H : Hp) : Stp M H H := ⟨fun _ _ h _ => h, fun _ h => h⟩
theorem Stp.mono {M M' : List Addr} {H H' : Hp} (s : Stp M H H') (h : ∀ b ∈ M, b ∈ M') : Stp M' H H' := ⟨fun b o e n => s.same b o e (n.imp (fun n z => n (h b z)) id), s.dom⟩
theorem Stp.trans {M : List Addr} {H H1 H2 : Hp} (a : Stp M H H1) (b : Stp M H1 H2) : Stp M H H2 := ⟨fun c o e n => b.same c o (a.same c o e n) n, fun c h => a.dom c (b.dom c h)⟩
/-- what the second changes is new, or the first one's -/
theorem Stp.then {M M' : List Addr} {H H1 H2 : Hp} (a : Stp M H H1) (b : Stp M' H1 H2) (h : ∀ m ∈ M', m ∈ M ∨ H m = none) : Stp M H H2 :=
  ⟨fun c o e n => b.same c o (a.same c o e n) (n.imp (fun n z => (h c z).elim n fun q => (by rw [q] at e; cases e)) id), fun c h => a.dom c (b.dom c h)⟩
theorem Stp.then0 {M : List Addr} {H H1 H2 : Hp} (a : Stp M H H1) (b : Stp [] H1 H2) : Stp M H H2 := a.then b (by simp)
theorem Stp.new {M : List Addr} {H H1 : Hp} {p : Addr} {o : HO} (a : Stp M H H1) (h : H1 p = none) : Stp M H (upd H1 p o) :=
  ⟨fun c u e n => by have q := a.same c u e n; rw [upd_ne (ne_of_none q h)]; exact q, fun c q => a.dom c (by
    by_cases z : c = p
    · subst z; exact h
    · rw [upd_ne z] at q; exact q)⟩
theorem Stp.putM {M : List Addr} {H H1 : Hp} {p : Addr} {o o1 : HO} (a : Stp M H H1) (h : p ∈ M) (h1 : H1 p = some o1) (nf : ¬ Fix o1) : Stp M H (upd H1 p o) :=
  ⟨fun c u e n => by
    by_cases z : c = p
    · subst z
      rcases n with n | n
      · exact (n h).elim
      · have q := a.same c u e (.inr n)
        rw [h1] at q; cases q; exact (nf n).elim
    · rw [upd_ne z]; exact a.same c u e n, fun c q => a.dom c (by
    by_cases z : c = p
    · subst z; rw [upd_same] at q; cases q
    · rw [upd_ne z] at q; exact q)⟩
theorem Stp.putN {M : List Addr} {H H1 : Hp} {p : Addr} {o : HO} (a : Stp M H H1) (h : H p = none) : Stp M H (upd H1 p o) :=
  ⟨fun c u e n => by
    rw [upd_ne (fun z => by subst z; rw [h] at e; cases e)]
    exact a.same c u e n, fun c q => a.dom c (by
    by_cases z : c = p
    · subst z; rw [upd_same] at q; cases q
    · rw [upd_ne z] at q; exact q)⟩
theorem Stp.free {M : List Addr} {H H' : Hp} {p : Addr} (s : Stp M H H') (h : H' p = none) : H p = none := s.dom p h
theorem Stp.keep {M : List Addr} {H H' : Hp} {p : Addr} {o : HO} (s : Stp M H H') (h : H p = some o) (n : p ∉ M) : H' p = some o := s.same p o h (.inl n)
theorem Stp.keep0 {H H' : Hp} {p : Addr} {o : HO} (s : Stp [] H H') (h : H p = some o) : H' p = some o := s.same p o h (.inl (by simp))
theorem Stp.fix {M : List Addr} {H H' : Hp} {p : Addr} {o : HO} (s : Stp M H H') (h : H p = some o) (n : Fix o) : H' p = some o := s.same p o h (.inr n)
theorem Stp.tup {M : List Addr} {H H' : Hp} {p : Addr} {xs : List V} (s : Stp M H H') (h : H p = some (.tup xs)) : H' p = some (.tup xs) := s.fix h True.intro
theorem Stp.keep1 {m : Addr} {H H' : Hp} {p : Addr} {o : HO} (s : Stp [m] H H') (h : H p = some o) (n : p ≠ m) : H' p = some o := s.same p o h (.inl (by simpa using n))
theorem Stp.rd {M : List Addr} {H H' : Hp} {a : Addr} {u : HO} (s : Stp M H H') (h : Rd H a u) (n : a ∉ M) : Rd H' a u := by
  rcases h with h | ⟨o, h⟩
  · exact .inl (s.same _ _ h (.inl n))
  · exact .inr ⟨o, s.same _ _ h (.inr True.intro)⟩
theorem Stp.sql {K : PySem.W.Frag} {M : List Addr} {H H' : Hp} {a : Addr} {xs : List V} (s : Stp M H H') (h : SqL K H a xs) (n : a ∉ M) : SqL K H' a xs := by
  rcases h with h | h
  · exact .inl (s.rd h n)
  · exact .inr h
theorem Stp.sqt {K : PySem.W.Frag} {M : List Addr} {H H' : Hp} {a : Addr} {xs : List V} (s : Stp M H H') (h : SqT K H a xs) (n : a ∉ M) : SqT K H' a xs := by
  rcases h with h | h
  · exact .inl (s.rd h n)
  · exact .inr h
theorem Stp.sqtM {K : PySem.W.Frag} {M : List Addr} {H H' : Hp} {a : Addr} {xs : List V} (s : Stp M H H') (h : SqT K H a xs) : SqT K H' a xs := by
  rcases h with (h | ⟨o, h⟩) | h
  · exact .inl (.inl (s.fix h True.intro))
  · exact .inl (.inr ⟨o, s.fix h True.intro⟩)
  · exact .inr h
theorem Stp.sql1 {K : PySem.W.Frag} {m : Addr} {H H' : Hp} {a : Addr} {xs : List V} (s : Stp [m] H H') (h : SqL K H a xs) (n : a ≠ m) : SqL K H' a xs := s.sql h (by simpa using n)
theorem Stp.sql0 {K : PySem.W.Frag} {H H' : Hp} {a : Addr} {xs : List V} (s : Stp [] H H') (h : SqL K H a xs) : SqL K H' a xs := s.sql h (by simp)
theorem Stp.sqt0 {K : PySem.W.Frag} {H H' : Hp} {a : Addr} {xs : List V} (s : Stp [] H H') (h : SqT K H a xs) : SqT K H' a xs := s.sqt h (by simp)
theorem Stp.not {M : List Addr} {H H' : Hp} {p : Addr} (s : Stp M H H') (h : H' p = none) (hm : ∀ m ∈ M, H m ≠ none) : p ∉ M := fun z => hm p z (s.dom p h)
theorem upd_old {H : Hp} {a p : Addr} {o u : HO} (h : H a = some o) (hp : H p = none) : upd H p u a = some o := by rw [upd_ne (ne_of_none h hp)]; exact h
theorem upd_far {H : Hp} {a p : Addr} {o : Option HO} {u : HO} (n : a ≠ p) (h : H a = o) : upd H p u a = o := by rw [upd_ne n]; exact h
theorem upd_free {H : Hp} {a p : Addr} {u : HO} (h : upd H p u a = none) : H a = none ∧ a ≠ p := by
  by_cases z : a = p
  · subst z; rw [upd_same] at h; cases h
  · rw [upd_ne z] at h; exact ⟨h, z⟩
theorem sql_upd {K : PySem.W.Frag} {H : Hp} {a p : Addr} {xs : List V} {u : HO} (h : SqL K H a xs) (hp : H p = none) : SqL K (upd H p u) a xs := (Stp.refl [] H |>.new hp).sql h (by simp)
theorem sqt_upd {K : PySem.W.Frag} {H : Hp} {a p : Addr} {xs : List V} {u : HO} (h : SqT K H a xs) (hp : H p = none) : SqT K (upd H p u) a xs := (Stp.refl [] H |>.new hp).sqt h (by simp)
theorem sql_far {K : PySem.W.Frag} {H : Hp} {a p : Addr} {xs : List V} {u : HO} (h : SqL K H a xs) (n : a ≠ p) : SqL K (upd H p u) a xs := by
  rcases h with (h | ⟨o, h⟩) | h
  · exact .inl (.inl (upd_far n h))
  · exact .inl (.inr ⟨o, upd_far n h⟩)
  · exact .inr h
theorem sqt_far {K : PySem.W.Frag} {H : Hp} {a p : Addr} {xs : List V} {u : HO} (h : SqT K H a xs) (n : a ≠ p) : SqT K (upd H p u) a xs := by
  rcases h with (h | ⟨o, h⟩) | h
  · exact .inl (.inl (upd_far n h))
  · exact .inl (.inr ⟨o, upd_far n h⟩)
  · exact .inr h

/-! ### the slots -/
theorem set_z {x y : Option V} {xs : L2.St} : (x :: xs).set 0 y = y :: xs := rfl
theorem set_s {x y : Option V} {xs ys : L2.St} {n : Nat} (h : xs.set n y = ys) : (x :: xs).set (n + 1) y = x :: ys := by subst h; rfl
theorem get_z {x : V} {xs : L2.St} : (some x :: xs)[0]? = some (some x) := rfl
theorem get_s {x : Option V} {xs : L2.St} {n : Nat} {v : V} (h : xs[n]? = some (some v)) : (x :: xs)[n + 1]? = some (some v) := h

/-! ### two-place operations by the values -/
/-- the ways of + -/
def aAdd (K : PySem.W.Frag) : R2 := fun x y H Q => match x, y with
  | .int i, .int j => Q (.int (i + j)) H
  | .str a, .str b => a.length + b.length ≤ sizeLine ∧ Q (.str (a ++ b)) H
  | .ref a, .ref b => (∃ xs ys, H a = some (.lst xs) ∧ H b = some (.lst ys) ∧ xs.length + ys.length ≤ sizeLine ∧ ∀ p, H p = none → Q (.ref p) (upd H p (.lst (xs ++ ys)))) ∨ rCatT K (.ref a) (.ref b) H Q
  | _, _ => False
def aSub : R2 := fun x y H Q => match x, y with
  | .int i, .int j => Q (.int (i - j)) H
  | _, _ => False
def aMul : R2 := fun x y H Q => match x, y with
  | .int i, .int j => IntMulOk i j ∧ Q (.int (i * j)) H
  | .ref a, .int k => ∃ xs, H a = some (.lst xs) ∧ -(2 ^ 63) ≤ k ∧ k < 2 ^ 63 ∧ xs.length * k.toNat ≤ sizeLine ∧ ∀ p, H p = none → Q (.ref p) (upd H p (.lst ((List.replicate k.toNat xs).flatten)))
  | _, _ => False
def aDiv : R2 := fun x y H Q => match x, y with
  | .int i, .int j => 0 < j ∧ Builtin.divisionGoesByPylong i j = false ∧ Q (.int (i / j)) H
  | _, _ => False
def aMod : R2 := fun x y H Q => match x, y with
  | .int i, .int j => 0 < j ∧ Q (.int (i % j)) H
  | _, _ => False
def aPow : R2 := fun x y H Q => match x, y with
  | .int i, .int j => CPow i j ∧ Q (.int (i ^ j.toNat)) H
  | _, _ => False
def aShl : R2 := fun x y H Q => match x, y with
  | .int i, .int j => CShl i j ∧ Q (.int (i * 2 ^ j.toNat)) H
  | _, _ => False
def aShr : R2 := fun x y H Q => match x, y with
  | .int i, .int j => 0 ≤ j ∧ Q (.int (i / 2 ^ j.toNat)) H
  | _, _ => False
def aAnd : R2 := fun x y H Q => match x, y with
  | .int i, .int j => Q (.int (Builtin.bitAnd i j)) H
  | _, _ => False
def aLt (K : PySem.W.Frag) : R2 := fun x y H Q => match x, y with
  | .int i, .int j => Q (.bl (decide (i < j))) H
  | .ref a, .ref b => rLtT K (.ref a) (.ref b) H Q
  | _, _ => False
def aLe : R2 := fun x y H Q => match x, y with
  | .int i, .int j => Q (.bl (decide (i ≤ j))) H
  | _, _ => False
def aGt : R2 := fun x y H Q => match x, y with
  | .int i, .int j => Q (.bl (decide (j < i))) H
  | _, _ => False
def aGe : R2 := fun x y H Q => match x, y with
  | .int i, .int j => Q (.bl (decide (j ≤ i))) H
  | _, _ => False
def aEq (K : PySem.W.Frag) : R2 := fun x y H Q => (scal x y = true ∧ Q (.bl (decide (x = y))) H) ∨ rEqD K x y H Q
def aNe (K : PySem.W.Frag) : R2 := fun x y H Q => (scal x y = true ∧ Q (.bl (!decide (x = y))) H) ∨ rNeD K x y H Q
def aIsN : R2 := fun x y H Q => y = .non ∧ Q (.bl (decide (x = .non))) H
def aNotN : R2 := fun x y H Q => y = .non ∧ Q (.bl (!decide (x = .non))) H

section
variable {X : Cx}
theorem oAdd : OpR X (binaryOp .Add) (aAdd X.K) := by
  intro pins s σ H x y v u Q I rx ry h
  cases x <;> cases y <;> first | exact False.elim h | skip
  · exact op_add pins s σ H _ _ v u Q I rx ry ⟨_, _, rfl, rfl, h⟩
  · exact op_add_str pins s σ H _ _ v u Q I rx ry ⟨_, _, rfl, rfl, h.1, h.2⟩
  · rcases h with ⟨xs, ys, h1, h2, h3, h4⟩ | h
    · exact op_cat pins s σ H _ _ v u Q I rx ry ⟨_, _, xs, ys, rfl, rfl, h1, h2, h3, h4⟩
    · exact op_catT pins s σ H _ _ v u Q I rx ry h
theorem oSub : OpR X (binaryOp .Sub) aSub := by
  intro pins s σ H x y v u Q I rx ry h
  cases x <;> cases y <;> first | exact False.elim h | skip
  exact op_sub pins s σ H _ _ v u Q I rx ry ⟨_, _, rfl, rfl, h⟩
theorem oMul : OpR X (binaryOp .Mult) aMul := by
  intro pins s σ H x y v u Q I rx ry h
  cases x <;> cases y <;> first | exact False.elim h | skip
  · obtain ⟨t, rfl⟩ := rx
    obtain ⟨t', rfl⟩ := ry
    exact mul_int ⟨.int _, H, I.tok _, ⟨_, rfl⟩, h.2⟩ h.1
  · obtain ⟨xs, h1, h2, h3, h4, h5⟩ := h
    exact op_rep pins s σ H _ _ v u Q I rx ry ⟨_, _, xs, rfl, rfl, h1, h2, h3, h4, h5⟩
theorem oDiv : OpR X (binaryOp .FloorDiv) aDiv := by
  intro pins s σ H x y v u Q I rx ry h
  cases x <;> cases y <;> first | exact False.elim h | skip
  obtain ⟨t, rfl⟩ := rx
  obtain ⟨t', rfl⟩ := ry
  obtain ⟨h0, h1, q⟩ := h
  exact floordiv_int (by omega) (by rw [Int.fdiv_eq_ediv_of_nonneg _ (by omega)]; exact ⟨.int _, H, I.tok _, ⟨_, rfl⟩, q⟩) (.inl h1)
theorem oMod : OpR X (binaryOp .Mod) aMod := by
  intro pins s σ H x y v u Q I rx ry h
  cases x <;> cases y <;> first | exact False.elim h | skip
  exact op_mod pins s σ H _ _ v u Q I rx ry ⟨_, _, rfl, rfl, h⟩
theorem oPow : OpR X (binaryOp .Pow) aPow := by
  intro pins s σ H x y v u Q I rx ry h
  cases x <;> cases y <;> first | exact False.elim h | skip
  exact op_pow pins s σ H _ _ v u Q I rx ry ⟨_, _, rfl, rfl, h⟩
theorem oShl : OpR X (binaryOp .LShift) aShl := by
  intro pins s σ H x y v u Q I rx ry h
  cases x <;> cases y <;> first | exact False.elim h | skip
  exact op_shlW pins s σ H _ _ v u Q I rx ry ⟨_, _, rfl, rfl, h⟩
theorem oShr : OpR X (binaryOp .RShift) aShr := by
  intro pins s σ H x y v u Q I rx ry h
  cases x <;> cases y <;> first | exact False.elim h | skip
  exact op_shr pins s σ H _ _ v u Q I rx ry ⟨_, _, rfl, rfl, h⟩
theorem oAnd : OpR X (binaryOp .BitAnd) aAnd := by
  intro pins s σ H x y v u Q I rx ry h
  cases x <;> cases y <;> first | exact False.elim h | skip
  exact op_and pins s σ H _ _ v u Q I rx ry ⟨_, _, rfl, rfl, h⟩
theorem oLt (hu : X.A.units < cLine) : OpR X (compareOp .Lt) (aLt X.K) := by
  intro pins s σ H x y v u Q I rx ry h
  cases x <;> cases y <;> first | exact False.elim h | skip
  · exact op_lt pins s σ H _ _ v u Q I rx ry ⟨_, _, rfl, rfl, h⟩
  · exact op_ltT hu pins s σ H _ _ v u Q I rx ry h
theorem oLe : OpR X (compareOp .LtE) aLe := by
  intro pins s σ H x y v u Q I rx ry h
  cases x <;> cases y <;> first | exact False.elim h | skip
  exact op_le pins s σ H _ _ v u Q I rx ry ⟨_, _, rfl, rfl, h⟩
theorem oGt : OpR X (compareOp .Gt) aGt := by
  intro pins s σ H x y v u Q I rx ry h
  cases x <;> cases y <;> first | exact False.elim h | skip
  exact op_gt pins s σ H _ _ v u Q I rx ry ⟨_, _, rfl, rfl, h⟩
theorem oGe : OpR X (compareOp .GtE) aGe := by
  intro pins s σ H x y v u Q I rx ry h
  cases x <;> cases y <;> first | exact False.elim h | skip
  exact op_ge pins s σ H _ _ v u Q I rx ry ⟨_, _, rfl, rfl, h⟩
theorem oEq (hu : X.A.units + 64 < cLine) : OpR X (compareOp .Eq) (aEq X.K) := op_eq.or (op_eqD hu)
theorem oNe (hu : X.A.units + 64 < cLine) : OpR X (compareOp .NotEq) (aNe X.K) := op_ne.or (op_neD hu)
theorem oIsN : OpR X (compareOp .Is) aIsN := op_isN
theorem oNotN : OpR X (compareOp .IsNot) aNotN := op_notN
theorem ipAdd : PIp X .Add (fun x y H Q => match x, y with
  | .int i, .int j => Q (.int (i + j)) H
  | _, _ => False) := by
  intro pins s σ H x y v u Q I rx ry h
  cases x <;> cases y <;> first | exact False.elim h | skip
  exact ip_add pins s σ H _ _ v u Q I rx ry ⟨_, _, rfl, rfl, h⟩
theorem ipSub : PIp X .Sub (fun x y H Q => match x, y with
  | .int i, .int j => Q (.int (i - j)) H
  | _, _ => False) := by
  intro pins s σ H x y v u Q I rx ry h
  cases x <;> cases y <;> first | exact False.elim h | skip
  exact ip_sub pins s σ H _ _ v u Q I rx ry ⟨_, _, rfl, rfl, h⟩
end
end SH

set_option Elab.async false
set_option linter.all false
set_option maxRecDepth 100000
set_option maxHeartbeats 4000000
/-! SHB: readings, one lemma a word -/
namespace SH
open PySem PySem.Spec PyProof.Rows L2

section
variable {K : PySem.W.Frag} {D : Ends} {σ σ' : L2.St} {H : Hp} {Q : VK} {QA : List V → Hp → Prop} {QT : Bool → Hp → Prop} {QO : Option Int → Hp → Prop} {QG : L2.St → Hp → Prop} {i j : Nat} {v x y : V} {vs : List V} {ta tb tc te : TE} {t u tt : TT} {tr as : TA} {t1 t2 : TS} {g : TG} {gs : TGs} {r r' : R2} {b : Bool} {A B : Prop}

/-! the start -/
theorem st_c {x : Str} {N : List Str} {v : V} {vs : List V} {τ : L2.St} (h : L2.start N vs = τ) : L2.start (x :: N) (v :: vs) = some v :: τ := by
  rw [← h]; show _ :: (_ ++ List.replicate (N.length + 1 - (vs.length + 1)) none) = _; rw [Nat.add_sub_add_right]; rfl
theorem st_n {x : Str} {N : List Str} {τ : L2.St} (h : L2.start N [] = τ) : L2.start (x :: N) [] = none :: τ := by rw [← h]; rfl
theorem st_z : L2.start [] [] = [] := rfl
theorem r_start {N : List Str} {t : TS} (e : L2.start N vs = σ) (h : t D σ H) : t D (L2.start N vs) H := by rw [e]; exact h

theorem wp_z {f : Str × Nat → Nat} : wipe σ (List.map f []) = σ := rfl
theorem wp_s {a : Str} {n : Nat} {l : List (Str × Nat)} {τ τ' : L2.St} (h : wipe σ (l.map (fun x => x.2)) = τ) (e : τ.set n none = τ') : wipe σ (((a, n) :: l).map (fun x => x.2)) = τ' := by
  show (wipe σ (l.map (fun x => x.2))).set n none = τ'
  rw [h, e]
theorem r_gnw {ws : List Nat} {τ : L2.St} (e : wipe σ ws = τ) (h : gName i v τ H QG) : gName i v (wipe σ ws) H QG := by rw [e]; exact h
theorem r_gtw {ws : List Nat} {n : Nat} {τ : L2.St} (e : wipe σ ws = τ) (h : gTup K n gs v τ H QG) : gTup K n gs v (wipe σ ws) H QG := by rw [e]; exact h
theorem r_wp {ws : List Nat} {τ : L2.St} (e : wipe σ ws = wipe τ ws) (h : A) : wipe σ ws = wipe τ ws ∧ A := ⟨e, h⟩

/-! statements -/
theorem r_seq (h : t1 { D with nx := t2 D } σ H) : tSeq t1 t2 D σ H := h
theorem r_next (h : D.nx σ H) : tNext D σ H := h
theorem r_nx (e : σ.set i (some v) = σ') (h : D.nx σ' H) : D.nx (σ.set i (some v)) H := by rw [e]; exact h
theorem r_asg (h : te σ H fun x H1 => g x σ H1 D.nx) : tAsg te g D σ H := h
theorem r_gname (e : σ.set i (some v) = σ') (h : QG σ' H) : gName i v σ H QG := by subst e; exact h
theorem r_aug {rd : TIp} (hx : σ[i]? = some (some x)) (h : te σ H fun y H1 => rd x y H1 fun z H2 => D.nx (σ.set i (some z)) H2) : tAug i te rd D σ H := ⟨x, hx, h⟩
theorem r_drop (h : te σ H fun _ H1 => D.nx σ H1) : tDrop te D σ H := h
theorem r_ret (h : te σ H D.rt) : tRet te D σ H := h
theorem r_retN (h : D.rt .non H) : tRetN D σ H := h
theorem r_ifS (h : tt σ H fun b H1 => if b = true then t1 D σ H1 else t2 D σ H1) : tIfS tt t1 t2 D σ H := h
theorem r_brk (h : D.bk σ H) : tBreak D σ H := h
theorem r_cont (h : D.ct σ H) : tCont D σ H := h
theorem r_gtup {n : Nat} {a : Addr} {xs : List V} (hq : SqT K H a xs) (hl : xs.length = n) (h : gs xs σ H QG) : gTup K n gs (.ref a) σ H QG := ⟨a, xs, rfl, hq, hl, h⟩
theorem r_glst {n : Nat} {a : Addr} {xs : List V} (hq : SqL K H a xs) (hl : xs.length = n) (h : gs xs σ H QG) : gLst K n gs (.ref a) σ H QG := ⟨a, xs, rfl, hq, hl, h⟩
theorem r_gcons (h : g v σ H fun σ' H' => gs vs σ' H' QG) : gCons g gs (v :: vs) σ H QG := ⟨v, vs, rfl, h⟩
theorem r_gnil (h : QG σ H) : gNil [] σ H QG := ⟨rfl, h⟩
theorem r_gsub {to ti : TE} {ts : TSet} (h : to σ H fun o H1 => ti σ H1 fun i H2 => ts o i v H2 fun H3 => QG σ H3) : gSub to ti ts v σ H QG := h

/-! expressions -/
theorem r_var (h : σ[i]? = some (some v)) (k : Q v H) : tVar i σ H Q := ⟨v, h, k⟩
theorem r_c (k : Q v H) : tC v σ H Q := k
theorem r_op (h : ta σ H fun x H1 => tb σ H1 fun y H2 => r x y H2 Q) : tOp r ta tb σ H Q := h
theorem r_un {ru : V → Hp → VK → Prop} (h : ta σ H fun x H1 => ru x H1 Q) : tUn ru ta σ H Q := h
theorem r_neg {n : Int} (k : Q (.int (-n)) H) : rU (fun i => .int (-i)) (.int n) H Q := ⟨n, rfl, k⟩
theorem r_if (h : t σ H fun c H1 => if c = true then ta σ H1 Q else tb σ H1 Q) : tIf t ta tb σ H Q := h
theorem r_nil (h : QA [] H) : tNil σ H QA := h
theorem r_cons (h : ta σ H fun x H1 => tr σ H1 fun xs H2 => QA (x :: xs) H2) : tCons ta tr σ H QA := h
def kTup (Q : VK) : List V → Hp → Prop := fun xs H1 => xs.length ≤ sizeLine ∧ ∀ p, H1 p = none → Q (.ref p) (upd H1 p (.tup xs))
def kLst (Q : VK) : List V → Hp → Prop := fun xs H1 => xs.length ≤ sizeLine ∧ ∀ p, H1 p = none → Q (.ref p) (upd H1 p (.lst xs))
theorem r_tup (h : as σ H (kTup Q)) : tTup as σ H Q := h
theorem r_lst (h : as σ H (kLst Q)) : tLst as σ H Q := h
theorem v_tup (hl : vs.length ≤ 1000) (h : ∀ p, H p = none → Q (.ref p) (upd H p (.tup vs))) : kTup Q vs H := ⟨Nat.le_trans hl (by decide), h⟩
theorem v_lst (hl : vs.length ≤ 1000) (h : ∀ p, H p = none → Q (.ref p) (upd H p (.lst vs))) : kLst Q vs H := ⟨Nat.le_trans hl (by decide), h⟩
theorem v_tup2 (h : ∀ p, H p = none → Q (.ref p) (upd H p (.tup [x, y]))) : kTup Q [x, y] H := v_tup (by simp) h
theorem v_tup3 (h : ∀ p, H p = none → Q (.ref p) (upd H p (.tup [x, y, v]))) : kTup Q [x, y, v] H := v_tup (by simp) h
theorem v_lst0 (h : ∀ p, H p = none → Q (.ref p) (upd H p (.lst []))) : kLst Q [] H := v_lst (by simp) h
theorem v_lst1 (h : ∀ p, H p = none → Q (.ref p) (upd H p (.lst [x]))) : kLst Q [x] H := v_lst (by simp) h
theorem v_lst2 (h : ∀ p, H p = none → Q (.ref p) (upd H p (.lst [x, y]))) : kLst Q [x, y] H := v_lst (by simp) h
theorem v_lst3 (h : ∀ p, H p = none → Q (.ref p) (upd H p (.lst [x, y, v]))) : kLst Q [x, y, v] H := v_lst (by simp) h
theorem v_lst4 {z : V} (h : ∀ p, H p = none → Q (.ref p) (upd H p (.lst [x, y, v, z]))) : kLst Q [x, y, v, z] H := v_lst (by simp) h
theorem r_len0 {n : Nat} (h : n ≤ 1000) : n ≤ sizeLine := Nat.le_trans h (by decide)
theorem r_call {sp : Sp} {dvs : List V} {E : XK} (h : as σ H fun vs H1 => sp (vs ++ dvs) H1 Q E) : tCall sp dvs E as σ H Q := h
theorem r_cb {rc : List V → Hp → VK → Prop} (h : as σ H fun vs H1 => rc vs H1 Q) : tCB rc as σ H Q := h
theorem r_andV (h : ta σ H fun x H1 => ∃ c, x = .bl c ∧ if c = true then tb σ H1 Q else Q (.bl false) H1) : tAndV ta tb σ H Q := h
theorem r_orV (h : ta σ H fun x H1 => ∃ c, x = .bl c ∧ if c = true then Q (.bl true) H1 else tb σ H1 Q) : tOrV ta tb σ H Q := h
theorem r_notV (h : ta σ H fun x H1 => ∃ c, x = .bl c ∧ Q (.bl (!c)) H1) : tNotV ta σ H Q := h
theorem r_bl {P : Bool → Prop} (h : P b) : ∃ c, V.bl b = .bl c ∧ P c := ⟨b, rfl, h⟩
theorem r_test (h : te σ H fun x H1 => ∃ k, x = .bl k ∧ QT k H1) : tTest te σ H QT := h
theorem r_B (h : te σ H fun x H1 => ∃ k, x = .bl k ∧ QT k H1) : tB te σ H QT := h
theorem r_and (h : t σ H fun c H1 => if c = true then u σ H1 QT else QT false H1) : tAnd t u σ H QT := h
theorem r_or (h : t σ H fun c H1 => if c = true then QT true H1 else u σ H1 QT) : tOr t u σ H QT := h
theorem r_not (h : t σ H fun c H1 => QT (!c) H1) : tNot t σ H QT := h
theorem r_yes (h : QT true H) : tYes σ H QT := h
theorem r_nopart (h : QO none H) : tNoPart σ H QO := h
theorem r_part (h : te σ H fun x H1 => ∃ i, x = .int i ∧ QO (some i) H1) : tPart te σ H QO := h
theorem r_int {P : Int → Prop} {n : Int} (h : P n) : ∃ i, V.int n = .int i ∧ P i := ⟨n, rfl, h⟩
theorem r_sl {rs : V → Option Int → Option Int → Hp → VK → Prop} {tl th : TO} (h : te σ H fun x H1 => tl σ H1 fun l H2 => th σ H2 fun u H3 => rs x l u H3 Q) : tSl rs te tl th σ H Q := h
theorem r_chain (h : ta σ H fun x H1 => tb σ H1 fun y H2 => r x y H2 fun z H3 => ∃ k, z = .bl k ∧ (if k = true then tc σ H3 fun w' H4 => r' y w' H4 Q else Q (.bl false) H3)) : tChain r r' ta tb tc σ H Q := h
theorem r_bm {T : String} {rb : V → List V → Hp → VK → Prop} (h : te σ H fun x H1 => tyV K T x H1 ∧ as σ H1 fun xs H2 => rb x xs H2 Q) : tBM K T rb te as σ H Q := h
theorem r_bm0 {T : String} {rb : V → List V → Hp → VK → Prop} (h : te σ H fun x H1 => tyV K T x H1 ∧ rb x [] H1 Q) : tBM0 K T rb te σ H Q := h

/-! values -/
theorem v_addI {n m : Int} (h : Q (.int (n + m)) H) : aAdd K (.int n) (.int m) H Q := h
theorem v_addL {a c : Addr} {xs ys : List V} (h1 : H a = some (.lst xs)) (h2 : H c = some (.lst ys)) (h3 : xs.length + ys.length ≤ sizeLine) (h : ∀ p, H p = none → Q (.ref p) (upd H p (.lst (xs ++ ys)))) : aAdd K (.ref a) (.ref c) H Q := .inl ⟨xs, ys, h1, h2, h3, h⟩
theorem v_subI {n m : Int} (h : Q (.int (n - m)) H) : aSub (.int n) (.int m) H Q := h
theorem v_mulI {n m : Int} (h0 : IntMulOk n m) (h : Q (.int (n * m)) H) : aMul (.int n) (.int m) H Q := ⟨h0, h⟩
theorem v_mulL {a : Addr} {k : Int} {xs : List V} (h1 : H a = some (.lst xs)) (h2 : -(2 ^ 63) ≤ k ∧ k < 2 ^ 63) (h3 : xs.length * k.toNat ≤ sizeLine) (h : ∀ p, H p = none → Q (.ref p) (upd H p (.lst ((List.replicate k.toNat xs).flatten)))) : aMul (.ref a) (.int k) H Q := ⟨xs, h1, h2.1, h2.2, h3, h⟩
theorem v_div {n m : Int} (h0 : 0 < m) (h1 : Builtin.divisionGoesByPylong n m = false) (h : Q (.int (n / m)) H) : aDiv (.int n) (.int m) H Q := ⟨h0, h1, h⟩
theorem v_divS {n m : Int} (h0 : 0 < m) (h1 : m < 1073741824) (h : Q (.int (n / m)) H) : aDiv (.int n) (.int m) H Q := ⟨h0, PyProof.noPylong_small (by omega), h⟩
theorem v_divW {n m : Int} (h0 : 0 < m) (h1 : m.natAbs.log2 < 9000) (h : Q (.int (n / m)) H) : aDiv (.int n) (.int m) H Q := ⟨h0, PyProof.noPylong_of_log2 h1, h⟩
theorem v_mod {n m : Int} (h0 : 0 < m) (h : Q (.int (n % m)) H) : aMod (.int n) (.int m) H Q := ⟨h0, h⟩
theorem v_pow {n m : Int} (h0 : CPow n m) (h : Q (.int (n ^ m.toNat)) H) : aPow (.int n) (.int m) H Q := ⟨h0, h⟩
theorem v_shl {n m : Int} (h0 : CShl n m) (h : Q (.int (n * 2 ^ m.toNat)) H) : aShl (.int n) (.int m) H Q := ⟨h0, h⟩
theorem v_shr {n m : Int} (h0 : 0 ≤ m) (h : Q (.int (n / 2 ^ m.toNat)) H) : aShr (.int n) (.int m) H Q := ⟨h0, h⟩
theorem v_and {n m : Int} (h : Q (.int (Builtin.bitAnd n m)) H) : aAnd (.int n) (.int m) H Q := h
theorem v_ltI {n m : Int} (h : Q (.bl (decide (n < m))) H) : aLt K (.int n) (.int m) H Q := h
theorem v_ltT {a c : Addr} {ns ms : List Int} (h1 : SqT K H a (ns.map V.int)) (h2 : SqT K H c (ms.map V.int)) (h : Q (.bl (HT.lexLt ns ms)) H) : aLt K (.ref a) (.ref c) H Q := ⟨a, c, ns, ms, rfl, rfl, h1, h2, h⟩
theorem v_leI {n m : Int} (h : Q (.bl (decide (n ≤ m))) H) : aLe (.int n) (.int m) H Q := h
theorem v_gtI {n m : Int} (h : Q (.bl (decide (m < n))) H) : aGt (.int n) (.int m) H Q := h
theorem v_geI {n m : Int} (h : Q (.bl (decide (m ≤ n))) H) : aGe (.int n) (.int m) H Q := h
theorem dec_i {n m : Int} : decide (V.int n = V.int m) = decide (n = m) := by simp
theorem v_eqI {n m : Int} (h : Q (.bl (decide (n = m))) H) : aEq K (.int n) (.int m) H Q := .inl ⟨rfl, by rw [dec_i]; exact h⟩
theorem v_neI {n m : Int} (h : Q (.bl (!decide (n = m))) H) : aNe K (.int n) (.int m) H Q := .inl ⟨rfl, by rw [dec_i]; exact h⟩
theorem v_eqB {n m : Bool} (h : Q (.bl (decide (n = m))) H) : aEq K (.bl n) (.bl m) H Q := .inl ⟨rfl, by rw [show decide (V.bl n = V.bl m) = decide (n = m) by simp]; exact h⟩
theorem v_neB {n m : Bool} (h : Q (.bl (!decide (n = m))) H) : aNe K (.bl n) (.bl m) H Q := .inl ⟨rfl, by rw [show decide (V.bl n = V.bl m) = decide (n = m) by simp]; exact h⟩
theorem v_eqS {n m : Str} (h : Q (.bl (decide (n = m))) H) : aEq K (.str n) (.str m) H Q := .inl ⟨rfl, by rw [show decide (V.str n = V.str m) = decide (n = m) by simp]; exact h⟩
theorem v_neS {n m : Str} (h : Q (.bl (!decide (n = m))) H) : aNe K (.str n) (.str m) H Q := .inl ⟨rfl, by rw [show decide (V.str n = V.str m) = decide (n = m) by simp]; exact h⟩
theorem v_eqO (hs : scal x y = true) (h : Q (.bl (decide (x = y))) H) : aEq K x y H Q := .inl ⟨hs, h⟩
theorem v_neO (hs : scal x y = true) (h : Q (.bl (!decide (x = y))) H) : aNe K x y H Q := .inl ⟨hs, h⟩
theorem v_eqD {d e : PyData} (h1 : Dp K H x d) (h2 : Dp K H y e) (h3 : SeqAt.shaped d = true) (h4 : SeqAt.shaped e = true) (h : Q (.bl (PyData.eqv d e)) H) : aEq K x y H Q := .inr ⟨d, e, h1, h2, h3, h4, h⟩
theorem v_neD {d e : PyData} (h1 : Dp K H x d) (h2 : Dp K H y e) (h3 : SeqAt.shaped d = true) (h4 : SeqAt.shaped e = true) (h : Q (.bl (!PyData.eqv d e)) H) : aNe K x y H Q := .inr ⟨d, e, h1, h2, h3, h4, h⟩
theorem v_isN (h : Q (.bl (decide (x = .non))) H) : aIsN x .non H Q := ⟨rfl, h⟩
theorem v_notN (h : Q (.bl (!decide (x = .non))) H) : aNotN x .non H Q := ⟨rfl, h⟩
theorem v_ipAdd {n m : Int} (h : Q (.int (n + m)) H) : (fun (x y : V) (H : Hp) (Q : VK) => match x, y with | .int i, .int j => Q (.int (i + j)) H | _, _ => False) (.int n) (.int m) H Q := h
def aIpAdd : TIp := fun x y H Q => match x, y with
  | .int i, .int j => Q (.int (i + j)) H
  | _, _ => False
def aIpSub : TIp := fun x y H Q => match x, y with
  | .int i, .int j => Q (.int (i - j)) H
  | _, _ => False
theorem ip_add' {X : Cx} : PIp X .Add aIpAdd := ipAdd
theorem ip_sub' {X : Cx} : PIp X .Sub aIpSub := ipSub
theorem v_ipA {n m : Int} (h : Q (.int (n + m)) H) : aIpAdd (.int n) (.int m) H Q := h
theorem v_ipS {n m : Int} (h : Q (.int (n - m)) H) : aIpSub (.int n) (.int m) H Q := h

/-! ways -/
theorem r_T (h : A) : if true = true then A else B := by rw [if_pos rfl]; exact h
theorem r_F (h : B) : if false = true then A else B := by rw [if_neg Bool.false_ne_true]; exact h
theorem r_nT (h : B) : if (!true) = true then A else B := by rw [if_neg (by decide)]; exact h
theorem r_nF (h : A) : if (!false) = true then A else B := by rw [if_pos (by decide)]; exact h
theorem r_w {c : Prop} [Decidable c] (h1 : c → A) (h2 : ¬ c → B) : if decide c = true then A else B := by
  by_cases h : c
  · rw [decide_eq_true h, if_pos rfl]; exact h1 h
  · rw [decide_eq_false h, if_neg Bool.false_ne_true]; exact h2 h
theorem r_nw {c : Prop} [Decidable c] (h1 : ¬ c → A) (h2 : c → B) : if (!decide c) = true then A else B := by
  by_cases h : c
  · rw [decide_eq_true h]; exact r_nT (h2 h)
  · rw [decide_eq_false h]; exact r_nF (h1 h)
theorem r_b (h1 : b = true → A) (h2 : b = false → B) : if b = true then A else B := by
  cases b with
  | true => exact r_T (h1 rfl)
  | false => exact r_F (h2 rfl)
theorem r_nb (h1 : b = false → A) (h2 : b = true → B) : if (!b) = true then A else B := by
  cases b with
  | true => exact r_nT (h2 rfl)
  | false => exact r_nF (h1 rfl)
theorem r_wT {c : Prop} [Decidable c] (hc : c) (h : A) : if decide c = true then A else B := r_w (fun _ => h) fun n => (n hc).elim
theorem r_wF {c : Prop} [Decidable c] (hc : ¬ c) (h : B) : if decide c = true then A else B := r_w (fun n => (hc n).elim) fun _ => h
theorem r_nwT {c : Prop} [Decidable c] (hc : ¬ c) (h : A) : if (!decide c) = true then A else B := r_nw (fun _ => h) fun n => (hc n).elim
theorem r_nwF {c : Prop} [Decidable c] (hc : c) (h : B) : if (!decide c) = true then A else B := r_nw (fun n => (n hc).elim) fun _ => h

/-! loops -/
/-- while: W by a measure; the body is read for the next turn -/
theorem r_while {c : TT} (W : Nat → L2.St → Hp → Prop) (h0 : ∃ m, W m σ H)
    (hs : ∀ m σ H, W m σ H → c σ H fun b H1 => if b = true then ∃ N : L2.St → Hp → Prop, (∀ σ' H', N σ' H' → ∃ m', m' < m ∧ W m' σ' H') ∧ t1 { D with nx := N, ct := N, bk := D.nx } σ H1 else D.nx σ H1) : tWhile c t1 D σ H := ⟨W, h0, hs⟩
theorem r_next_turn {W : Nat → L2.St → Hp → Prop} {m : Nat} {P : (L2.St → Hp → Prop) → Prop} (h : P (fun σ' H' => ∃ m', m' < m ∧ W m' σ' H')) : ∃ N : L2.St → Hp → Prop, (∀ σ' H', N σ' H' → ∃ m', m' < m ∧ W m' σ' H') ∧ P N := ⟨_, fun _ _ h => h, h⟩
theorem r_rng1 {J : It → Hp → Prop} {n : Int} (h0 : -(2 ^ 62) ≤ n ∧ n < 2 ^ 62) (h : J (Itr 0 n.toNat) H) (ha : as σ H = fun QA => QA [.int n] H) : iRng1 as σ H J := by
  unfold iRng1
  rw [ha]
  exact ⟨n, rfl, h0.1, h0.2, h⟩
end

/-! ### defs by their names -/
/-- the module's name x holds a def that keeps sp; dvs: its defaults -/
structure Cal (P : Program) (w : World) (K : PySem.W.Frag) (mg : Str → Option Value) (base : Heap) (CX : CXT) (k : Nat) (x : Str) (dvs : List V) (sp : Sp) : Prop where
  ex : ∃ (f : Addr) (fd : FuncData) (ps : List Str) (ds : List Value), mg x = some (.ref f) ∧ PySem.W.keepIn K (.ref f) = true ∧ Binds K fd ps ds ∧ Vals dvs ds ∧ FnOk P w K mg base CX k f fd ps sp
/-- the class at C has a method m that keeps sp -/
structure CalM (P : Program) (w : World) (K : PySem.W.Frag) (mg : Str → Option Value) (base : Heap) (CX : CXT) (k : Nat) (C : Addr) (m : Str) (dvs : List V) (sp : Sp) : Prop where
  cl : Cls K C
  ex : ∃ (f : Addr) (fd : FuncData) (ps : List Str) (ds : List Value), Meth K C m f ∧ Binds K fd ps ds ∧ Vals dvs ds ∧ FnOk P w K mg base CX k f fd ps sp
/-- the name x holds the class at C, made by an __init__ that keeps sp -/
structure CalC (P : Program) (w : World) (K : PySem.W.Frag) (mg : Str → Option Value) (base : Heap) (CX : CXT) (k : Nat) (x : Str) (C : Addr) (dvs : List V) (sp : Sp) : Prop where
  ex : ∃ (f : Addr) (fd : FuncData) (ps : List Str) (ds : List Value), mg x = some (.ref C) ∧ Mk K C f ∧ Binds K fd ps ds ∧ Vals dvs ds ∧ FnOk P w K mg base CX k f fd ps sp
section
variable {X : Cx} {CX : CXT} {k j : Nat} {C : Addr} {sp : Sp} {dvs : List V} {E : XK} {x m : Str} {p pos apos : Pos} {e o : Expr} {es : List Expr} {ta : TE} {t : TA}
theorem pe_callF (c : Cal X.prog X.w X.K X.mg X.base CX j x dvs sp) (hr : Room k X.A) (hg : Gl X x) (hx : Passes CX X E) (ha : PA X (e :: es) t) (hk : j ≤ k := by decide)
    (hdb : (x == ("__debug__" : Str)) = false := by decide) (he : starEach (e :: es) X.env = (false, eval e X.env) :: starEach es X.env := by rfl) (hpl : (backTo pos (starEach es X.env)).any (·.1) = false := by rfl) :
    PE X (.Call (.Name x p) (e :: es) [] pos) (tCall sp dvs E t) := by
  obtain ⟨f, fd, ps, ds, h1, h2, h3, h4, h5⟩ := c.ex
  exact pe_call h5 (hr.mono hk) hg h1 h2 h3 h4 hx ha hdb he hpl
theorem pe_callF0 (c : Cal X.prog X.w X.K X.mg X.base CX j x dvs sp) (hr : Room k X.A) (hg : Gl X x) (hx : Passes CX X E) (hk : j ≤ k := by decide)
    (hdb : (x == ("__debug__" : Str)) = false := by decide) : PE X (.Call (.Name x p) [] [] pos) (tCall sp dvs E tNil) := by
  obtain ⟨f, fd, ps, ds, h1, h2, h3, h4, h5⟩ := c.ex
  exact pe_call0 h5 (hr.mono hk) hg h1 h2 h3 h4 hx hdb
theorem pe_methF {pl : Sem Bool} (he : PE X o ta) (c : CalM X.prog X.w X.K X.mg X.base CX j C m dvs sp) (hr : Room k X.A) (hx : Passes CX X E) (ha : PA X (e :: es) t) (hk : j ≤ k := by decide)
    (hst : starEach (e :: es) X.env = (false, eval e X.env) :: starEach es X.env := by rfl) (hpl : (backTo pos (starEach es X.env)).any (·.1) = false := by rfl)
    (ht : eval (.Call (.Attribute o m apos) (e :: es) [] pos) X.env = (do
      let ov ← eval o X.env
      standAt apos.atName
      let (f, first) ← holding [ov] (getMethod ov m pl)
      callWith pos f first (backTo pos (starEach (e :: es) X.env)) (backToKw pos (keywordEach [] X.env))) := by rfl) :
    PE X (.Call (.Attribute o m apos) (e :: es) [] pos) (tMeth C m sp dvs E ta t) := by
  obtain ⟨f, fd, ps, ds, h1, h3, h4, h5⟩ := c.ex
  exact pe_meth he c.cl h1 h5 (hr.mono hk) h3 h4 hx ha hst hpl ht
theorem pe_methF0 {pl : Sem Bool} (he : PE X o ta) (c : CalM X.prog X.w X.K X.mg X.base CX j C m dvs sp) (hr : Room k X.A) (hx : Passes CX X E) (hk : j ≤ k := by decide)
    (ht : eval (.Call (.Attribute o m apos) [] [] pos) X.env = (do
      let ov ← eval o X.env
      standAt apos.atName
      let (f, first) ← holding [ov] (getMethod ov m pl)
      callWith pos f first (backTo pos (starEach [] X.env)) (backToKw pos (keywordEach [] X.env))) := by rfl) :
    PE X (.Call (.Attribute o m apos) [] [] pos) (tMeth C m sp dvs E ta tNil) := by
  obtain ⟨f, fd, ps, ds, h1, h3, h4, h5⟩ := c.ex
  exact pe_meth0 he c.cl h1 h5 (hr.mono hk) h3 h4 hx ht
theorem pe_makeF (c : CalC X.prog X.w X.K X.mg X.base CX j x C dvs sp) (hr : Room k X.A) (hg : Gl X x) (hx : Passes CX X E) (ha : PA X (e :: es) t) (hk : j + 1 ≤ k := by decide)
    (hdb : (x == ("__debug__" : Str)) = false := by decide) (he : starEach (e :: es) X.env = (false, eval e X.env) :: starEach es X.env := by rfl) (hpl : (backTo pos (starEach es X.env)).any (·.1) = false := by rfl) :
    PE X (.Call (.Name x p) (e :: es) [] pos) (tMake C sp dvs E t) := by
  obtain ⟨f, fd, ps, ds, h1, h2, h3, h4, h5⟩ := c.ex
  exact pe_make h2 h5 (hr.mono hk) hg h1 h3 h4 hx ha hdb he hpl
theorem pe_makeF0 (c : CalC X.prog X.w X.K X.mg X.base CX j x C dvs sp) (hr : Room k X.A) (hg : Gl X x) (hx : Passes CX X E) (hk : j + 1 ≤ k := by decide)
    (hdb : (x == ("__debug__" : Str)) = false := by decide) : PE X (.Call (.Name x p) [] [] pos) (tMake C sp dvs E tNil) := by
  obtain ⟨f, fd, ps, ds, h1, h2, h3, h4, h5⟩ := c.ex
  exact pe_make0 h2 h5 (hr.mono hk) hg h1 h3 h4 hx hdb
end
/-- a walked thing in a for, in a comprehension -/
theorem r_for {wi : TI} {g : TG} {tb : TS} {D : Ends} {σ : L2.St} {H : Hp} (h : wi σ H fun J H1 => ∃ W : Nat → Nat → L2.St → Hp → Prop, (∃ m, W 0 m σ H1) ∧ ∀ i m σ H, W i m σ H →
  (J.stop i H ∧ D.nx σ H) ∨ (J.go i H ∧ ∃ N : L2.St → Hp → Prop, (∀ σ' H', N σ' H' → ∃ m', m' < m ∧ W (i + 1) m' σ' H') ∧ ∀ x H', J.yld i H x H' → g x σ H' fun σ2 H2 => tb { D with nx := N, ct := N, bk := D.nx } σ2 H2)) : tFor wi g tb D σ H := h
theorem r_lc {wi : TI} {g : TG} {tt : TT} {te : TE} {vs : List Nat} {σ : L2.St} {H : Hp} {Q : VK} (h : wi σ H fun J H1 => ∀ D, H1 D = none → ∃ W : Nat → Nat → Hp → Prop, (∃ m, W 0 m (upd H1 D (.lst []))) ∧ ∀ i m H, W i m H →
  (J.stop i H ∧ Q (.ref D) H) ∨ (J.go i H ∧ ∃ Nx : Hp → Prop, (∀ H', Nx H' → ∃ m', m' < m ∧ W (i + 1) m' H') ∧ ∀ x H', J.yld i H x H' → g x (wipe σ vs) H' fun σ2 H2 => wipe σ2 vs = wipe σ vs ∧ tt σ2 H2 fun b H3 =>
    if b = true then te σ2 H3 fun y H4 => ∃ acc, H4 D = some (.lst acc) ∧ acc.length < sizeLine ∧ Nx (upd H4 D (.lst (acc ++ [y]))) else Nx H3)) : tLc wi g tt te vs σ H Q := h
section
variable {K : PySem.W.Frag} {tl : TE} {as : TA} {σ : L2.St} {H : Hp} {R : It → Hp → Prop}
def kList (K : PySem.W.Frag) (R : It → Hp → Prop) : V → Hp → Prop := fun x H1 => ∃ a, x = .ref a ∧ (∃ xs, SqL K H1 a xs) ∧ R (Itl K a) H1
def kTupI (K : PySem.W.Frag) (R : It → Hp → Prop) : V → Hp → Prop := fun x H1 => ∃ a, x = .ref a ∧ (∃ xs, SqT K H1 a xs) ∧ R (Itt K a) H1
def kRng1 (R : It → Hp → Prop) : List V → Hp → Prop := fun vs H1 => ∃ j : Int, vs = [.int j] ∧ -(2 ^ 62) ≤ j ∧ j < 2 ^ 62 ∧ R (Itr 0 j.toNat) H1
def kRng2 (R : It → Hp → Prop) : List V → Hp → Prop := fun vs H1 => ∃ i j : Int, vs = [.int i, .int j] ∧ (-(2 ^ 62) ≤ i ∧ i < 2 ^ 62 ∧ -(2 ^ 62) ≤ j ∧ j < 2 ^ 62) ∧ R (Itr i (j - i).toNat) H1
def kRng3 (R : It → Hp → Prop) : List V → Hp → Prop := fun vs H1 => ∃ (i j c : Int) (n : Nat), vs = [.int i, .int j, .int c] ∧ RgC i j c n ∧ R (Itc i c n) H1
def kEnum (K : PySem.W.Frag) (R : It → Hp → Prop) : List V → Hp → Prop := fun vs H1 => ∃ a xs, vs = [.ref a] ∧ SqL K H1 a xs ∧ R (Ite K a) H1
def kZip (K : PySem.W.Frag) (R : It → Hp → Prop) : List V → Hp → Prop := fun vs H1 => ∃ a b xs ys, vs = [.ref a, .ref b] ∧ SqL K H1 a xs ∧ SqL K H1 b ys ∧ R (Itz K a b) H1
def kRev (K : PySem.W.Frag) (R : It → Hp → Prop) : List V → Hp → Prop := fun vs H1 => ∃ (a : Addr) (xs : List V), vs = [.ref a] ∧ SqL K H1 a xs ∧ R (Itv K a xs.length) H1
theorem r_iList (h : tl σ H (kList K R)) : iList K tl σ H R := h
theorem r_iTup (h : tl σ H (kTupI K R)) : iTup K tl σ H R := h
theorem r_iRng1 (h : as σ H (kRng1 R)) : iRng1 as σ H R := h
theorem r_iRng2 (h : as σ H (kRng2 R)) : iRng2 as σ H R := h
theorem r_iRng3 (h : as σ H (kRng3 R)) : iRng3 as σ H R := h
theorem r_iEnum (h : as σ H (kEnum K R)) : iEnum K as σ H R := h
theorem r_iZip (h : as σ H (kZip K R)) : iZip K as σ H R := h
theorem r_iRev (h : as σ H (kRev K R)) : iRev K as σ H R := h
theorem v_iList {a : Addr} {xs : List V} (h : SqL K H a xs) (k : R (Itl K a) H) : kList K R (.ref a) H := ⟨a, rfl, ⟨xs, h⟩, k⟩
theorem v_iTup {a : Addr} {xs : List V} (h : SqT K H a xs) (k : R (Itt K a) H) : kTupI K R (.ref a) H := ⟨a, rfl, ⟨xs, h⟩, k⟩
theorem v_rng1 {n : Int} (h0 : -(2 ^ 62) ≤ n ∧ n < 2 ^ 62) (k : R (Itr 0 n.toNat) H) : kRng1 R [.int n] H := ⟨n, rfl, h0.1, h0.2, k⟩
theorem v_rng2 {n m : Int} (h0 : -(2 ^ 62) ≤ n ∧ n < 2 ^ 62 ∧ -(2 ^ 62) ≤ m ∧ m < 2 ^ 62) (k : R (Itr n (m - n).toNat) H) : kRng2 R [.int n, .int m] H := ⟨n, m, rfl, h0, k⟩
theorem v_rng3 {i j c : Int} {n : Nat} (h0 : RgC i j c n) (k : R (Itc i c n) H) : kRng3 R [.int i, .int j, .int c] H := ⟨i, j, c, n, rfl, h0, k⟩
theorem v_enum {a : Addr} {xs : List V} (h : SqL K H a xs) (k : R (Ite K a) H) : kEnum K R [.ref a] H := ⟨a, xs, rfl, h, k⟩
theorem v_zip {a b : Addr} {xs ys : List V} (h : SqL K H a xs) (h2 : SqL K H b ys) (k : R (Itz K a b) H) : kZip K R [.ref a, .ref b] H := ⟨a, b, xs, ys, rfl, h, h2, k⟩
theorem v_rev1 {a : Addr} {xs : List V} (h : SqL K H a xs) (k : R (Itv K a xs.length) H) : kRev K R [.ref a] H := ⟨a, xs, rfl, h, k⟩
end
end SH


set_option Elab.async false
set_option linter.all false
set_option maxRecDepth 100000
set_option maxHeartbeats 4000000
/-! SHC: lengths, places, fields, constants -/
namespace SH
open PySem PySem.Spec PyProof.Rows L2

def Sq (K : PySem.W.Frag) (H : Hp) (a : Addr) (xs : List V) : Prop := SqL K H a xs ∨ SqT K H a xs
def aLen (K : PySem.W.Frag) : List V → Hp → VK → Prop := fun vs H Q => match vs with
  | [.ref p] => ∃ xs, Sq K H p xs ∧ Q (.int xs.length) H
  | [.str y] => y.length ≤ sizeLine ∧ Q (.int y.length) H
  | _ => False
def aIx (K : PySem.W.Frag) : R2 := fun x y H Q => match x, y with
  | .ref p, .int i => ∃ xs v, Sq K H p xs ∧ atI xs i = some v ∧ Q v H
  | .str z, .int i => ∃ c, z.length ≤ sizeLine ∧ atI z.cps.toList i = some c ∧ Q (.str ⟨#[c]⟩) H
  | _, _ => False
section
variable {X : Cx} {o e value : Expr} {f : Str} {pos tpos pos' : Pos} {ta tv : TE} {C : Addr}
theorem cLen : CallR X (.builtin "len") (aLen X.K) := by
  intro pins s σ H xs us Q I r h
  match xs, r, h with
  | [], _, h => exact False.elim h
  | [.ref p], r, h =>
    obtain ⟨ys, hq, q⟩ := h
    exact call_len pins s σ H _ us Q I r ⟨.ref p, ys.length, rfl, hq.elim (fun z => .inl ⟨ys, z, rfl⟩) fun z => .inr ⟨ys, z, rfl⟩, q⟩
  | [.str y], r, h => exact call_len pins s σ H _ us Q I r ⟨.str y, y.length, rfl, ⟨h.1, rfl⟩, h.2⟩
  | [.non], _, h => exact False.elim h
  | [.bl _], _, h => exact False.elim h
  | [.int _], _, h => exact False.elim h
  | [.byt _], _, h => exact False.elim h
  | [.flt _], _, h => exact False.elim h
  | [.ty _], _, h => exact False.elim h
  | _ :: _ :: _, _, h => revert h; intro h; simp [aLen] at h
theorem ixA : IxR X (aIx X.K) := by
  intro value slice pins s σ H x y v u Q I rx ry h hs
  cases x <;> cases y <;> first | exact False.elim h | skip
  · obtain ⟨c, h1, h2, q⟩ := h
    exact ix_str value slice pins s σ H _ _ v u Q I rx ry ⟨_, _, c, rfl, rfl, h1, h2, q⟩ hs
  · obtain ⟨xs, w, hq, h2, q⟩ := h
    rcases hq with hq | hq
    · exact ix_list value slice pins s σ H _ _ v u Q I rx ry ⟨_, xs, _, w, rfl, rfl, hq, h2, q⟩ hs
    · exact ix_tup value slice pins s σ H _ _ v u Q I rx ry ⟨_, xs, _, w, rfl, rfl, hq, h2, q⟩ hs
/-- e.f, the class known -/
def tFldF (C : Addr) (ta : TE) (f : Str) : TE := fun σ H Q => ta σ H fun x H1 => ∃ a dx fs v, x = .ref a ∧ H1 a = some (.ins C dx fs) ∧ fs.lookup f = some v ∧ Q v H1
theorem pe_fldF (cl : Cls X.K C) (na : NoAttr X.K C f) (he : PE X e ta) (hb : attributeBase e f X.env (eval e X.env) = eval e X.env := by rfl) : PE X (.Attribute e f pos) (tFldF C ta f) := by
  refine ⟨fun pins s σ H Q I h => ?_⟩
  refine attr_of hb (thn (he.run pins s σ H _ I h) fun u s1 ⟨x, H1, I1, rx, a, dx, fs, v, ex, ea, l, q⟩ => ?_)
  subst ex
  obtain rfl : u = Value.ref a := rx
  exact getattr_ok I1 ea cl na l fun u' s2 I2 ru => ⟨v, H1, I2, ru, q⟩
def sFldF (C : Addr) (ta tv : TE) (f : Str) : TS := fun D σ H => tv σ H fun y H1 => ta σ H1 fun x H2 => ∃ a dx fs, x = .ref a ∧ H2 a = some (.ins C dx fs) ∧ fs.length < 1000 ∧ D.nx σ (upd H2 a (.ins C dx (putF f y fs)))
theorem ps_fldF (cl : Cls X.K C) (na : NoAttr X.K C f) (ha : PE X o ta) (hv : PE X value tv) (hs : swapsWith value (some (.Attribute o f pos')) pos.line X.env = pure false) : PS X (.Assign [.Attribute o f pos'] value pos) (sFldF C ta tv f) := by
  refine ⟨fun pins s σ H D I h => ?_⟩
  refine plainObj_wpAny_Assign_Attribute (thn (hv.run pins s σ H _ I h) fun u s1 ⟨y, H1, I1, ry, q⟩ => thn (ha.run pins s1 σ H1 _ I1 q) fun ov s2 ⟨x, H2, I2, rx, a, dx, fs, ex, ea, l, q2⟩ => ?_) hs
  subst ex
  obtain rfl : ov = Value.ref a := rx
  exact setattr_ok I2 ea cl na l ry fun s3 I3 => ⟨σ, _, I3, q2⟩
def sFldAugF (C : Addr) (ta tv : TE) (rd : V → V → Hp → VK → Prop) (f : Str) : TS := fun D σ H => ta σ H fun x H1 => ∃ a dx fs v, x = .ref a ∧ H1 a = some (.ins C dx fs) ∧ fs.lookup f = some v ∧
  tv σ H1 fun y H2 => rd v y H2 fun z H3 => ∃ dx' fs', H3 a = some (.ins C dx' fs') ∧ fs'.length < 1000 ∧ D.nx σ (upd H3 a (.ins C dx' (putF f z fs')))
theorem ps_fldaugF {op : Operator} {rd : V → V → Hp → VK → Prop} (cl : Cls X.K C) (na : NoAttr X.K C f) (ha : PE X o ta) (hv : PE X value tv) (hop : InOp X op rd) : PS X (.AugAssign (.Attribute o f tpos) op value pos) (sFldAugF C ta tv rd f) := by
  refine ⟨fun pins s σ H D I h => ?_⟩
  refine wpAny_AugAssign_AttributeAny (thn (ha.run pins s σ H _ I h) fun ov s1 ⟨x, H1, I1, rx, a, dx, fs, v, ex, ea, l, q⟩ => ?_)
  subst ex
  obtain rfl : ov = Value.ref a := rx
  refine getattr_ok I1 ea cl na l fun u s2 I2 ru => thn (hv.run pins s2 σ H1 _ I2 q) fun w3 s3 ⟨y, H2, I3, ry, q3⟩ => thn (hop pins s3 σ H2 v y u w3 _ I3 ru ry q3) fun w4 s4 ⟨z, H3, I4, rz, dx', fs', ea', l', q4⟩ => ?_
  exact setattr_ok I4 ea' cl na l' rz fun s5 I5 => ⟨σ, _, I5, q4⟩
theorem in_add' : InOp X .Add aIpAdd := ip_add'
theorem in_sub' : InOp X .Sub aIpSub := ip_sub'
/-- a module's constant that is an int -/
theorem pe_k {x : Str} {v : V} (hm : ∃ u, X.mg x = some u ∧ RelV v u) (hg : Gl X x := by rfl) (hd : (x == ("__debug__" : Str)) = false := by decide) : PE X (.Name x pos) (tC v) := by
  obtain ⟨u, h1, h2⟩ := hm
  exact pe_glob hg h1 h2 hd
/-- xs[i], for xs[i] op= e -/
def aGetL (K : PySem.W.Frag) : V → V → Hp → VK → Prop := fun o i H Q => ∃ p xs k v, o = .ref p ∧ i = .int k ∧ H p = some (.lst xs) ∧ 0 ≤ k ∧ k < 2 ^ 63 ∧ xs[k.toNat]? = some v ∧ Q v H
theorem getL : PGet X (aGetL X.K) := by
  intro pins s σ H o i ov iv Q I ro ri h
  obtain ⟨p, xs, k, v, rfl, rfl, hp, h0, h1, hv, q⟩ := h
  cases ro
  obtain ⟨t, rfl⟩ := ri
  obtain ⟨its, r, pl, hz⟩ := I.list (SqL.of (K := X.K) hp)
  obtain ⟨w, ew, rw'⟩ := r.get hv
  exact wpAny_getItem_list pl.isList h0 h1 (by simpa using ew) ⟨v, H, I, rw', q⟩
end
section
variable {K : PySem.W.Frag} {H : Hp} {Q : VK} {x y v : V} {a p dx C : Addr} {fs : List (Str × V)} {f : Str} {xs : List V} {i : Int} {n : Nat} {ta tv : TE} {σ : L2.St} {D : Ends}
theorem v_lenL (h : SqL K H p xs) (k : Q (.int xs.length) H) : aLen K [.ref p] H Q := ⟨xs, .inl h, k⟩
theorem v_lenLm {α : Type} {f : α → V} {ns : List α} (h : SqL K H p (ns.map f)) (k : Q (.int ns.length) H) : aLen K [.ref p] H Q := ⟨_, .inl h, by rw [List.length_map]; exact k⟩
theorem v_lenTm {α : Type} {f : α → V} {ns : List α} (h : SqT K H p (ns.map f)) (k : Q (.int ns.length) H) : aLen K [.ref p] H Q := ⟨_, .inr h, by rw [List.length_map]; exact k⟩
theorem v_lenT (h : SqT K H p xs) (k : Q (.int xs.length) H) : aLen K [.ref p] H Q := ⟨xs, .inr h, k⟩
theorem v_ixL (h : SqL K H p xs) (ha : atI xs i = some v) (k : Q v H) : aIx K (.ref p) (.int i) H Q := ⟨xs, v, .inl h, ha, k⟩
theorem v_ixT (h : SqT K H p xs) (ha : atI xs i = some v) (k : Q v H) : aIx K (.ref p) (.int i) H Q := ⟨xs, v, .inr h, ha, k⟩
/-- at a place n -/
theorem v_ixLn (h : SqL K H p xs) (e : i = (n : Int)) (ha : xs[n]? = some v) (k : Q v H) : aIx K (.ref p) (.int i) H Q := ⟨xs, v, .inl h, by rw [e]; exact atI_nat ha, k⟩
theorem v_ixTn (h : SqT K H p xs) (e : i = (n : Int)) (ha : xs[n]? = some v) (k : Q v H) : aIx K (.ref p) (.int i) H Q := ⟨xs, v, .inr h, by rw [e]; exact atI_nat ha, k⟩
def kFld (C : Addr) (f : Str) (Q : VK) : VK := fun x H1 => ∃ a dx fs v, x = .ref a ∧ H1 a = some (.ins C dx fs) ∧ fs.lookup f = some v ∧ Q v H1
theorem r_fldF (h : ta σ H (kFld C f Q)) : tFldF C ta f σ H Q := h
theorem v_fld (h : H a = some (.ins C dx fs)) (l : fs.lookup f = some v) (k : Q v H) : kFld C f Q (.ref a) H := ⟨a, dx, fs, v, rfl, h, l, k⟩
def kSfld (C : Addr) (f : Str) (y : V) (R : Hp → Prop) : VK := fun x H2 => ∃ a dx fs, x = .ref a ∧ H2 a = some (.ins C dx fs) ∧ fs.length < 1000 ∧ R (upd H2 a (.ins C dx (putF f y fs)))
theorem r_sfldF (h : tv σ H fun y H1 => ta σ H1 (kSfld C f y (D.nx σ))) : sFldF C ta tv f D σ H := h
theorem v_sfld {fs' : List (Str × V)} {R : Hp → Prop} (h : H a = some (.ins C dx fs)) (l : fs.length < 1000) (e : putF f y fs = fs') (k : R (upd H a (.ins C dx fs'))) : kSfld C f y R (.ref a) H := ⟨a, dx, fs, rfl, h, l, by rw [e]; exact k⟩
def kAug1 (C : Addr) (f : Str) (R : V → Addr → Hp → Prop) : VK := fun x H1 => ∃ a dx fs v, x = .ref a ∧ H1 a = some (.ins C dx fs) ∧ fs.lookup f = some v ∧ R v a H1
def kAug2 (C : Addr) (f : Str) (a : Addr) (R : Hp → Prop) : VK := fun z H3 => ∃ dx' fs', H3 a = some (.ins C dx' fs') ∧ fs'.length < 1000 ∧ R (upd H3 a (.ins C dx' (putF f z fs')))
theorem r_sfldAugF {rd : V → V → Hp → VK → Prop} (h : ta σ H (kAug1 C f fun v a H1 => tv σ H1 fun y H2 => rd v y H2 (kAug2 C f a (D.nx σ)))) : sFldAugF C ta tv rd f D σ H := h
theorem v_aug1 {R : V → Addr → Hp → Prop} (h : H a = some (.ins C dx fs)) (l : fs.lookup f = some v) (k : R v a H) : kAug1 C f R (.ref a) H := ⟨a, dx, fs, v, rfl, h, l, k⟩
theorem v_aug2 {fs' : List (Str × V)} {R : Hp → Prop} (h : H a = some (.ins C dx fs)) (l : fs.length < 1000) (e : putF f y fs = fs') (k : R (upd H a (.ins C dx fs'))) : kAug2 C f a R y H := ⟨dx, fs, h, l, by rw [e]; exact k⟩
theorem v_getL (h : H p = some (.lst xs)) (e : i = (n : Int)) (hn : n < 1000000) (ha : xs[n]? = some v) (k : Q v H) : aGetL K (.ref p) (.int i) H Q := ⟨p, xs, i, v, rfl, rfl, h, by omega, by omega, by rw [e]; exact ha, k⟩
theorem ixN_n {m n : Nat} (h : n < m) : ixN m (n : Int) = some n := by
  unfold ixN
  rw [if_pos (by omega), if_pos (by omega)]
  simp
theorem v_setL {P : Hp → Prop} (h : H p = some (.lst xs)) (e : i = (n : Int)) (hn : n < xs.length) (k : P (upd H p (.lst (xs.set n v)))) : rSetL (.ref p) (.int i) v H P := ⟨p, xs, i, n, rfl, rfl, h, by rw [e]; exact ixN_n hn, k⟩
theorem v_append {P : Hp → Prop} (h : H p = some (.lst xs)) (hn : xs.length < 1000000) (k : P (upd H p (.lst (xs ++ [v])))) : tyV K "list" (.ref p) H ∧ rAppend (.ref p) [v] H (fun _ H' => P H') := ⟨.inl ⟨rfl, xs, SqL.of h⟩, p, xs, v, rfl, rfl, h, Nat.lt_trans hn (by decide), k⟩
theorem ty_list (h : H p = some (.lst xs)) : tyV K "list" (.ref p) H := .inl ⟨rfl, xs, SqL.of h⟩
theorem v_app (h : H p = some (.lst xs)) (hn : xs.length < 1000000) (k : Q .non (upd H p (.lst (xs ++ [v])))) : rAppend (.ref p) [v] H Q := ⟨p, xs, v, rfl, rfl, h, Nat.lt_trans hn (by decide), k⟩
theorem v_ext {b : Addr} {ys : List V} (h : H p = some (.lst xs)) (h2 : H b = some (.lst ys)) (hn : xs.length + ys.length ≤ 1000000) (k : Q .non (upd H p (.lst (xs ++ ys)))) : rExtend (.ref p) [.ref b] H Q := ⟨p, b, xs, ys, rfl, rfl, h, h2, Nat.le_trans hn (by decide), k⟩
theorem v_rev (h : H p = some (.lst xs)) (k : Q .non (upd H p (.lst xs.reverse))) : rReverse (.ref p) [] H Q := ⟨p, xs, rfl, rfl, h, k⟩
theorem v_clear (h : H p = some (.lst xs)) (k : Q .non (upd H p (.lst []))) : rClear (.ref p) [] H Q := ⟨p, xs, rfl, rfl, h, k⟩
theorem v_pop (h : H p = some (.lst xs)) (hv : xs[xs.length - 1]? = some v) (k : Q v (upd H p (.lst xs.dropLast))) : rPop (.ref p) [] H Q := ⟨p, xs, v, rfl, rfl, h, hv, k⟩
theorem v_slL {lo hi : Option Int} (h : SqL K H p xs) (k : ∀ q, H q = none → Q (.ref q) (upd H q (.lst (cutV xs lo hi)))) : rSlL K (.ref p) lo hi H Q := ⟨p, xs, rfl, h, k⟩
theorem v_listL (h : SqL K H p xs) (k : ∀ l, H l = none → Q (.ref l) (upd H l (.lst xs))) : ∃ p' ys, [V.ref p] = [.ref p'] ∧ (SqL K H p' ys ∨ SqT K H p' ys) ∧ ∀ l, H l = none → Q (.ref l) (upd H l (.lst ys)) := ⟨p, xs, rfl, .inl h, k⟩
theorem v_listT (h : SqT K H p xs) (k : ∀ l, H l = none → Q (.ref l) (upd H l (.lst xs))) : ∃ p' ys, [V.ref p] = [.ref p'] ∧ (SqL K H p' ys ∨ SqT K H p' ys) ∧ ∀ l, H l = none → Q (.ref l) (upd H l (.lst ys)) := ⟨p, xs, rfl, .inr h, k⟩
theorem v_sum {ns : List Int} (h : SqL K H p (ns.map V.int)) (k : Q (.int ns.sum) H) : rSum K [.ref p] H Q := ⟨p, ns, rfl, h, k⟩
theorem v_isi {c : V} {t u : Value} {b : Bool} (h1 : ClsV c u) (h2 : TyX K H x t) (h3 : PySem.W.kitOne K t u = some b) (k : Q (.bl b) H) : rIsi K [x, c] H Q := ⟨x, c, t, u, b, rfl, h1, h2, h3, k⟩
theorem v_max2 {n m : Int} (k : Q (.int (if m > n then m else n)) H) : ∃ i j, [V.int n, V.int m] = [.int i, .int j] ∧ Q (.int (if j > i then j else i)) H := ⟨n, m, rfl, k⟩
theorem v_min2 {n m : Int} (k : Q (.int (if m < n then m else n)) H) : ∃ i j, [V.int n, V.int m] = [.int i, .int j] ∧ Q (.int (if j < i then j else i)) H := ⟨n, m, rfl, k⟩
theorem v_bits {n : Int} (k : Q (.int (Builtin.Int.intBits n : Nat)) H) : ∃ i, V.int n = .int i ∧ Q (.int (Builtin.Int.intBits i : Nat)) H := ⟨n, rfl, k⟩
theorem r_bits (h : ta σ H fun x H1 => ∃ i, x = .int i ∧ Q (.int (Builtin.Int.intBits i : Nat)) H1) : tBits ta σ H Q := h
end

/-- 10 ** 60 -/
def big60 : Int := 10 ^ 60
theorem big60_pos : 0 < big60 := by unfold big60; decide
theorem big60_lt : big60 < 2 ^ 200 := by unfold big60; decide +kernel
section
variable {K : PySem.W.Frag} {H : Hp} {Q : VK} {x : V}
theorem v_pow60 (k : Q (.int big60) H) : aPow (.int 10) (.int 60) H Q := ⟨⟨by decide, by decide, by decide⟩, k⟩
theorem v_isiIT {n : Int} (k : Q (.bl true) H) : rIsi K [.int n, .ty "int"] H Q := ⟨.int n, .ty "int", .type "int", .type "int", true, rfl, .ty _, .base (.int n), by rfl, k⟩
theorem v_isiIB {n : Int} (k : Q (.bl false) H) : rIsi K [.int n, .ty "bool"] H Q := ⟨.int n, .ty "bool", .type "int", .type "bool", false, rfl, .ty _, .base (.int n), by rfl, k⟩
end
theorem map_at {α : Type} {f : α → V} {ns : List α} {i : Nat} {x : V} (h : (ns.map f)[i]? = some x) : ∃ n, ns[i]? = some n ∧ x = f n := by
  rw [List.getElem?_map] at h
  cases e : ns[i]? with
  | none => rw [e] at h; cases h
  | some n => rw [e] at h; exact ⟨n, rfl, (Option.some.inj h).symm⟩
/-- a cut of any list -/
def cutL {α : Type} (xs : List α) (lo hi : Option Int) : List α := (xs.drop (HT.sIx xs.length 0 lo)).take (HT.sIx xs.length xs.length hi - HT.sIx xs.length 0 lo)
theorem cut_map {α : Type} (f : α → V) (ns : List α) (lo hi : Option Int) : cutV (ns.map f) lo hi = (cutL ns lo hi).map f := by
  unfold cutV cutL
  rw [List.length_map, List.map_take, List.map_drop]
theorem cutL_mem {α : Type} {xs : List α} {lo hi : Option Int} {x : α} (h : x ∈ cutL xs lo hi) : x ∈ xs := List.mem_of_mem_drop (List.mem_of_mem_take h)
theorem cutL_len {α : Type} (xs : List α) (lo hi : Option Int) : (cutL xs lo hi).length ≤ xs.length := by
  unfold cutL
  rw [List.length_take, List.length_drop]
  omega
theorem cutL_upto {α : Type} (xs : List α) (k : Nat) : cutL xs none (some (k : Int)) = xs.take k := by
  unfold cutL
  rw [HT.sIx_none, HT.sIx_nat, List.drop_zero, Nat.sub_zero, List.take_eq_take_iff]
  omega
theorem cutL_from {α : Type} (xs : List α) (k : Nat) : cutL xs (some (k : Int)) none = xs.drop k := by
  unfold cutL
  rw [HT.sIx_none, HT.sIx_nat]
  by_cases h : k ≤ xs.length
  · rw [Nat.min_eq_left h, List.take_of_length_le (by rw [List.length_drop]; omega)]
  · have e1 : min k xs.length = xs.length := by omega
    rw [e1, List.drop_length, List.drop_of_length_le (by omega), List.take_nil]
theorem cutL_span {α : Type} (xs : List α) (i j : Nat) : cutL xs (some (i : Int)) (some (j : Int)) = (xs.drop i).take (j - i) := by
  unfold cutL
  rw [HT.sIx_nat, HT.sIx_nat]
  by_cases h : i ≤ xs.length
  · rw [Nat.min_eq_left h]
    by_cases h2 : j ≤ xs.length
    · rw [Nat.min_eq_left h2]
    · rw [Nat.min_eq_right (by omega), List.take_of_length_le (by rw [List.length_drop]; omega), List.take_of_length_le (by rw [List.length_drop]; omega)]
  · have e1 : min i xs.length = xs.length := by omega
    rw [e1, List.drop_length, List.drop_of_length_le (by omega), List.take_nil, List.take_nil]
/-- what a law is asked: the script's ints in, True out -/
def lawSp (K : PySem.W.Frag) : Sp := fun vs H Q _ => ∃ (a : Addr) (ns : List Int), vs = [.ref a] ∧ SqL K H a (ns.map V.int) ∧ ns.length ≤ 63 ∧ ∀ H', Q (.bl true) H'
end SH

set_option Elab.async false
set_option linter.all false
set_option maxRecDepth 100000
set_option maxHeartbeats 4000000
/-! SHD: functions that are made by a def and handed out -/
namespace SH
open PySem PySem.Spec PyProof.Rows L2 NdefX LamX

/-- the cell at c holds v -/
def cellO (c : Addr) (v : V) : HO := .ext fun h => ∃ u, L2.RelV v u ∧ h.IsCell c (some u)
theorem cellO_ok {P : Program} {w : World} {H : Hp} {h : Heap} {c : Addr} {v : V} {u : Value} (r : L2.RelV v u) (e : h.IsCell c (some u)) : ObjOk P w H h c (cellO c v) := by
  refine ⟨⟨u, r, e⟩, ?_, fun h1 h2 ⟨u', r', o, ho, hd⟩ st => ⟨u', r', o, st o ho, hd⟩⟩
  obtain ⟨o, ho, _⟩ := e
  exact ⟨o, ho⟩
theorem cellO_at {P : Program} {w : World} {H : Hp} {h : Heap} {c : Addr} {v : V} (hok : HOk P w H h) (e : H c = some (cellO c v)) : ∃ u, L2.RelV v u ∧ h.IsCell c (some u) := (hok c _ e).1
/-- at f stands a function of the text st, made in the def of the name before it; its captured names fr hold ws -/
structure Clo (H : Hp) (f : Addr) (st : Stmt) (name qual : Str) (fr : List Str) (ws : List V) (cl : List (Str × Addr)) (c' : Addr) : Prop where
  fn : H f = some (FnO f (NF.of st name qual cl c'))
  code : H c' = some (CodeO c' qual)
  len : ws.length = fr.length
  cells : ∀ y c, (y, c) ∈ cl → ∃ v, H c = some (cellO c v)
  inj : ∀ x y c, cl.lookup x = some c → cl.lookup y = some c → x = y
  has : ∀ (i : Nat) (y : Str), fr[i]? = some y → ∃ c v, cl.lookup y = some c ∧ ws[i]? = some v ∧ H c = some (cellO c v)
theorem Clo.step {M : List Addr} {H H' : Hp} {f : Addr} {st : Stmt} {name qual : Str} {fr : List Str} {ws : List V} {cl : List (Str × Addr)} {c' : Addr} (c : Clo H f st name qual fr ws cl c') (s : Stp M H H') : Clo H' f st name qual fr ws cl c' := by
  refine ⟨s.fix c.fn True.intro, s.fix c.code True.intro, c.len, fun y a e => ?_, c.inj, fun i y e => ?_⟩
  · obtain ⟨v, h⟩ := c.cells y a e
    exact ⟨v, s.fix h True.intro⟩
  · obtain ⟨a, v, h1, h2, h3⟩ := c.has i y e
    exact ⟨a, v, h1, h2, s.fix h3 True.intro⟩

/-- the cells of a list tracked too -/
def track (cl : List (Str × Addr)) (val : Addr → HO) (H : Hp) : Hp := fun b => match H b with
  | some o => some o
  | none => if b ∈ cl.map (·.2) then some (val b) else none
theorem track_some {cl : List (Str × Addr)} {val : Addr → HO} {H : Hp} {b : Addr} {o : HO} (h : H b = some o) : track cl val H b = some o := by
  unfold track; rw [h]
theorem track_cell {cl : List (Str × Addr)} {val : Addr → HO} {H : Hp} {b : Addr} (h : H b = none) (m : b ∈ cl.map (·.2)) : track cl val H b = some (val b) := by
  unfold track; rw [h]; exact if_pos m
theorem track_out {cl : List (Str × Addr)} {val : Addr → HO} {H : Hp} {b : Addr} (m : b ∉ cl.map (·.2)) : track cl val H b = H b := by
  unfold track
  cases h : H b with
  | some o => rfl
  | none => exact if_neg m
theorem track_none {cl : List (Str × Addr)} {val : Addr → HO} {H : Hp} {b : Addr} (h : track cl val H b = none) : H b = none ∧ b ∉ cl.map (·.2) := by
  unfold track at h
  cases e : H b with
  | some o => rw [e] at h; cases h
  | none =>
    rw [e] at h
    refine ⟨rfl, fun m => ?_⟩
    have h : (if b ∈ cl.map (·.2) then some (val b) else none) = none := h
    rw [if_pos m] at h
    cases h
theorem track_ok {P : Program} {w : World} {H : Hp} {h : Heap} {cl : List (Str × Addr)} {val : Addr → HO} (hok : HOk P w H h) (hv : ∀ b ∈ cl.map (·.2), H b = none → ObjOk P w (track cl val H) h b (val b)) : HOk P w (track cl val H) h := fun b o e => by
  cases q : H b with
  | some u =>
    rw [track_some q] at e
    cases e
    exact (hok b o q).stay (fun _ _ _ z => z) (fun c z => track_some z) fun c xs z => track_some z
  | none =>
    by_cases m : b ∈ cl.map (·.2)
    · rw [track_cell q m] at e
      cases e
      exact hv b m q
    · rw [track_out m, q] at e; cases e

/-- the body of a def that makes a function and hands it out has come to its end -/
def Made (X : Cx) (σ : L2.St) (H : Hp) (T : List NTab) (i : Nat) (st : Stmt) (nm : Str) : Flow → Shared → Prop := fun fl s' => ∃ f' c' H1, Inv X [] (σ.set i (some (.ref f'))) H1 s' ∧ fl = .ret (.ref f') ∧ ExtN H H1 ∧ (∀ b, H1 b = Option.none → H b = Option.none) ∧ TabsN T H1 ∧ H f' = none ∧
  H1 f' = some (FnO f' (NF.of st nm (X.env.qual ++ nm) (cloFrom X.env.cells (C8.fnScope st).names []) c')) ∧ H1 c' = some (CodeO c' (X.env.qual ++ nm))
theorem mk_body {X : Cx} {σ : L2.St} {H : Hp} {s : Shared} {c P' : Addr} {nm : Str} {pos pos2 pos3 : Pos} {T : List NTab} {nmf : Nat → Nat → Str} {i : Nat} {st : Stmt} (I : Inv X [] σ H s)
    (hst : st = .FunctionDef nm (C8.fnArgs st) (C8.fnBody st) [] none [] (C8.fnScope st) none nm pos)
    (TB : TabB X.base X.mg c P') (hcode : X.env.code = .ref c) (hm : (P', nmf) ∈ T) (hn : nmf pos.line pos.col = X.env.qual ++ nm) (hu : ∀ p ∈ T, p.1 = P' → p.2 = nmf)
    (hfree : ∀ y ∈ (C8.fnScope st).names, y.2 = .free → X.env.scope.names.lookup y.1 = some .cell)
    (hd0 : (C8.fnArgs st).defaults = []) (hk0 : (C8.fnArgs st).kw_defaults = []) (ha : annTrees (C8.fnArgs st) none X.env = []) (hN : X.N.Nodup) (hf : X.fn nm = true ∨ X.env.scope.names.lookup nm = some .local)
    (hi : X.N[i]? = some nm) (hx : X.env.scope.names.lookup nm = some .local) (hdb : (nm == ("__debug__" : Str)) = false) (hcb : (nm == ("__classdict__" : Str)) = false) (hT : TabsN T H) :
    wpAny (model X.prog X.w) X.A (execs [st, .Return (some (.Name nm pos3)) pos2] X.env) (Made X σ H T i st nm) X.xe s := by
  have first := ps_ndefMS (X := X) (i := i) (T := T) (nm := nmf) (P := P') (c := c) hst TB hcode hm hn hu (fun y hy e => .inl (hfree y hy e)) hd0 hk0 ha hN hi (.inl hx) hf
  refine wpAny_execs_cons (thn (first.run [] s σ H ⟨fun σ1 H1 => ∃ f' c', σ1 = σ.set i (some (.ref f')) ∧ ExtN H H1 ∧ (∀ b, H1 b = Option.none → H b = Option.none) ∧ TabsN T H1 ∧ H f' = none ∧
      H1 f' = some (FnO f' (NF.of st nm (X.env.qual ++ nm) (cloFrom X.env.cells (C8.fnScope st).names []) c')) ∧ H1 c' = some (CodeO c' (X.env.qual ++ nm)), fun _ _ => False, fun _ _ => False, fun _ _ => False⟩ I
        ⟨hT, fun f' c' H1 e n t z e1 e2 => ⟨f', c', rfl, e, n, t, z, e1, e2⟩⟩) fun fl s2 q => ?_)
  cases fl with
  | next =>
    obtain ⟨σ1, H1, I1, f', c', rfl, e1, e2, e3, e4, e5, e6⟩ := q
    have hv : (σ.set i (some (V.ref f')))[i]? = some (some (.ref f')) := by
      have hlt : i < X.N.length := (List.getElem?_eq_some_iff.mp hi).1
      rw [List.getElem?_set_self (by rw [I.len]; exact hlt)]
    refine wpAny_execs_cons (wpAny_Return_some (pos := pos2) (thn ((pe_var (X := X) (pos := pos3) hi (.inl hx) hdb hcb).run [] s2 _ H1 (fun v H2 => v = .ref f' ∧ H2 = H1) I1 ⟨.ref f', hv, rfl, rfl⟩) fun u s3 q3 => ?_))
    obtain ⟨v, H2, I2, r2, ev, eH⟩ := q3
    subst ev
    subst eH
    obtain rfl : u = Value.ref f' := r2
    exact ⟨f', c', _, I2, rfl, e1, e2, e3, e4, e5, e6⟩
  | ret v => obtain ⟨_, _, _, _, _, z⟩ := q; exact z.elim
  | brk => obtain ⟨_, _, _, z⟩ := q; exact z.elim
  | cont => obtain ⟨_, _, _, z⟩ := q; exact z.elim
section
variable {P : Program} {w : World} {K : PySem.W.Frag} {mg : Str → Option Value} {base : Heap} {CX : CXT}

/-- a def that makes a function of its parameters and hands it out -/
theorem maker {k : Nat} {f c P' : Addr} {name qual nm : Str} {params : Arguments} {body : List Stmt} {scope : Scope} {dV kV doc pm ct oc : Value} {an od : Option Addr} {pos pos2 pos3 : Pos}
    {osl : Array (Option Value)} {N ps fr : List Str} {sp : Sp} {T : List NTab} {nmf : Nat → Nat → Str} {i : Nat} {st : Stmt} {ix : List Nat} (lk : K.lookup f = some ⟨oc, od, .func (PySem.W.fnOf name qual params body scope dV kV doc pm an (.ref c) ct), osl⟩) (hcd : PySem.W.codeIn K (.ref c) qual = true) (S : FnScope N ps scope)
    (hst : st = .FunctionDef nm (C8.fnArgs st) (C8.fnBody st) [] none [] (C8.fnScope st) none nm pos)
    (hbody : body = [st, .Return (some (.Name nm pos3)) pos2])
    (TB : TabB base mg c P') (hm : (P', nmf) ∈ T) (hn : nmf pos.line pos.col = (qual ++ ".<locals>.") ++ nm) (hu : ∀ p ∈ T, p.1 = P' → p.2 = nmf) (hq : ∀ n g, (envOfC qual scope n g (.ref c)).qual = qual ++ ".<locals>.")
    (hfree : ∀ y ∈ (C8.fnScope st).names, y.2 = .free → scope.names.lookup y.1 = some .cell) (hfr : ∀ y ∈ fr, (y, NameKind.free) ∈ (C8.fnScope st).names) (hfr2 : ∀ y ∈ (C8.fnScope st).names, y.2 = .free → y.1 ∈ fr)
    (hd0 : (C8.fnArgs st).defaults = []) (hk0 : (C8.fnArgs st).kw_defaults = []) (ha : ∀ env, annTrees (C8.fnArgs st) none env = [])
    (hi : N[i]? = some nm) (hx : scope.names.lookup nm = some .local) (hip : ps.length ≤ i) (hdb : (nm == ("__debug__" : Str)) = false) (hcb : (nm == ("__classdict__" : Str)) = false)
    (hix : ix.map (fun j => ps[j]?) = fr.map some)
    (len : ∀ vs H Q E, sp vs H Q E → vs.length = ps.length)
    (hsp : ∀ vs H Q E, sp vs H Q E → TabsN T H ∧ ∀ (f' : Addr) (H' : Hp) (cl : List (Str × Addr)) (c' : Addr), ExtN H H' → (∀ b, H' b = Option.none → H b = Option.none) → TabsN T H' → H f' = none → Clo H' f' st nm ((qual ++ ".<locals>.") ++ nm) fr (ix.map fun j => vs.getD j .non) cl c' → Q (.ref f') H') :
    FnOk P w K mg base CX (k + 1) f (PySem.W.fnOf name qual params body scope dV kV doc pm an (.ref c) ct) ps sp := by
  refine ⟨len, fun A outer s H args us vs Q E hr e0 hb r hs => ?_⟩
  have hl := len _ _ _ _ hs
  have KX : K.In s.heap := e0.mod.kin.keeps fun b o e => (e0.bs b o e).1
  have lim : s.heap.NoLimit := e0.mod.nolimit.keeps fun b o e => (e0.bs b o e).1
  have hkind : ∀ y ∈ ps.zip us, scope.names.lookup y.1 = some .local ∨ (scope.names.lookup y.1 = some .cell ∧ ((cellsFrom (s.heap.objs.size + 1) scope.names []).lookup y.1).isSome = true) := fun ⟨n, v⟩ hy => by
    rcases S.par n (List.of_mem_zip hy).1 with q | q
    · exact .inl q
    · exact .inr ⟨q, PySem.W.cellsFrom_some _ _ _ (.inl q)⟩
  refine codeAny_call_function hr.depth (KX _ _ lk) rfl S.co S.gen rfl (PySem.W.codeRec_of KX hcd) (hb _ _ _ _ ?_)
  refine wpAny_newFunctionEnv_cells S.kind hkind fun env he s1 x => ?_
  subst he
  refine ⟨lim.keeps x.toInCall.keep, codeAny_func ?_⟩
  obtain ⟨hT, hend⟩ := hsp vs H Q E hs
  have I : Inv (cxOf CX P w K mg base N qual scope f (.ref c) A outer s H E) [] (L2.start N vs) H s1 := inv_start S hr.hd e0 hl r x
  have X0 : (cxOf CX P w K mg base N qual scope f (.ref c) A outer s H E).env.qual = qual ++ ".<locals>." := hq _ _
  have B := mk_body (X := cxOf CX P w K mg base N qual scope f (.ref c) A outer s H E) (pos2 := pos2) (pos3 := pos3) I hst TB rfl hm (by rw [X0]; exact hn) hu hfree hd0 hk0 (ha _) S.nd (.inl rfl) hi hx hdb hcb hT
  rw [← hbody] at B
  refine wpAny_mono B (fun fl s' hs => ?_) fun e s' hs => hs
  obtain ⟨f', c', H1, J, rfl, e1, e2, e3, e4, e5, e6⟩ := hs
  rw [X0] at e5 e6
  generalize hcl : cloFrom (cxOf CX P w K mg base N qual scope f (.ref c) A outer s H E).env.cells (C8.fnScope st).names [] = cl at e5
  have hcells : ∀ y ∈ (C8.fnScope st).names, y.2 = .free → ∃ a, (cxOf CX P w K mg base N qual scope f (.ref c) A outer s H E).env.cells.lookup y.1 = some a := fun y hy e => J.ok.has _ (.inl (hfree y hy e))
  have clm : ∀ y a, cl.lookup y = some a → (cxOf CX P w K mg base N qual scope f (.ref c) A outer s H E).env.cells.lookup y = some a := fun y a e => clo_cm hcells (by rw [hcl]; exact e)
  have clf : ∀ y a, (y, a) ∈ cl → y ∈ fr ∧ cl.lookup y = some a := fun y a m => by
    rw [← hcl] at m
    rcases cloFrom_mem m with z | ⟨z1, z2⟩
    · cases z
    · obtain ⟨a1, h1⟩ := hcells _ z1 rfl
      have h1 : (cxOf CX P w K mg base N qual scope f (.ref c) A outer s H E).env.cells.lookup y = some a1 := h1
      have h2 := clo_has hcells z1 h1
      rw [hcl] at h2
      have e : a = a1 := by rw [z2, h1]; rfl
      rw [e]
      exact ⟨hfr2 _ z1 rfl, h2⟩
  -- what each captured name holds
  have val : ∀ y ∈ fr, ∃ a v u, cl.lookup y = some a ∧ L2.RelV v u ∧ s'.heap.IsCell a (some u) ∧ ∀ m : Nat, fr[m]? = some y → (ix.map fun j => vs.getD j .non)[m]? = some v := by
    intro y hy
    obtain ⟨m, hm'⟩ := List.mem_iff_getElem?.mp hy
    have q : (ix.map fun j => ps[j]?)[m]? = some (some y) := by rw [hix, List.getElem?_map, hm']; rfl
    rw [List.getElem?_map] at q
    cases ej : ix[m]? with
    | none => rw [ej] at q; cases q
    | some j =>
      rw [ej] at q
      have hj : ps[j]? = some y := Option.some.inj q
      have hjl : j < ps.length := (List.getElem?_eq_some_iff.mp hj).1
      have hNj : N[j]? = some y := by
        rw [← hj, ← S.pre, List.getElem?_take_of_lt hjl]
      obtain ⟨v, hv⟩ : ∃ v, vs[j]? = some v := ⟨vs[j]'(by omega), by simp [show j < vs.length by omega]⟩
      have hs : ((L2.start N vs).set i (some (V.ref f')))[j]? = some (some v) := by
        rw [List.getElem?_set_ne (by omega)]
        unfold L2.start
        rw [List.getElem?_append_left (by rw [List.length_map]; omega), List.getElem?_map, hv] <;> rfl
      have kc : scope.names.lookup y = some .cell := hfree _ (hfr y hy) rfl
      obtain ⟨mm, hn2, hl2⟩ := J.loc
      obtain ⟨u, ru, lk2⟩ := hl2 j y v hNj hs (.inr (.inl kc))
      rcases lk2 with ⟨z, _⟩ | ⟨_, a, ha2, hcell⟩
      · have z' : scope.names.lookup y = some .local := z
        rw [kc] at z'; cases z'
      · have h2 := clo_has hcells (hfr y hy) ha2
        rw [hcl] at h2
        refine ⟨a, v, u, h2, ru, hcell, fun m' hm2 => ?_⟩
        -- any place of y
        have q2 : (ix.map fun j => ps[j]?)[m']? = some (some y) := by rw [hix, List.getElem?_map, hm2]; rfl
        rw [List.getElem?_map] at q2
        cases ej2 : ix[m']? with
        | none => rw [ej2] at q2; cases q2
        | some j2 =>
          rw [ej2] at q2
          have hj2 : ps[j2]? = some y := Option.some.inj q2
          have ndP : ps.Nodup := by rw [← S.pre]; exact S.nd.sublist (List.take_sublist _ _)
          have : j2 = j := L2.nodup_ix ndP hj2 hj
          subst this
          rw [List.getElem?_map, ej2]
          show some (vs.getD j2 .non) = some v
          rw [List.getD_eq_getElem?_getD, hv] <;> rfl
  let pick : Addr → HO := fun a => cellO a (match cl.find? (fun p => p.2 == a) with | some p => (match fr.findIdx? (fun z => z == p.1) with | some m => (ix.map fun j => vs.getD j .non).getD m .non | none => .non) | none => .non)
  have pick_of : ∀ y a, cl.lookup y = some a → ∀ v, (∀ m : Nat, fr[m]? = some y → (ix.map fun j => vs.getD j .non)[m]? = some v) → y ∈ fr → pick a = cellO a v := by
    intro y a hya v hv hy
    show cellO a _ = cellO a v
    have hmem : (y, a) ∈ cl := PySem.mem_of_lookup hya
    cases ef : cl.find? (fun p => p.2 == a) with
    | none =>
      have := List.find?_eq_none.mp ef (y, a) hmem
      simp at this
    | some p =>
      have hp1 := List.find?_some ef
      have hp2 := List.mem_of_find?_eq_some ef
      have e1 : p.2 = a := by simpa using hp1
      obtain ⟨hpf, hpl⟩ := clf p.1 p.2 hp2
      rw [e1] at hpl
      have ey : p.1 = y := J.ok.inj _ _ _ (clm _ _ hpl) (clm _ _ hya)
      show cellO a (match fr.findIdx? (fun z => z == p.1) with | some m => (ix.map fun j => vs.getD j .non).getD m .non | none => .non) = cellO a v
      rw [ey]
      cases ei : fr.findIdx? (fun z => z == y) with
      | none =>
        have := List.findIdx?_eq_none_iff.mp ei y hy
        simp at this
      | some m =>
        obtain ⟨hm1, hm2, _⟩ := List.findIdx?_eq_some_iff_getElem.mp ei
        have e2 : fr[m] = y := by simpa using hm2
        have := hv m (by rw [List.getElem?_eq_getElem hm1, e2])
        show cellO a ((ix.map fun j => vs.getD j .non).getD m .non) = cellO a v
        rw [List.getD_eq_getElem?_getD, this] <;> rfl
  have offc : ∀ a, a ∈ cl.map (·.2) → H1 a = none ∧ s.heap.objs.size ≤ a := fun a m => by
    obtain ⟨p, hp, rfl⟩ := List.mem_map.mp m
    obtain ⟨_, h2⟩ := clf p.1 p.2 hp
    exact ⟨J.freeC _ _ (clm _ _ h2), J.ok.cab _ _ rfl (clm _ _ h2)⟩
  have hok2 : HOk P w (track cl pick H1) s'.heap := track_ok J.hok fun a m _ => by
    obtain ⟨p, hp, rfl⟩ := List.mem_map.mp m
    obtain ⟨hy, h2⟩ := clf p.1 p.2 hp
    obtain ⟨a', v, u, h3, h4, h5, h6⟩ := val p.1 hy
    rw [h2] at h3
    cases h3
    rw [pick_of _ _ h2 v h6 hy]
    exact cellO_ok h4 h5
  have un2 : Un (frs outer) [] H (track cl pick H1) s.heap s'.heap := by
    have u := J.base
    refine ⟨u.keep, u.slot, fun b o q n hb => ?_, u.there, fun b xs q => track_some (u.tups b xs q), fun b o xs q => track_some (u.frzs b o xs q), fun b xs q => ?_⟩
    · rw [track_out fun m => absurd (Heap.lt_size q) (Nat.not_lt.mpr (offc b m).2)]
      exact u.free b o q n hb
    · obtain ⟨more, h2⟩ := u.tbls b xs q
      exact ⟨more, track_some h2⟩
  refine ⟨.ref f', track cl pick H1, J.os, J.bare, un2, hok2, rfl, hend f' _ cl c' (fun b o q n => track_some (e1 b o q n)) (fun b q => e2 b (track_none q).1) (e3.ext fun b o q => track_some q) e4 ?_⟩
  refine ⟨track_some e5, track_some e6, ?_, fun y a e => ?_, fun x y a h1 h2 => J.ok.inj _ _ _ (clm _ _ h1) (clm _ _ h2), fun m y e => ?_⟩
  · have := congrArg List.length hix
    rw [List.length_map, List.length_map] at this
    rw [List.length_map]; exact this
  · have m : a ∈ cl.map (·.2) := List.mem_map.mpr ⟨(y, a), e, rfl⟩
    exact ⟨_, track_cell (offc a m).1 m⟩
  · have hy := List.mem_of_getElem? e
    obtain ⟨a, v, u, h3, h4, h5, h6⟩ := val y hy
    have m' : a ∈ cl.map (·.2) := List.mem_map.mpr ⟨(y, a), PySem.mem_of_lookup h3, rfl⟩
    refine ⟨a, v, h3, h6 m e, ?_⟩
    rw [track_cell (offc a m').1 m', pick_of _ _ h3 v h6 hy]

/-! ### such a function called -/
def untrack (cl : List (Str × Addr)) (H : Hp) : Hp := fun b => if b ∈ cl.map (·.2) then none else H b
def retrack (cl : List (Str × Addr)) (H H' : Hp) : Hp := fun b => match H' b with
  | some o => some o
  | none => if b ∈ cl.map (·.2) then H b else none
theorem retrack_some {cl : List (Str × Addr)} {H H' : Hp} {b : Addr} {o : HO} (h : H' b = some o) : retrack cl H H' b = some o := by unfold retrack; rw [h]
theorem retrack_cell {cl : List (Str × Addr)} {H H' : Hp} {b : Addr} (h : H' b = none) (m : b ∈ cl.map (·.2)) : retrack cl H H' b = H b := by unfold retrack; rw [h]; exact if_pos m
theorem retrack_out {cl : List (Str × Addr)} {H H' : Hp} {b : Addr} (m : b ∉ cl.map (·.2)) : retrack cl H H' b = H' b := by
  unfold retrack
  cases h : H' b with
  | some o => rfl
  | none => exact if_neg m
theorem untrack_out {cl : List (Str × Addr)} {H : Hp} {b : Addr} (m : b ∉ cl.map (·.2)) : untrack cl H b = H b := if_neg m
theorem untrack_in {cl : List (Str × Addr)} {H : Hp} {b : Addr} (m : b ∈ cl.map (·.2)) : untrack cl H b = none := if_pos m
theorem untrack_some {cl : List (Str × Addr)} {H : Hp} {b : Addr} {o : HO} (h : untrack cl H b = some o) : b ∉ cl.map (·.2) ∧ H b = some o := by
  unfold untrack at h
  by_cases m : b ∈ cl.map (·.2)
  · rw [if_pos m] at h; cases h
  · rw [if_neg m] at h; exact ⟨m, h⟩
/-- no function, no cell -/
def Low : HO → Prop
  | .ext _ => False
  | _ => True
/-- what such a function promises; fin hands its end back to the caller's heap -/
structure COk (P : Program) (w : World) (K : PySem.W.Frag) (mg : Str → Option Value) (base : Heap) (CX : CXT) (k : Nat) (st : Stmt) (nm qual : Str) (ps fr : List Str) (sp : List V → Sp) : Prop where
  len : ∀ ws vs H Q E, sp ws vs H Q E → vs.length = ps.length
  run : ∀ (A : Around) (outer : List Env) (s : Shared) (H : Hp) (us : List Value) (vs : List V) (f : Addr) (cl : List (Str × Addr)) (c' : Addr) (ws : List V) (Q : VK) (E : XK), Room k A → Env0 P w K mg base A outer s H → Clo H f st nm qual fr ws cl c' → Vals vs us → sp ws vs H Q E →
    codeAny (model P w) A (.call (.ref f) ⟨us, []⟩) (CR CX0 outer P w H s Q E) s
theorem clo_mem {H : Hp} {f : Addr} {st : Stmt} {nm qual : Str} {fr : List Str} {ws : List V} {cl : List (Str × Addr)} {c' : Addr} (C : Clo H f st nm qual fr ws cl c') {b : Addr} (m : b ∈ cl.map (·.2)) : ∃ v, H b = some (cellO b v) := by
  obtain ⟨p, hp, rfl⟩ := List.mem_map.mp m
  exact C.cells p.1 p.2 hp
theorem cok_of {k : Nat} {st : Stmt} {nm qual : Str} {N ps fr : List Str} {sp : List V → Sp} (S : NScope N ps fr (C8.fnScope st))
    (hb : ∀ (cl : List (Str × Addr)) (c' : Addr) (doc pm ctv : Value) (us : List Value), us.length = ps.length → bindArgs ((NF.of st nm qual cl c').fd doc pm ctv) ⟨us, []⟩ = pure (ps.zip us)) (len : ∀ ws vs H Q E, sp ws vs H Q E → vs.length = ps.length)
    (hbody : ∀ (A : Around) (outer : List Env) (s : Shared) (f : Addr) (cl : List (Str × Addr)) (c' : Addr) (H H0 : Hp) (vs : List V) (ws : List V) (Q Q0 : VK) (E : XK), Room k (A.deeper (envF (NF.of st nm qual cl c') f s.heap.objs.size)) → sp ws vs H Q E → ws.length = fr.length →
      (∀ b o, H b = some o → Low o → H0 b = some o) → (∀ (v : V) (M : List Addr) (H2 : Hp), Stp M H0 H2 → (∀ H', Stp M H H' → (∀ b o, H2 b = some o → H' b = some o) → Q v H') → Q0 v H2) →
      ∃ t, PSs (ncx CX0 P w K mg base N (NF.of st nm qual cl c') f A outer s H0 E) (C8.fnBody st) t ∧ t { nx := fun _ H' => Q0 .non H', rt := Q0 } (startF N vs (ws.map some)) H0) :
    COk P w K mg base CX (k + 1) st nm qual ps fr sp := by
  refine ⟨len, fun A outer s H us vs f cl c' ws Q E hr e0 C r hsp => ?_⟩
  have cellN : ∀ b, b ∈ cl.map (·.2) → ∃ v, H b = some (cellO b v) := fun b m => clo_mem C m
  have lo : ∀ b o, H b = some o → (∀ v, o ≠ cellO b v) → untrack cl H b = some o := fun b o e n => by
    rw [untrack_out fun m => ?_]
    · exact e
    · obtain ⟨v, hv⟩ := cellN b m
      rw [e] at hv
      exact n v (Option.some.inj hv)
  have nf : untrack cl H f = some (FnO f (NF.of st nm qual cl c')) := by
    have ho := fnO_at e0.hok C.fn
    rw [untrack_out fun m => ?_]
    · exact C.fn
    · obtain ⟨v, hv⟩ := cellN f m
      obtain ⟨u, _, o, h1, h2⟩ := cellO_at e0.hok hv
      obtain ⟨od, sl, doc, pm, ctv, h3⟩ := ho
      rw [h1] at h3
      cases h3
      cases h2
  have nc : untrack cl H c' = some (CodeO c' qual) := by
    have ho := codeO_at e0.hok C.code
    rw [untrack_out fun m => ?_]
    · exact C.code
    · obtain ⟨v, hv⟩ := cellN c' m
      obtain ⟨u, _, o, h1, h2⟩ := cellO_at e0.hok hv
      obtain ⟨c2, oc, vs2, t, e1, h3, h4, _⟩ := ho
      cases e1
      rw [h1] at h3
      cases h3
      rw [h2] at h4
      cases h4
  have hok0 : HOk P w (untrack cl H) s.heap := fun b o e => by
    obtain ⟨m, e⟩ := untrack_some e
    refine (e0.hok b o e).stay (fun _ _ _ z => z) (fun d z => lo d _ z fun v q => ?_) fun d xs z => lo d _ z fun v q => ?_
    · cases q
    · cases q
  have env0 : Env0 P w K mg base A outer s (untrack cl H) := ⟨e0.frames, e0.mod, fun b o e => ⟨(e0.bs b o e).1, by
      unfold untrack
      split
      · rfl
      · exact (e0.bs b o e).2⟩, e0.bsz, e0.funs, fun b hb => by
      unfold untrack
      split
      · rfl
      · exact e0.frf b hb, hok0, e0.bare⟩
  have cells : CellsAt cl fr (ws.map some) s.heap (untrack cl H) := by
    refine ⟨by rw [List.length_map]; exact C.len, fun y a e => ?_, C.inj, fun i y e => ?_⟩
    · have m : a ∈ cl.map (·.2) := List.mem_map.mpr ⟨(y, a), PySem.mem_of_lookup e, rfl⟩
      obtain ⟨v, hv⟩ := cellN a m
      obtain ⟨u, _, z⟩ := cellO_at e0.hok hv
      exact ⟨untrack_in m, _, z⟩
    · obtain ⟨a, v, h1, h2, h3⟩ := C.has i y e
      refine ⟨a, h1, fun v' e' => ?_⟩
      rw [List.getElem?_map, h2] at e'
      cases e'
      exact cellO_at e0.hok h3
  let Q0 : VK := fun v H2 => (∀ b ∈ cl.map (·.2), H2 b = none) → Q v (retrack cl H H2)
  have nok : NOk P w K mg base CX0 (k + 1) f (NF.of st nm qual cl c') ps fr (fun ws' vs' H' Q' E' => ws' = ws.map some ∧ vs' = vs ∧ H' = untrack cl H ∧ Q' = Q0 ∧ E' = E) := by
    refine nok_of S (hb cl c') (fun _ _ _ _ _ h => by obtain ⟨_, rfl, _⟩ := h; exact len _ _ _ _ _ hsp) fun A1 outer1 s1 H1 vs1 ws1 Q1 E1 hr1 hf hc hl h => ?_
    obtain ⟨rfl, rfl, rfl, rfl, rfl⟩ := h
    refine hbody A1 outer1 s1 f cl c' H _ vs1 ws Q Q0 E1 hr1 hsp C.len (fun b o e n => lo b o e fun v q => ?_) fun v M H2 st2 hq hc2 => ?_
    · subst q; exact n
    · refine hq _ ⟨fun b o e n => ?_, fun b e => ?_⟩ fun b o e => retrack_some e
      · by_cases m : b ∈ cl.map (·.2)
        · rw [retrack_cell (hc2 b m) m]; exact e
        · exact retrack_some (st2.same b o (by rw [untrack_out m]; exact e) n)
      · by_cases m : b ∈ cl.map (·.2)
        · rw [retrack_cell (hc2 b m) m] at e; exact e
        · rw [retrack_out m] at e
          have := st2.dom b e
          rw [untrack_out m] at this
          exact this
  refine codeAny_mono (nok.run A outer s _ us vs _ Q0 E hr env0 nf nc cells r ⟨rfl, rfl, rfl, rfl, rfl⟩) fun rr s' hq => ?_
  cases rr with
  | error e => exact hq
  | ok fl =>
    cases fl with
    | next => exact hq
    | brk => exact hq
    | cont => exact hq
    | ret u =>
      obtain ⟨v, H2, os, bare, un, hok2, rv, q⟩ := hq
      have cellAt : ∀ b, b ∈ cl.map (·.2) → ∃ v u o, H b = some (cellO b v) ∧ L2.RelV v u ∧ s.heap.get? b = some o ∧ o.data = .cell (some u) ∧ untrack cl H b = none := fun b m => by
        obtain ⟨v, hv⟩ := cellN b m
        obtain ⟨u, h1, o, h2, h3⟩ := cellO_at e0.hok hv
        exact ⟨v, u, o, hv, h1, h2, h3, untrack_in m⟩
      have free2 : ∀ b ∈ cl.map (·.2), H2 b = none := fun b m => by
        obtain ⟨v, u, o, h1, h2, h3, h4, h5⟩ := cellAt b m
        exact un.free b o h3 h5 (by simp)
      refine ⟨v, retrack cl H H2, os, bare, ?_, ?_, rv, q free2⟩
      · have un0 : ∀ b, H b = none → untrack cl H b = none := fun b e => by
          unfold untrack
          split
          · rfl
          · exact e
        refine ⟨fun b o e n hb hx => un.keep b o e (un0 b n) hb hx, fun b o e n hb hx => un.slot b o e (un0 b n) hb hx, fun b o e n hx => ?_, un.there, fun b xs e => ?_, fun b o xs e => ?_, fun b xs e => ?_⟩
        · have m : b ∉ cl.map (·.2) := fun m => by
            obtain ⟨v, hv⟩ := cellN b m
            rw [n] at hv; cases hv
          rw [retrack_out m]
          exact un.free b o e (un0 b n) hx
        · exact retrack_some (un.tups b xs (lo b _ e fun v q => by cases q))
        · exact retrack_some (un.frzs b o xs (lo b _ e fun v q => by cases q))
        · obtain ⟨more, h2⟩ := un.tbls b xs (lo b _ e fun v q => by cases q)
          exact ⟨more, retrack_some h2⟩
      · intro b o e
        cases q2 : H2 b with
        | some u2 =>
          rw [retrack_some q2] at e
          cases e
          exact (hok2 b o q2).stay (fun _ _ _ z => z) (fun d z => retrack_some z) fun d xs z => retrack_some z
        | none =>
          by_cases m : b ∈ cl.map (·.2)
          · rw [retrack_cell q2 m] at e
            obtain ⟨v, u, o1, h1, h2, h3, h4, h5⟩ := cellAt b m
            rw [h1] at e
            cases e
            obtain ⟨sl, h6⟩ := un.any h3 h5 (by simp)
            exact cellO_ok h2 ⟨_, h6, h4⟩
          · rw [retrack_out m, q2] at e; cases e

/-- functions that a name may hold, by what they promise -/
structure TelOk (P : Program) (w : World) (K : PySem.W.Frag) (mg : Str → Option Value) (base : Heap) (k : Nat) (at_ : Addr → Hp → Prop) (sp : Addr → Sp) : Prop where
  fn : ∀ (H : Hp) (h : Heap) (f : Addr), HOk P w H h → at_ f H → PySem.W.FnAt f h
  ok : ∀ f vs H Q E, sp f vs H Q E → at_ f H
  run : ∀ (A : Around) (outer : List Env) (s : Shared) (H : Hp) (us : List Value) (vs : List V) (f : Addr) (Q : VK) (E : XK), Room k A → Env0 P w K mg base A outer s H → Vals vs us → sp f vs H Q E →
    codeAny (model P w) A (.call (.ref f) ⟨us, []⟩) (CR CX0 outer P w H s Q E) s
theorem COk.tel {k : Nat} {st : Stmt} {nm qual : Str} {ps fr : List Str} {sp : List V → Sp} (c : COk P w K mg base CX k st nm qual ps fr sp) :
    TelOk P w K mg base k (fun f H => ∃ ws cl c', Clo H f st nm qual fr ws cl c') (fun f vs H Q E => ∃ ws cl c', Clo H f st nm qual fr ws cl c' ∧ sp ws vs H Q E) := by
  refine ⟨fun H h f hok ⟨ws, cl, c', C⟩ => ?_, fun f vs H Q E ⟨ws, cl, c', C, _⟩ => ⟨ws, cl, c', C⟩, fun A outer s H us vs f Q E hr e0 r ⟨ws, cl, c', C, q⟩ => c.run A outer s H us vs f cl c' ws Q E hr e0 C r q⟩
  obtain ⟨od, sl, doc, pm, ctv, ho⟩ := fnO_at hok C.fn
  exact ⟨_, od, _, sl, ho⟩
theorem TelOk.or {k : Nat} {a1 a2 : Addr → Hp → Prop} {s1 s2 : Addr → Sp} (t1 : TelOk P w K mg base k a1 s1) (t2 : TelOk P w K mg base k a2 s2) :
    TelOk P w K mg base k (fun f H => a1 f H ∨ a2 f H) (fun f vs H Q E => s1 f vs H Q E ∨ s2 f vs H Q E) :=
  ⟨fun H h f hok a => a.elim (t1.fn H h f hok) (t2.fn H h f hok), fun f vs H Q E q => q.imp (t1.ok f vs H Q E) (t2.ok f vs H Q E), fun A outer s H us vs f Q E hr e0 r q => q.elim (t1.run A outer s H us vs f Q E hr e0 r) (t2.run A outer s H us vs f Q E hr e0 r)⟩
end
/-- f(..), f a local name -/
def tTel (i : Nat) (at_ : Addr → Hp → Prop) (sp : Addr → Sp) (t : TA) : TE := fun σ H Q => ∃ f, σ[i]? = some (some (.ref f)) ∧ at_ f H ∧ t σ H fun vs H1 => sp f vs H1 Q (fun _ _ _ => False)
section
variable {X : Cx} {k j i : Nat} {at_ : Addr → Hp → Prop} {sp : Addr → Sp} {t : TA} {x : Str} {e : Expr} {es : List Expr} {p pos : Pos}
theorem pe_callTel (c : TelOk X.prog X.w X.K X.mg X.base j at_ sp) (hr : Room k X.A) (hN : X.N[i]? = some x) (hv : Vis X.env.scope x) (ha : PA X (e :: es) t) (hk : j ≤ k := by decide)
    (hd : (x == ("__debug__" : Str)) = false := by decide) (hcd : (x == ("__classdict__" : Str)) = false := by decide)
    (he : starEach (e :: es) X.env = (false, eval e X.env) :: starEach es X.env := by rfl) (hpl : (backTo pos (starEach es X.env)).any (·.1) = false := by rfl) :
    PE X (.Call (.Name x p) (e :: es) [] pos) (tTel i at_ sp t) := by
  refine ⟨fun pins s σ H Q I h => ?_⟩
  obtain ⟨f, hs, hf, ht⟩ := h
  refine wpAny_Call_Name_kw (thn ((pe_var (pos := p) hN hv hd hcd).run pins s σ H (fun v H1 => v = .ref f ∧ H1 = H) I ⟨.ref f, hs, rfl, rfl⟩) fun u s1 ⟨v, H1, I1, r1, q1⟩ => ?_)
  obtain ⟨ev, eH⟩ := q1
  subst ev
  subst eH
  obtain rfl : u = Value.ref f := r1
  refine PySem.W.callWith_F (first := []) (c.fn H1 s1.heap f I1.hok hf) (thn (ha.run pos pins s1 σ H1 _ I1 ht) fun us s2 ⟨vs, H2, I2, r, q⟩ => ⟨c.fn H2 s2.heap f I2.hok (c.ok f vs H2 _ _ q), ?_⟩) he hpl
  show wpAny _ _ (call (.ref f) us) _ _ _
  refine wpAny_call (codeAny_mono (c.run X.A X.stack s2 H2 us vs f Q _ (hr.mono hk) I2.env0 r q) fun r s' hq => ?_)
  cases r with
  | error e => exact hq.elim
  | ok fl =>
    cases fl with
    | ret u => exact I2.after hq
    | next => exact False.elim hq
    | brk => exact False.elim hq
    | cont => exact False.elim hq
theorem r_tel {σ : L2.St} {H : Hp} {Q : VK} {f : Addr} (hs : σ[i]? = some (some (.ref f))) (h : at_ f H) (k : t σ H fun vs H1 => sp f vs H1 Q (fun _ _ _ => False)) : tTel i at_ sp t σ H Q := ⟨f, hs, h, k⟩
end
end SH

set_option Elab.async false
set_option linter.all false
set_option maxRecDepth 100000
set_option maxHeartbeats 4000000
/-! SHE: data, and what == tells of it -/
namespace SH
open PySem PySem.Spec PyProof.Rows L2

/-- Lean values that stand in the heap as data; n: how deep -/
class Enc (α : Type) where
  dec : DecidableEq α
  d : α → PyData
  n : Nat
  lay : ∀ x, (d x).canLay0 = true
  deep : ∀ x, (d x).depth ≤ n
  eqv : ∀ x y, PyData.eqv (d x) (d y) = @decide (x = y) (dec x y)
/-- a tuple of one kind of things -/
structure Tu (α : Type) where
  l : List α
theorem Enc.deepAll {α : Type} [Enc α] : ∀ xs : List α, PyData.depthAll (xs.map Enc.d) ≤ Enc.n α
  | [] => by simp [PyData.depthAll]
  | x :: xs => by
    have h1 := Enc.deep x
    have h2 := Enc.deepAll xs
    simp only [List.map_cons, PyData.depthAll]
    omega
theorem Enc.layAll {α : Type} [Enc α] : ∀ xs : List α, PyData.canLayAll0 (xs.map Enc.d) = true
  | [] => by simp [PyData.canLayAll0]
  | x :: xs => by simp only [List.map_cons, PyData.canLayAll0, Enc.lay x, Enc.layAll xs, Bool.and_self]
theorem Enc.eqvAll {α : Type} [Enc α] : ∀ xs ys : List α, PyData.eqvAll (xs.map Enc.d) (ys.map Enc.d) = @decide (xs = ys) (@instDecidableEqList α Enc.dec xs ys)
  | [], [] => by simp [PyData.eqvAll]
  | x :: xs, [] => by simp [PyData.eqvAll]
  | [], y :: ys => by simp [PyData.eqvAll]
  | x :: xs, y :: ys => by
    rw [List.map_cons, List.map_cons, show PyData.eqvAll (Enc.d x :: xs.map Enc.d) (Enc.d y :: ys.map Enc.d) = (PyData.eqv (Enc.d x) (Enc.d y) && PyData.eqvAll (xs.map Enc.d) (ys.map Enc.d)) by simp only [PyData.eqvAll], Enc.eqv, Enc.eqvAll xs ys]
    have : ∀ (A B C : Prop) (a : Decidable A) (b : Decidable B) (c : Decidable C), (C ↔ A ∧ B) → (@decide A a && @decide B b) = @decide C c := by
      intro A B C a b c h
      by_cases ha : A <;> by_cases hb : B <;> simp [ha, hb, h]
    exact this _ _ _ _ _ _ (by simp)
instance : Enc Int := ⟨inferInstance, .int, 0, fun _ => by simp [PyData.canLay0], fun _ => by simp [PyData.depth], fun x y => by by_cases h : x = y <;> simp [PyData.eqv, h]⟩
instance : Enc Bool := ⟨inferInstance, .bool, 0, fun _ => by simp [PyData.canLay0], fun _ => by simp [PyData.depth], fun x y => by by_cases h : x = y <;> simp [PyData.eqv, h]⟩
instance : Enc Nat := ⟨inferInstance, fun n => .int n, 0, fun _ => by simp [PyData.canLay0], fun _ => by simp [PyData.depth], fun x y => by
  rw [show PyData.eqv (.int (x : Int)) (.int (y : Int)) = ((x : Int) == (y : Int)) by simp only [PyData.eqv]]
  by_cases h : x = y
  · subst h; simp
  · rw [decide_eq_false h]
    exact beq_eq_false_iff_ne.mpr (by omega)⟩
instance {α : Type} [e : Enc α] : Enc (List α) := ⟨@instDecidableEqList α e.dec, fun xs => .list (xs.map Enc.d), Enc.n α + 1, fun xs => by simp only [PyData.canLay0]; exact Enc.layAll xs,
  fun xs => by simp only [PyData.depth]; exact Nat.succ_le_succ (Enc.deepAll xs), fun xs ys => by simp only [PyData.eqv]; exact Enc.eqvAll xs ys⟩
instance {α : Type} [e : Enc α] : Enc (Tu α) := ⟨fun a b => @decidable_of_iff _ (a.l = b.l) (by cases a; cases b; simp) (@instDecidableEqList α e.dec a.l b.l), fun xs => .tuple (xs.l.map Enc.d), Enc.n α + 1, fun xs => by simp only [PyData.canLay0]; exact Enc.layAll xs.l,
  fun xs => by simp only [PyData.depth]; exact Nat.succ_le_succ (Enc.deepAll xs.l), fun xs ys => by
    simp only [PyData.eqv]
    rw [Enc.eqvAll xs.l ys.l]
    cases xs; cases ys
    simp⟩
instance {α β : Type} [e : Enc α] [f : Enc β] : Enc (α × β) := ⟨@instDecidableEqProd α β e.dec f.dec, fun x => .tuple [Enc.d x.1, Enc.d x.2], max (Enc.n α) (Enc.n β) + 1,
  fun x => by simp only [PyData.canLay0, PyData.canLayAll0, Enc.lay]; rfl,
  fun x => by
    have h1 := Enc.deep x.1
    have h2 := Enc.deep x.2
    simp only [PyData.depth, PyData.depthAll]; omega, fun x y => by
    simp only [PyData.eqv, PyData.eqvAll, Enc.eqv, Bool.and_true]
    obtain ⟨a, b⟩ := x
    obtain ⟨c, d⟩ := y
    by_cases ha : a = c <;> by_cases hb : b = d <;> simp [ha, hb]⟩
/-- three in a tuple -/
structure T3 (α β γ : Type) where
  a : α
  b : β
  c : γ
deriving DecidableEq
instance {α β γ : Type} [e : Enc α] [f : Enc β] [g : Enc γ] : Enc (T3 α β γ) := ⟨@instDecidableEqT3 α β γ e.dec f.dec g.dec, fun x => .tuple [Enc.d x.a, Enc.d x.b, Enc.d x.c], max (Enc.n α) (max (Enc.n β) (Enc.n γ)) + 1,
  fun x => by simp only [PyData.canLay0, PyData.canLayAll0, Enc.lay]; rfl,
  fun x => by
    have h1 := Enc.deep x.a
    have h2 := Enc.deep x.b
    have h3 := Enc.deep x.c
    simp only [PyData.depth, PyData.depthAll]; omega, fun x y => by
    simp only [PyData.eqv, PyData.eqvAll, Enc.eqv, Bool.and_true]
    obtain ⟨a, b, c⟩ := x
    obtain ⟨a', b', c'⟩ := y
    by_cases ha : a = a' <;> by_cases hb : b = b' <;> by_cases hc : c = c' <;> simp [ha, hb, hc]⟩

/-- a text of plain signs -/
abbrev SOk := { s : Str // PyData.canLay0 (.str s) = true }
instance : Enc SOk := ⟨inferInstance, fun s => .str s.1, 0, fun s => s.2, fun _ => by simp [PyData.depth], fun x y => by
  rw [show PyData.eqv (.str x.1) (.str y.1) = (x.1 == y.1) by simp only [PyData.eqv]]
  by_cases h : x = y
  · subst h; simp
  · rw [decide_eq_false h]
    exact beq_eq_false_iff_ne.mpr fun z => h (Subtype.ext z)⟩

mutual
theorem dp_stp {K : PySem.W.Frag} {H H' : Hp} (S : Stp [] H H') : ∀ (d : PyData) (v : V), Dp K H v d → Dp K H' v d
  | .none, _, h => by cases h; exact .non
  | .bool _, _, h => by cases h; exact .bl _
  | .int _, _, h => by cases h; exact .int _
  | .str _, _, h => by cases h; exact .str _
  | .list ds, _, h => by
    cases h with
    | lst hs ha => exact .lst (S.sql0 hs) (dp_stpAll S ds _ ha)
  | .tuple ds, _, h => by
    cases h with
    | tup hs ha => exact .tup (S.sqt0 hs) (dp_stpAll S ds _ ha)
  | .dict _, _, h => by cases h
theorem dp_stpAll {K : PySem.W.Frag} {H H' : Hp} (S : Stp [] H H') : ∀ (ds : List PyData) (vs : List V), DpAll K H vs ds → DpAll K H' vs ds
  | [], _, h => by cases h; exact .nil
  | d :: ds, _, h => by
    cases h with
    | cons h1 h2 => exact .cons (dp_stp S d _ h1) (dp_stpAll S ds _ h2)
end

mutual
/-- no list in it -/
def noL : PyData → Bool
  | .none | .bool _ | .int _ | .str _ => true
  | .tuple xs => noLs xs
  | .list _ => false
  | .dict _ => false
def noLs : List PyData → Bool
  | [] => true
  | x :: xs => noL x && noLs xs
end
mutual
theorem dp_stpM {K : PySem.W.Frag} {M : List Addr} {H H' : Hp} (S : Stp M H H') : ∀ (d : PyData) (v : V), noL d = true → Dp K H v d → Dp K H' v d
  | .none, _, _, h => by cases h; exact .non
  | .bool _, _, _, h => by cases h; exact .bl _
  | .int _, _, _, h => by cases h; exact .int _
  | .str _, _, _, h => by cases h; exact .str _
  | .list _, _, n, _ => by simp [noL] at n
  | .tuple ds, _, n, h => by
    cases h with
    | tup hs ha => exact .tup (S.sqtM hs) (dp_stpMs S ds _ (by simpa [noL] using n) ha)
  | .dict _, _, _, h => by cases h
theorem dp_stpMs {K : PySem.W.Frag} {M : List Addr} {H H' : Hp} (S : Stp M H H') : ∀ (ds : List PyData) (vs : List V), noLs ds = true → DpAll K H vs ds → DpAll K H' vs ds
  | [], _, _, h => by cases h; exact .nil
  | d :: ds, _, n, h => by
    have n' : noL d = true ∧ noLs ds = true := by simpa [noLs] using n
    cases h with
    | cons h1 h2 => exact .cons (dp_stpM S d _ n'.1 h1) (dp_stpMs S ds _ n'.2 h2)
end
class Flat (α : Type) [Enc α] : Prop where
  fl : ∀ x : α, noL (Enc.d x) = true
instance : Flat Int := ⟨fun _ => by simp [Enc.d, noL]⟩
instance : Flat Nat := ⟨fun _ => by simp [Enc.d, noL]⟩
instance : Flat Bool := ⟨fun _ => by simp [Enc.d, noL]⟩
instance : Flat SOk := ⟨fun _ => by simp [Enc.d, noL]⟩
instance {α β : Type} [Enc α] [Enc β] [Flat α] [Flat β] : Flat (α × β) := ⟨fun x => by simp only [Enc.d, noL, noLs, Flat.fl]; rfl⟩
instance {α β γ : Type} [Enc α] [Enc β] [Enc γ] [Flat α] [Flat β] [Flat γ] : Flat (T3 α β γ) := ⟨fun x => by simp only [Enc.d, noL, noLs, Flat.fl]; rfl⟩
theorem noLs_map {α : Type} [Enc α] [Flat α] : ∀ xs : List α, noLs (xs.map Enc.d) = true
  | [] => by simp [noLs]
  | x :: xs => by simp only [List.map_cons, noLs, Flat.fl, noLs_map xs, Bool.and_self]
instance {α : Type} [Enc α] [Flat α] : Flat (Tu α) := ⟨fun x => by simp only [Enc.d, noL]; exact noLs_map x.l⟩

/-- v is x, in the heap H -/
def Is {α : Type} [Enc α] (K : PySem.W.Frag) (H : Hp) (v : V) (x : α) : Prop := Dp K H v (Enc.d x)
def IsL {α : Type} [Enc α] (K : PySem.W.Frag) (H : Hp) (vs : List V) (xs : List α) : Prop := DpAll K H vs (xs.map Enc.d)
section
variable {K : PySem.W.Frag} {H H' : Hp} {α β γ : Type} [Enc α] [Enc β] [Enc γ] {p : Addr} {vs : List V} {xs : List α} {v u t : V} {x y : α} {b : β} {c : γ} {Q : VK}
theorem is_int {n : Int} : Is K H (.int n) n := .int n
theorem is_nat {n : Nat} : Is K H (.int n) n := .int n
theorem is_str {s : Str} (h : PyData.canLay0 (.str s) = true) : Is K H (.str s) (⟨s, h⟩ : SOk) := .str s
theorem is_stp (S : Stp [] H H') (h : Is K H v x) : Is K H' v x := dp_stp S _ _ h
theorem isl_stp (S : Stp [] H H') (h : IsL K H vs xs) : IsL K H' vs xs := dp_stpAll S _ _ h
theorem is_stpM [Flat α] {M : List Addr} (S : Stp M H H') (h : Is K H v x) : Is K H' v x := dp_stpM S _ _ (Flat.fl x) h
theorem isl_stpM [Flat α] {M : List Addr} (S : Stp M H H') (h : IsL K H vs xs) : IsL K H' vs xs := dp_stpMs S _ _ (noLs_map xs) h
theorem is_bl {b : Bool} : Is K H (.bl b) b := .bl b
theorem is_lst (h : SqL K H p vs) (k : IsL K H vs xs) : Is K H (.ref p) xs := .lst h k
theorem is_tu (h : SqT K H p vs) (k : IsL K H vs xs) : Is K H (.ref p) (Tu.mk xs) := .tup h k
theorem is_pr (h : SqT K H p [v, u]) (k : Is K H v x) (l : Is K H u b) : Is K H (.ref p) (x, b) := .tup h (.cons k (.cons l .nil))
theorem is_t3 (h : SqT K H p [v, u, t]) (k : Is K H v x) (l : Is K H u b) (m : Is K H t c) : Is K H (.ref p) (T3.mk x b c) := .tup h (.cons k (.cons l (.cons m .nil)))
theorem isl_nil : IsL K H [] ([] : List α) := .nil
theorem isl_cons (h : Is K H v x) (k : IsL K H vs xs) : IsL K H (v :: vs) (x :: xs) := .cons h k
theorem isl_map {f : α → V} (h : ∀ x ∈ xs, Is K H (f x) x) : IsL K H (xs.map f) xs := by
  induction xs with
  | nil => exact .nil
  | cons x xs ih => exact .cons (h x (by simp)) (ih fun y hy => h y (by simp [hy]))
theorem isl_map2 {β : Type} {l : List β} {f : β → V} {g : β → α} (h : ∀ b ∈ l, Is K H (f b) (g b)) : IsL K H (l.map f) (l.map g) := by
  induction l with
  | nil => exact .nil
  | cons x xs ih => exact .cons (h x (by simp)) (ih fun y hy => h y (by simp [hy]))
theorem isl_ints {ns : List Int} : IsL K H (ns.map V.int) ns := isl_map fun _ _ => is_int
theorem isl_nats {ns : List Nat} : IsL K H (ns.map fun n : Nat => V.int n) ns := isl_map fun _ _ => is_nat
theorem isl_bls {ns : List Bool} : IsL K H (ns.map V.bl) ns := isl_map fun _ _ => is_bl
theorem isl_app {vs' : List V} {xs' : List α} (h : IsL K H vs xs) (k : IsL K H vs' xs') : IsL K H (vs ++ vs') (xs ++ xs') := by
  induction vs generalizing xs with
  | nil => cases xs with
    | nil => exact k
    | cons x xs => cases h
  | cons v vs ih => cases xs with
    | nil => cases h
    | cons x xs => cases h with | cons h1 h2 => exact .cons h1 (ih (xs := xs) h2)
theorem isl_len (h : IsL K H vs xs) : vs.length = xs.length := by
  induction vs generalizing xs with
  | nil => cases xs with
    | nil => rfl
    | cons x xs => cases h
  | cons v vs ih => cases xs with
    | nil => cases h
    | cons x xs => cases h with | cons h1 h2 => simp [ih (xs := xs) h2]
theorem isl_at {i : Nat} {v : V} (h : IsL K H vs xs) (e : vs[i]? = some v) : ∃ x, xs[i]? = some x ∧ Is K H v x := by
  induction vs generalizing xs i with
  | nil => cases e
  | cons w vs ih => cases xs with
    | nil => cases h
    | cons x xs => cases h with | cons h1 h2 => cases i with
      | zero => cases e; exact ⟨x, rfl, h1⟩
      | succ i => exact ih (xs := xs) h2 e
theorem isl_get {i : Nat} {x : α} (h : IsL K H vs xs) (e : xs[i]? = some x) : ∃ v, vs[i]? = some v ∧ Is K H v x := by
  induction vs generalizing xs i with
  | nil => cases xs with
    | nil => cases e
    | cons x xs => cases h
  | cons w vs ih => cases xs with
    | nil => cases h
    | cons y xs => cases h with | cons h1 h2 => cases i with
      | zero => cases e; exact ⟨w, rfl, h1⟩
      | succ i => exact ih (xs := xs) h2 e
theorem is_shaped (hn : Enc.n α ≤ 64) : SeqAt.shaped (Enc.d x) = true := by
  unfold SeqAt.shaped
  rw [Enc.lay]
  exact decide_eq_true (Nat.le_trans (Enc.deep x) hn)
theorem v_eqE (h1 : Is K H v x) (h2 : Is K H u y) (k : Q (.bl (@decide (x = y) (Enc.dec x y))) H) (hn : Enc.n α ≤ 64 := by decide) : aEq K v u H Q :=
  v_eqD h1 h2 (is_shaped hn) (is_shaped hn) (by rw [Enc.eqv]; exact k)
theorem v_neE (h1 : Is K H v x) (h2 : Is K H u y) (k : Q (.bl (!@decide (x = y) (Enc.dec x y))) H) (hn : Enc.n α ≤ 64 := by decide) : aNe K v u H Q :=
  v_neD h1 h2 (is_shaped hn) (is_shaped hn) (by rw [Enc.eqv]; exact k)
theorem v_eqL {ns ms : List Int} {q : Addr} (h1 : SqL K H p (ns.map V.int)) (h2 : SqL K H q (ms.map V.int)) (k : Q (.bl (decide (ns = ms))) H) : aEq K (.ref p) (.ref q) H Q :=
  v_eqE (is_lst h1 isl_ints) (is_lst h2 isl_ints) (by rw [show @decide (ns = ms) (Enc.dec ns ms) = decide (ns = ms) by congr]; exact k)
theorem v_neL {ns ms : List Int} {q : Addr} (h1 : SqL K H p (ns.map V.int)) (h2 : SqL K H q (ms.map V.int)) (k : Q (.bl (!decide (ns = ms))) H) : aNe K (.ref p) (.ref q) H Q :=
  v_neE (is_lst h1 isl_ints) (is_lst h2 isl_ints) (by rw [show @decide (ns = ms) (Enc.dec ns ms) = decide (ns = ms) by congr]; exact k)
theorem v_neL0 {ns : List Int} {q : Addr} (h1 : SqL K H p (ns.map V.int)) (h2 : SqL K H q []) (k : Q (.bl (!decide (ns = []))) H) : aNe K (.ref p) (.ref q) H Q := v_neL (ms := []) h1 h2 k
theorem v_ixLast {ys : List V} (h : SqL K H p (ys ++ [v])) (k : Q v H) : aIx K (.ref p) (.int (-1)) H Q := ⟨_, v, .inl h, atI_last ys v, k⟩
theorem v_neN0 {ns : List Nat} {q : Addr} (h1 : SqL K H p (ns.map fun n : Nat => V.int n)) (h2 : SqL K H q []) (k : Q (.bl (!decide (ns = []))) H) : aNe K (.ref p) (.ref q) H Q :=
  v_neE (y := []) (is_lst h1 isl_nats) (is_lst h2 isl_nil) (by rw [show @decide (ns = []) (Enc.dec ns []) = decide (ns = []) by congr]; exact k)
theorem v_ixMod {vs : List V} {c : Int} {m : Nat} (h : SqL K H p vs) (hl : vs.length = m) (hm : 0 < m) (k : ∀ v ∈ vs, Q v H) : aIx K (.ref p) (.int (c % (m : Int))) H Q := by
  have h0 := Int.emod_nonneg c (show (m : Int) ≠ 0 by omega)
  have h1 := Int.emod_lt_of_pos c (show (0 : Int) < m by omega)
  have e : c % (m : Int) = ((c % (m : Int)).toNat : Int) := by omega
  have hlt : (c % (m : Int)).toNat < vs.length := by omega
  exact v_ixLn h e (List.getElem?_eq_getElem hlt) (k _ (List.getElem_mem hlt))
theorem v_ixAny {vs : List V} {i : Int} {n : Nat} (h : SqL K H p vs) (e : i = n) (hn : n < vs.length) (k : ∀ v ∈ vs, Q v H) : aIx K (.ref p) (.int i) H Q := v_ixLn h e (List.getElem?_eq_getElem hn) (k _ (List.getElem_mem hn))
/-- all are ints -/
def Ints (vs : List V) : Prop := ∀ v ∈ vs, ∃ n : Int, v = .int n
theorem ints_nil : Ints [] := fun _ h => by cases h
theorem ints_cons {n : Int} {vs : List V} (h : Ints vs) : Ints (.int n :: vs) := fun v hv => by
  rcases List.mem_cons.mp hv with rfl | hv
  · exact ⟨n, rfl⟩
  · exact h v hv
/-- a place of a list of ints -/
def getE (es : List Int) (i : Nat) : Int := es.getD i 0
theorem getE_at {es : List Int} {i : Nat} (h : i < es.length) : (es.map V.int)[i]? = some (V.int (getE es i)) := by simp [getE, h]
theorem getE_app {es : List Int} {i : Nat} {y : Int} (h : i < es.length) : getE (es ++ [y]) i = getE es i := by simp [getE, List.getElem?_append, h]
theorem getE_last {es : List Int} {i : Nat} {y : Int} (h : es.length = i) : getE (es ++ [y]) i = y := by subst h; simp [getE]
theorem v_ixE {es : List Int} {i : Int} {n : Nat} (h : SqL K H p (es.map V.int)) (e : i = n) (hn : n < es.length) (k : Q (.int (getE es n)) H) : aIx K (.ref p) (.int i) H Q := v_ixLn h e (getE_at hn) k
theorem v_ixTE {es : List Int} {i : Int} {n : Nat} (h : SqT K H p (es.map V.int)) (e : i = n) (hn : n < es.length) (k : Q (.int (getE es n)) H) : aIx K (.ref p) (.int i) H Q := v_ixTn h e (getE_at hn) k
theorem v_ixEl {es : List Int} {n : Nat} (h : SqL K H p (es.map V.int)) (e : es.length = n + 1) (k : Q (.int (getE es n)) H) : aIx K (.ref p) (.int (-1)) H Q := by
  rcases List.eq_nil_or_concat es with z | ⟨ys, y, z⟩
  · subst z; cases e
  · have hz : es = ys ++ [y] := by simpa using z
    subst hz
    rw [List.map_append] at h
    have hl : ys.length = n := by simpa using e
    rw [getE_last hl] at k
    exact v_ixLast h k
theorem v_eqLL {ns ms : List Int} {q : Addr} (h1 : SqL K H p (ns.map V.int)) (h2 : SqL K H q (ms.map V.int)) (e : ns = ms) (k : Q (.bl true) H) : aEq K (.ref p) (.ref q) H Q := v_eqL h1 h2 (by rw [decide_eq_true e]; exact k)
theorem v_lenQ {n : Nat} (h : SqL K H p vs) (e : vs.length = n) (k : Q (.int n) H) : aLen K [.ref p] H Q := ⟨_, .inl h, by rw [e]; exact k⟩
theorem v_lenU {n : Nat} (h : SqT K H p vs) (e : vs.length = n) (k : Q (.int n) H) : aLen K [.ref p] H Q := ⟨_, .inr h, by rw [e]; exact k⟩
/-- tuple(xs) -/
theorem v_tuL (h : SqL K H p vs) (k : ∀ l, H l = none → Q (.ref l) (upd H l (.tup vs))) : ∃ p' ys, [V.ref p] = [.ref p'] ∧ ((SqL K H p' ys ∧ ∀ l, H l = none → Q (.ref l) (upd H l (.tup ys))) ∨ (SqT K H p' ys ∧ Q (.ref p') H)) := ⟨p, vs, rfl, .inl ⟨h, k⟩⟩
/-- xs.pop(i) -/
theorem v_popAt {i : Int} {n : Nat} (h : H p = some (.lst vs)) (e : i = n) (hn : n < 1000000) (hv : vs[n]? = some v) (k : Q v (upd H p (.lst (vs.eraseIdx n)))) : rPopAt (.ref p) [.int i] H Q := by
  refine ⟨p, vs, i, n, v, rfl, rfl, h, by omega, by omega, ?_, hv, k⟩
  subst e
  exact (ixN_seq (ixN_n (List.getElem?_eq_some_iff.mp hv).1)).1
/-- sorted(xs), ints -/
theorem v_sortI {ns : List Int} (h : SqL K H p (ns.map V.int)) (k : ∀ (ns' : List Int) (q : Addr), ns'.Perm ns → ns'.Pairwise (· ≤ ·) → H q = none → Q (.ref q) (upd H q (.lst (ns'.map V.int)))) : rSortedI K [.ref p] H Q := ⟨p, ns, rfl, h, k⟩
/-- list(range(n)) -/
def kLrg1 (Q : VK) : VK := fun x H1 => ∃ n : Int, x = .int n ∧ RgOk 0 n ∧ ∀ q, H1 q = none → Q (.ref q) (upd H1 q (.lst (rgV 0 n)))
theorem r_lrg1 {ta : TE} {σ : L2.St} (h : ta σ H (kLrg1 Q)) : tLstRg (tRg1 ta) σ H Q := h
theorem rgV_nat (n : Nat) : rgV 0 (n : Int) = (List.range n).map fun i : Nat => V.int i := by unfold rgV; simp
theorem v_lrg1 {i : Int} {n : Nat} (e : i = n) (hn : n ≤ 1000000) (k : ∀ q, H q = none → Q (.ref q) (upd H q (.lst ((List.range n).map fun i : Nat => V.int i)))) : kLrg1 Q (.int i) H := by
  refine ⟨i, rfl, RgOk.of_le (by omega) (by omega) (by omega) (by omega), ?_⟩
  rw [e, rgV_nat]
  exact k
def kLrg2 (Q : VK) (x : V) : VK := fun y H2 => ∃ i j : Int, x = .int i ∧ y = .int j ∧ RgOk i j ∧ ∀ q, H2 q = none → Q (.ref q) (upd H2 q (.lst (rgV i j)))
theorem r_lrg2 {ta tb : TE} {σ : L2.St} (h : ta σ H fun x H1 => tb σ H1 (kLrg2 Q x)) : tLstRg (tRg2 ta tb) σ H Q := h
theorem rgV_nats (n m : Nat) : rgV (n : Int) (m : Int) = (List.range' n (m - n)).map fun i : Nat => V.int i := by
  unfold rgV
  rw [show ((m : Int) - (n : Int)).toNat = m - n by omega, List.range'_eq_map_range, List.map_map]
  exact List.map_congr_left fun i _ => by simp
theorem v_lrg2 {i j : Int} {n m : Nat} (e : i = n) (e2 : j = m) (hn : n ≤ 1000000) (hm : m ≤ 1000000) (k : ∀ q, H q = none → Q (.ref q) (upd H q (.lst ((List.range' n (m - n)).map fun i : Nat => V.int i)))) : kLrg2 Q (.int i) (.int j) H := by
  refine ⟨i, j, rfl, rfl, RgOk.of_le (by omega) (by omega) (by omega) (by omega), ?_⟩
  rw [e, e2, rgV_nats]
  exact k
end
section
variable {X : Cx} {a b : Expr} {ta tb : TE} {p p2 pos pos2 : Pos}
theorem pe_listrange (hg : Gl X "list") (hm : X.mg "list" = none) (hg2 : Gl X "range") (hm2 : X.mg "range" = none) (ha : PE X a ta) (hc : X.calm = true := by rfl) (na : starEach [a] X.env = (false, eval a X.env) :: starEach [] X.env := by rfl)
    (na2 : starEach [.Call (.Name "range" p2) [a] [] pos2] X.env = (false, eval (.Call (.Name "range" p2) [a] [] pos2) X.env) :: starEach [] X.env := by rfl) : PE X (.Call (.Name "list" p) [.Call (.Name "range" p2) [a] [] pos2] [] pos) (tLstRg (tRg1 ta)) :=
  pe_listRg hc hg hm (prg_1 hg2 hm2 ha na) na2
theorem pe_listrange2 (hg : Gl X "list") (hm : X.mg "list" = none) (hg2 : Gl X "range") (hm2 : X.mg "range" = none) (ha : PE X a ta) (hb : PE X b tb) (hc : X.calm = true := by rfl) (na : starEach [a, b] X.env = (false, eval a X.env) :: starEach [b] X.env := by rfl)
    (nb : starEach [b] X.env = (false, eval b X.env) :: starEach [] X.env := by rfl) (hp : (backTo pos2 (starEach [b] X.env)).any (·.1) = false := by rfl)
    (na2 : starEach [.Call (.Name "range" p2) [a, b] [] pos2] X.env = (false, eval (.Call (.Name "range" p2) [a, b] [] pos2) X.env) :: starEach [] X.env := by rfl) : PE X (.Call (.Name "list" p) [.Call (.Name "range" p2) [a, b] [] pos2] [] pos) (tLstRg (tRg2 ta tb)) :=
  pe_listRg hc hg hm (prg_2 hg2 hm2 ha hb na nb hp) na2
end
section
variable {C : Addr} {m : Str} {sp : Sp} {dvs vs : List V} {E : XK} {ta : TE} {t : TA} {σ : L2.St} {H : Hp} {Q : VK} {a dx : Addr} {fs : List (Str × V)}
def kMeth (C : Addr) (m : Str) (sp : Sp) (dvs : List V) (E : XK) (t : TA) (σ : L2.St) (Q : VK) : VK := fun x H1 => ∃ a dx fs, x = .ref a ∧ H1 a = some (.ins C dx fs) ∧ fs.lookup m = none ∧ t σ H1 fun vs H2 => sp (x :: (vs ++ dvs)) H2 Q E
theorem r_meth (h : ta σ H (kMeth C m sp dvs E t σ Q)) : tMeth C m sp dvs E ta t σ H Q := h
theorem v_meth (h : H a = some (.ins C dx fs)) (l : fs.lookup m = none) (k : t σ H fun vs H2 => sp (.ref a :: (vs ++ dvs)) H2 Q E) : kMeth C m sp dvs E t σ Q (.ref a) H := ⟨a, dx, fs, rfl, h, l, k⟩
def kMake (C : Addr) (sp : Sp) (dvs : List V) (E : XK) (Q : VK) : List V → Hp → Prop := fun vs H1 => ∀ x dx, H1 x = none → H1 dx = none → dx ≠ x → sp (.ref x :: (vs ++ dvs)) (upd (upd H1 dx (.own x)) x (.ins C dx [])) (fun v H2 => v = .non ∧ Q (.ref x) H2) E
theorem r_make (h : t σ H (kMake C sp dvs E Q)) : tMake C sp dvs E t σ H Q := h
theorem v_make (k : ∀ x dx, H x = none → H dx = none → dx ≠ x → sp (.ref x :: (vs ++ dvs)) (upd (upd H dx (.own x)) x (.ins C dx [])) (fun v H2 => v = .non ∧ Q (.ref x) H2) E) : kMake C sp dvs E Q vs H := k
theorem isi_bl_int {K : PySem.W.Frag} {b : Bool} (k : Q (.bl true) H) : rIsi K [.bl b, .ty "int"] H Q := ⟨.bl b, .ty "int", .type "bool", .type "int", true, rfl, .ty _, .base (.bl b), by rfl, k⟩
theorem isi_bl_bool {K : PySem.W.Frag} {b : Bool} (k : Q (.bl true) H) : rIsi K [.bl b, .ty "bool"] H Q := ⟨.bl b, .ty "bool", .type "bool", .type "bool", true, rfl, .ty _, .base (.bl b), by rfl, k⟩
theorem isi_L {K : PySem.W.Frag} {xs : List V} (h : H a = some (.lst xs)) (k : Q (.bl true) H) : rIsi K [.ref a, .ty "list"] H Q := ⟨.ref a, .ty "list", .type "list", .type "list", true, rfl, .ty _, .base (.lst h), by rfl, k⟩
theorem isi_T {K : PySem.W.Frag} {xs : List V} (h : H a = some (.tup xs)) (k : Q (.bl true) H) : rIsi K [.ref a, .ty "tuple"] H Q := ⟨.ref a, .ty "tuple", .type "tuple", .type "tuple", true, rfl, .ty _, .base (.tup h), by rfl, k⟩
end
section
variable {f g : Str} {v x : V} {r r' : List (Str × V)} {a1 a2 a3 a4 a5 a6 : Str × V}
theorem pf_nil : putF f v [] = [(f, v)] := rfl
theorem pf_hit : putF f v ((f, x) :: r) = (f, v) :: r := by simp [putF]
theorem pf_miss (h : g ≠ f) (k : putF f v r = r') : putF f v ((g, x) :: r) = (g, x) :: r' := by simp [putF, h, k]
theorem few0 : ([] : List (Str × V)).length < 1000 := by simp
theorem few1 : [a1].length < 1000 := by simp
theorem few2 : [a1, a2].length < 1000 := by simp
theorem few3 : [a1, a2, a3].length < 1000 := by simp
theorem few4 : [a1, a2, a3, a4].length < 1000 := by simp
theorem few5 : [a1, a2, a3, a4, a5].length < 1000 := by simp
theorem few6 : [a1, a2, a3, a4, a5, a6].length < 1000 := by simp
end
theorem mul64 {i j : Int} (h : -18446744073709551616 < i ∧ i < 18446744073709551616) (k : -18446744073709551616 < j ∧ j < 18446744073709551616) : IntMulOk i j :=
  (mulx_ok (a := 64) (b := 64) (by have : (2 : Nat) ^ 64 = 18446744073709551616 := by decide
                                   omega) (by have : (2 : Nat) ^ 64 = 18446744073709551616 := by decide
                                              omega) (by decide)).ok
theorem ne_of_none' {H : Hp} {a p : Addr} {o : HO} (hp : H p = none) (h : H a = some o) : a ≠ p := ne_of_none h hp
theorem r_ty {K : PySem.W.Frag} {H : Hp} {p : Addr} {xs : List V} {B : Prop} (h : H p = some (.lst xs)) (k : B) : tyV K "list" (.ref p) H ∧ B := ⟨ty_list h, k⟩
/-! built-ins by names of their own -/
def rListOf (K : PySem.W.Frag) : List V → Hp → VK → Prop := fun xs H Q => ∃ p ys, xs = [.ref p] ∧ (SqL K H p ys ∨ SqT K H p ys) ∧ ∀ l, H l = none → Q (.ref l) (upd H l (.lst ys))
def rTupOf (K : PySem.W.Frag) : List V → Hp → VK → Prop := fun xs H Q => ∃ p ys, xs = [.ref p] ∧ ((SqL K H p ys ∧ ∀ l, H l = none → Q (.ref l) (upd H l (.tup ys))) ∨ (SqT K H p ys ∧ Q (.ref p) H))
def rMax2 : List V → Hp → VK → Prop := fun xs H Q => ∃ i j, xs = [.int i, .int j] ∧ Q (.int (if j > i then j else i)) H
def rMin2 : List V → Hp → VK → Prop := fun xs H Q => ∃ i j, xs = [.int i, .int j] ∧ Q (.int (if j < i then j else i)) H
def rIns : V → List V → Hp → VK → Prop := fun x vs H Q => ∃ (l : Addr) (xs : List V) (i : Int) (y : V), x = .ref l ∧ vs = [.int i, y] ∧ H l = some (.lst xs) ∧ xs.length < sizeLine ∧ 0 ≤ i ∧ i < 2 ^ 63 ∧ Q .non (upd H l (.lst (xs.take i.toNat ++ [y] ++ xs.drop i.toNat)))
section
variable {X : Cx} {K : PySem.W.Frag} {H : Hp} {Q : VK} {p : Addr} {vs : List V} {v : V} {i j : Int}
theorem cListOf : CallR X (.type "list") (rListOf X.K) := call_list_of
theorem cTupOf : CallR X (.type "tuple") (rTupOf X.K) := call_tuple_of
theorem cMax2 (hc : X.calm = true) : CallR X (.builtin "max") rMax2 := call_max2 hc
theorem cMin2 (hc : X.calm = true) : CallR X (.builtin "min") rMin2 := call_min2 hc
theorem mIns : MtR X "list.insert" rIns := mt_insert
theorem w_listL (h : SqL K H p vs) (k : ∀ l, H l = none → Q (.ref l) (upd H l (.lst vs))) : rListOf K [.ref p] H Q := ⟨p, vs, rfl, .inl h, k⟩
theorem w_listT (h : SqT K H p vs) (k : ∀ l, H l = none → Q (.ref l) (upd H l (.lst vs))) : rListOf K [.ref p] H Q := ⟨p, vs, rfl, .inr h, k⟩
theorem w_tupL (h : SqL K H p vs) (k : ∀ l, H l = none → Q (.ref l) (upd H l (.tup vs))) : rTupOf K [.ref p] H Q := ⟨p, vs, rfl, .inl ⟨h, k⟩⟩
theorem w_tupT (h : SqT K H p vs) (k : Q (.ref p) H) : rTupOf K [.ref p] H Q := ⟨p, vs, rfl, .inr ⟨h, k⟩⟩
theorem w_max (k : Q (.int (if j > i then j else i)) H) : rMax2 [.int i, .int j] H Q := ⟨i, j, rfl, k⟩
theorem w_min (k : Q (.int (if j < i then j else i)) H) : rMin2 [.int i, .int j] H Q := ⟨i, j, rfl, k⟩
theorem w_ins {n : Nat} (h : H p = some (.lst vs)) (e : i = n) (hn : n < 1000000) (hl : vs.length < 1000000) (k : Q .non (upd H p (.lst (vs.take n ++ [v] ++ vs.drop n)))) : rIns (.ref p) [.int i, v] H Q :=
  ⟨p, vs, i, v, rfl, rfl, h, Nat.lt_trans hl (by decide), by omega, by omega, by rw [e]; exact k⟩
theorem w_insI (h : H p = some (.lst vs)) (h0 : 0 ≤ i) (h1 : i < 1000000) (hl : vs.length < 1000000) (k : Q .non (upd H p (.lst (vs.take i.toNat ++ [v] ++ vs.drop i.toNat)))) : rIns (.ref p) [.int i, v] H Q :=
  ⟨p, vs, i, v, rfl, rfl, h, Nat.lt_trans hl (by decide), h0, by omega, k⟩
end
/-! one layer of a heap taken off -/
section
variable {K : PySem.W.Frag} {H : Hp} {a p : Addr} {xs : List V} {o u : HO}
theorem off_old (hp : H p = none) (h : H a = some o) : upd H p u a = some o := upd_old h hp
theorem off_far (n : a ≠ p) (h : H a = some o) : upd H p u a = some o := upd_far n h
theorem sql_off (hp : H p = none) (h : SqL K H a xs) : SqL K (upd H p u) a xs := sql_upd h hp
theorem sql_offar (n : a ≠ p) (h : SqL K H a xs) : SqL K (upd H p u) a xs := sql_far h n
theorem sqt_off (hp : H p = none) (h : SqT K H a xs) : SqT K (upd H p u) a xs := sqt_upd h hp
theorem sqt_offar (n : a ≠ p) (h : SqT K H a xs) : SqT K (upd H p u) a xs := sqt_far h n
end
/-! x is True, for a truth x -/
def aIsB : R2 := fun x y H Q => ∃ b c, x = .bl b ∧ y = .bl c ∧ Q (.bl (decide (b = c))) H
def aNotB : R2 := fun x y H Q => ∃ b c, x = .bl b ∧ y = .bl c ∧ Q (.bl (!decide (b = c))) H
section
variable {X : Cx} {K : PySem.W.Frag} {H : Hp} {Q : VK} {b c : Bool} {x y : V} {d : PyData}
theorem oIsB : OpR X (compareOp .Is) aIsB := by
  intro pins s σ H x y v u Q I rx ry h
  obtain ⟨b, c, rfl, rfl, q⟩ := h
  cases rx
  cases ry
  show wpAny _ _ ((isSame (Value.bool b) (Value.bool c)) >>= fun z => pure (Value.bool z)) _ _ s
  exact wpAny_bind (wpAny_isSame_plain (by rfl) (wpAny_pure (fin_bl I q (by cases b <;> cases c <;> rfl))))
theorem oNotB : OpR X (compareOp .IsNot) aNotB := by
  intro pins s σ H x y v u Q I rx ry h
  obtain ⟨b, c, rfl, rfl, q⟩ := h
  cases rx
  cases ry
  show wpAny _ _ ((isSame (Value.bool b) (Value.bool c)) >>= fun z => pure (Value.bool (!z))) _ _ s
  exact wpAny_bind (wpAny_isSame_plain (by rfl) (wpAny_pure (fin_bl I q (by cases b <;> cases c <;> rfl))))
theorem w_isB (k : Q (.bl (decide (b = c))) H) : aIsB (.bl b) (.bl c) H Q := ⟨b, c, rfl, rfl, k⟩
theorem w_notB (k : Q (.bl (!decide (b = c))) H) : aNotB (.bl b) (.bl c) H Q := ⟨b, c, rfl, rfl, k⟩
mutual
theorem eqv_refl : ∀ d : PyData, d.canLay0 = true → PyData.eqv d d = true
  | .none, _ => by simp [PyData.eqv]
  | .bool _, _ => by simp [PyData.eqv]
  | .int _, _ => by simp [PyData.eqv]
  | .str _, _ => by simp [PyData.eqv]
  | .list ds, h => by simp only [PyData.eqv]; exact eqvAll_refl ds (by simpa [PyData.canLay0] using h)
  | .tuple ds, h => by simp only [PyData.eqv]; exact eqvAll_refl ds (by simpa [PyData.canLay0] using h)
  | .dict _, h => by simp [PyData.canLay0] at h
theorem eqvAll_refl : ∀ ds : List PyData, PyData.canLayAll0 ds = true → PyData.eqvAll ds ds = true
  | [], _ => by simp [PyData.eqvAll]
  | d :: ds, h => by
    have h' : d.canLay0 = true ∧ PyData.canLayAll0 ds = true := by simpa [PyData.canLayAll0] using h
    simp only [PyData.eqvAll, eqv_refl d h'.1, eqvAll_refl ds h'.2, Bool.and_self]
end
/-- the same data -/
theorem v_eqR (h1 : Dp K H x d) (h2 : Dp K H y d) (hs : SeqAt.shaped d = true) (k : Q (.bl true) H) : aEq K x y H Q :=
  v_eqD h1 h2 hs hs (by rw [eqv_refl d (SeqAt.canLay_of_shaped hs)]; exact k)
theorem v_neR (h1 : Dp K H x d) (h2 : Dp K H y d) (hs : SeqAt.shaped d = true) (k : Q (.bl false) H) : aNe K x y H Q :=
  v_neD h1 h2 hs hs (by rw [eqv_refl d (SeqAt.canLay_of_shaped hs)]; exact k)
end
/-- an if whose two ways meet again -/
theorem r_wJ {c : Prop} [Decidable c] {t1 t2 : TS} {D : Ends} {σ : L2.St} {H : Hp} (W : L2.St → Hp → Prop) (hk : ∀ σ' H', W σ' H' → D.nx σ' H')
    (h1 : c → ∀ N : L2.St → Hp → Prop, (∀ σ' H', W σ' H' → N σ' H') → t1 { D with nx := N } σ H) (h2 : ¬ c → ∀ N : L2.St → Hp → Prop, (∀ σ' H', W σ' H' → N σ' H') → t2 { D with nx := N } σ H) :
    if decide c = true then t1 D σ H else t2 D σ H := r_w (fun h => h1 h D.nx hk) fun h => h2 h D.nx hk
theorem r_nwJ {c : Prop} [Decidable c] {t1 t2 : TS} {D : Ends} {σ : L2.St} {H : Hp} (W : L2.St → Hp → Prop) (hk : ∀ σ' H', W σ' H' → D.nx σ' H')
    (h1 : ¬ c → ∀ N : L2.St → Hp → Prop, (∀ σ' H', W σ' H' → N σ' H') → t1 { D with nx := N } σ H) (h2 : c → ∀ N : L2.St → Hp → Prop, (∀ σ' H', W σ' H' → N σ' H') → t2 { D with nx := N } σ H) :
    if (!decide c) = true then t1 D σ H else t2 D σ H := r_nw (fun h => h1 h D.nx hk) fun h => h2 h D.nx hk
/-! a heap without one address -/
def wo (D : Addr) (H : Hp) : Hp := fun b => if b = D then none else H b
theorem wo_at {D b : Addr} {H : Hp} {o : HO} (n : b ≠ D) (h : H b = some o) : wo D H b = some o := by unfold wo; rw [if_neg n]; exact h
theorem wo_upd {D : Addr} {H : Hp} {o : HO} : wo D (upd H D o) = wo D H := by
  funext b
  unfold wo
  by_cases h : b = D
  · rw [if_pos h, if_pos h]
  · rw [if_neg h, if_neg h, upd_ne h]
theorem wo_stp {D : Addr} {H : Hp} : Stp [] (wo D H) H := ⟨fun b o e _ => by
  unfold wo at e
  by_cases h : b = D
  · rw [if_pos h] at e; cases e
  · rw [if_neg h] at e; exact e, fun b e => by
  unfold wo
  by_cases h : b = D
  · rw [if_pos h]
  · rw [if_neg h]; exact e⟩
theorem wo_mono {D : Addr} {H H' : Hp} (S : Stp [] H H') : Stp [] (wo D H) (wo D H') := ⟨fun b o e _ => by
  unfold wo at e ⊢
  by_cases h : b = D
  · rw [if_pos h] at e; cases e
  · rw [if_neg h] at e ⊢; exact S.keep0 e, fun b e => by
  unfold wo at e ⊢
  by_cases h : b = D
  · rw [if_pos h]
  · rw [if_neg h] at e ⊢; exact S.dom b e⟩
/-- data gathered in the list at D -/
theorem dp_gather {K : PySem.W.Frag} {D : Addr} {H1 H2 : Hp} {us : List V} {ds : List PyData} {x : V} {d : PyData} {o : HO} (S : Stp [] H1 H2) (h : DpAll K (wo D H1) us ds) (k : Dp K (wo D H2) x d) : DpAll K (wo D (upd H2 D o)) (us ++ [x]) (ds ++ [d]) := by
  rw [wo_upd]
  have h2 := dp_stpAll (wo_mono S) _ _ h
  clear h
  induction us generalizing ds with
  | nil => cases h2; exact .cons k .nil
  | cons u us ih => cases h2 with | cons h1 h2 => exact .cons h1 (ih h2)
theorem st_new {M : List Addr} {H H1 : Hp} {p : Addr} {o : HO} (h : H1 p = none) (a : Stp M H H1) : Stp M H (upd H1 p o) := a.new h
theorem st_trans {M : List Addr} {H H1 H2 : Hp} (b : Stp [] H1 H2) (a : Stp M H H1) : Stp M H H2 := a.then0 b
theorem st_put {M : List Addr} {H H1 : Hp} {p : Addr} {o : HO} (h : H p = none) (a : Stp M H H1) : Stp M H (upd H1 p o) := a.putN h
theorem st_fr {H H' : Hp} {p : Addr} (h : H' p = none) (S : Stp [] H H') : H p = none := S.dom p h
theorem dpall_len {K : PySem.W.Frag} {H : Hp} : ∀ {us : List V} {ds : List PyData}, DpAll K H us ds → us.length = ds.length
  | [], _, h => by cases h; rfl
  | u :: us, _, h => by cases h with | cons h1 h2 => simp [dpall_len h2]
theorem dpall_get {K : PySem.W.Frag} {H : Hp} {us : List V} {ds : List PyData} {i : Nat} {d : PyData} (h : DpAll K H us ds) (e : ds[i]? = some d) : ∃ v, us[i]? = some v ∧ Dp K H v d := by
  induction us generalizing ds i with
  | nil => cases h; cases e
  | cons u us ih => cases h with | cons h1 h2 => cases i with
    | zero => cases e; exact ⟨u, rfl, h1⟩
    | succ i => exact ih h2 e
theorem dpall_map {K : PySem.W.Frag} {H : Hp} {β : Type} {l : List β} {f : β → V} {g : β → PyData} (h : ∀ b ∈ l, Dp K H (f b) (g b)) : DpAll K H (l.map f) (l.map g) := by
  induction l with
  | nil => exact .nil
  | cons x xs ih => exact .cons (h x (by simp)) (ih fun y hy => h y (by simp [hy]))
theorem shaped_list {ds : List PyData} (h : ∀ d ∈ ds, PyData.canLay0 d = true ∧ PyData.depth d ≤ 1) : SeqAt.shaped (.list ds) = true := by
  have h1 : PyData.canLayAll0 ds = true ∧ PyData.depthAll ds ≤ 1 := by
    induction ds with
    | nil => exact ⟨by simp [PyData.canLayAll0], by simp [PyData.depthAll]⟩
    | cons d ds ih =>
      obtain ⟨a, b⟩ := h d (by simp)
      obtain ⟨c, e⟩ := ih fun x hx => h x (by simp [hx])
      exact ⟨by simp only [PyData.canLayAll0, a, c, Bool.and_self], by simp only [PyData.depthAll]; omega⟩
  unfold SeqAt.shaped
  rw [show PyData.canLay0 (.list ds) = true by simp only [PyData.canLay0]; exact h1.1]
  exact decide_eq_true (by simp only [PyData.depth]; omega)
/-! defs with defaults -/
section
variable {P : Program} {w : World} {K : PySem.W.Frag} {mg : Str → Option Value} {base : Heap}
theorem funD_mk {x qual : Str} {st : Stmt} {f T : Addr} {oc oT : Value} {od an oU : Option Addr} {osl tsl : Array (Option Value)} {kV doc pm cdv ct : Value} {its : List Value} {n : Nat} {dvs : List V}
    (l : K.lookup f = some ⟨oc, od, .func (PySem.W.fnOf x qual (defArgs st) (defBody st) (defScope st) (.ref T) kV doc pm an cdv ct), osl⟩) (t : K.lookup T = some ⟨oT, oU, .seq its.toArray n, tsl⟩) (r : Vals dvs its) (hd : dvs ≠ [])
    (c : PySem.W.codeIn K cdv qual = true) (k : PySem.W.keepIn K (.ref f) = true) : FunD K x qual (defArgs st) (defBody st) (defScope st) dvs [] f (PySem.W.fnOf x qual (defArgs st) (defBody st) (defScope st) (.ref T) kV doc pm an cdv ct) :=
  ⟨⟨oc, od, _, kV, doc, pm, an, cdv, ct, osl, rfl, l, c, .inr ⟨hd, T, _, its, n, rfl, t, rfl, r⟩, .inl rfl⟩, k⟩
theorem funD_ok {x qual : Str} {st : Stmt} {dvs : List V} {f : Addr} {fd : FuncData} {N ps : List Str} {k : Nat} {sp : Sp} (F : FunD K x qual (defArgs st) (defBody st) (defScope st) dvs [] f fd) (S : FnScope N ps (defScope st)) (len : ∀ vs H Q E, sp vs H Q E → vs.length = ps.length)
    (hb : ∀ (cdv : Value) (A : Around) (outer : List Env) (s : Shared) (H : Hp) (vs : List V) (Q : VK) (E : XK), Room k (A.deeper (envOfC qual (defScope st) s.heap.objs.size f cdv)) → sp vs H Q E →
      ∃ t, PSs (cxOf CX0 P w K mg base N qual (defScope st) f cdv A outer s H E).nox (defBody st) t ∧ t { nx := fun _ H' => Q .non H', rt := Q } (start N vs) H) : FnOk P w K mg base CX0 (k + 1) f fd ps sp :=
  F.ok S len fun cdv A outer s H vs Q E hr h => by
    obtain ⟨t, h1, h2⟩ := hb cdv A outer s H vs Q E hr h
    exact ⟨t, h1.nox, h2⟩
end
theorem Stp.putI {M : List Addr} {H H1 : Hp} {p C d : Addr} {fs : List (Str × V)} {o : HO} (a : Stp M H H1) (h : p ∈ M) (h1 : H1 p = some (.ins C d fs)) : Stp M H (upd H1 p o) := a.putM h h1 (fun z => z)
theorem Stp.putL {M : List Addr} {H H1 : Hp} {p : Addr} {xs : List V} {o : HO} (a : Stp M H H1) (h : p ∈ M) (h1 : H1 p = some (.lst xs)) : Stp M H (upd H1 p o) := a.putM h h1 (fun z => z)
theorem v_tup1 {H : Hp} {Q : VK} {x : V} (h : ∀ p, H p = none → Q (.ref p) (upd H p (.tup [x]))) : SH.kTup Q [x] H := v_tup (by simp) h
/-- a statement of a def's body -/
def inDef (s : Stmt) (j : Nat) : Stmt := (defBody s).getD j (.Pass ⟨0, 0, 0, 0⟩)
/-- a table that tells nothing as yet -/
theorem tabN_empty {H : Hp} {P : Addr} {nm : Nat → Nat → Str} (h : H P = some (.tbl #[])) : NdefX.TabN H P nm := ⟨#[], h, by trivial, fun pos cv hc => by cases hc⟩
/-! rules with the frag by its name (in a comprehension the context is not to be seen from outside) -/
section
variable {X : Cx}
theorem opK {op : Value → Value → Sem Value} (r : PySem.W.Frag → R2) (K : PySem.W.Frag) (h : OpR X op (r X.K)) (e : X.K = K := by rfl) : OpR X op (r K) := e ▸ h
theorem ixK (r : PySem.W.Frag → R2) (K : PySem.W.Frag) (h : IxR X (r X.K)) (e : X.K = K := by rfl) : IxR X (r K) := e ▸ h
theorem crK {v : Value} (r : PySem.W.Frag → List V → Hp → VK → Prop) (K : PySem.W.Frag) (h : CallR X v (r X.K)) (e : X.K = K := by rfl) : CallR X v (r K) := e ▸ h
theorem slK (r : PySem.W.Frag → V → Option Int → Option Int → Hp → VK → Prop) (K : PySem.W.Frag) (h : SlR X (r X.K)) (e : X.K = K := by rfl) : SlR X (r K) := e ▸ h
theorem piK {tg e : Expr} (r : PySem.W.Frag → TI) (K : PySem.W.Frag) (h : PI X tg e (r X.K)) (e' : X.K = K := by rfl) : PI X tg e (r K) := e' ▸ h
theorem peK {e : Expr} (r : PySem.W.Frag → TE) (K : PySem.W.Frag) (h : PE X e (r X.K)) (e' : X.K = K := by rfl) : PE X e (r K) := e' ▸ h
end
end SH

set_option Elab.async false
set_option linter.all false
set_option maxRecDepth 100000
set_option maxHeartbeats 4000000
/-! SHF: list(reversed(xs)), a new list -/
namespace SH
open PySem PySem.Spec PyProof.Rows L2
section
variable {prog : Program} {w : World} {A : Around} {E : Value → Shared → Prop} {s : Shared}
theorem ext_lrev {R : Result → Shared → Prop} {it l : Addr} {items : Array Value} (hh : A.handled = none) (hit : s.heap.IsRevIter it l ((items.size : Int) - 1)) (hl : s.heap.IsList l items) (hne : l ≠ it) (hn : items.size ≤ sizeLine)
    (S : Addr) (c0 : Nat) (hS : s.heap.get? S = some { cls := .type "list", data := .seq #[] c0 }) (nSi : S ≠ it) (nSl : S ≠ l)
    (hR : ∀ h' tk acc c', (∀ b o, b ≠ S → b ≠ it → s.heap.get? b = some o → h'.get? b = some o) → h'.get? S = some { cls := .type "list", dict := none, data := .seq acc c', slots := #[] } →
      ItemsOf (fun i v => items[items.size - 1 - i]? = some v) acc items.size → R (.ok (.ret .none)) { s with heap := h', toks := tk }) :
    wpAny (model prog w) A.in1 (Builtin.List.listExtendWith (.ref S) (.ref it) .none)
      (fun z s' => match z with | .done u => R (.ok u) s' | .again c' => c'.quiet = true ∧ codeAny (model prog w) A c' R s') (fun e s' => R (.error e) s') s := by
  have W := (Walks.listRev (prog := prog) (w := w) (A := A.in1) hh it l hne items).toS
  have nf : S ∉ [it, l] := by simp only [List.mem_cons, List.not_mem_nil, or_false, not_or]; exact ⟨nSi, nSl⟩
  have ty : s.TypeIs (.ref it) "list_reverseiterator" := Heap.IsRevIter.typeIs (s := s) hit
  have same : Builtin.List.listSameRef (.ref S) (.ref it) = false := by simp [Builtin.List.listSameRef, nSi]
  unfold Builtin.List.listExtendWith; refine wpAny_bind (wpAny_typeOf ty ?_); rw [if_neg (by rw [same]; decide)]
  refine wpAny_bind (wpAny_pyIter_revIter (s := s) hit ?_); refine wpAny_bind (wpAny_holding ?_); unfold Builtin.List.listLengthHint
  refine wpAny_bind (wpAny_specialOf ty RT.nolen_lri ?_); show wpAny _ A.in1 (specialOf (Value.ref it) (Str.ofString "__length_hint__") >>= _) _ _ _
  refine wpAny_bind (wpAny_specialOf ty RT.hint_lri ?_); generalize hid : ("list_reverseiterator.__length_hint__" : String) = id0
  wp_delta; rw [show splitId id0 = some ("list_reverseiterator", "__length_hint__") from by subst hid; decide +kernel]; subst hid
  refine wpAny_bind (wpAny_isInstance (b := true) ty (by rw [isSubtype_type]; kernel_rfl) ?_); refine wpAny_pure ?_; rw [if_neg (by decide)]
  have z0 : ((items.size : Nat) : Int) - 1 - ((0 : Nat) : Int) = (items.size : Int) - 1 := by omega
  refine wpAny_pure ⟨plainId_quiet F.plain_extend_loop _, codeAny_extend_loopS W hn _ nf _ items.size 0 _ _ _ rfl (Nat.zero_le _) ⟨Nat.zero_le _, by rw [z0]; exact hit, hl⟩ hS (ItemsOf.nil _) fun s' acc c' hm hS' ha => ?_⟩
  rw [Moved.eq_with hm]; refine hR s'.heap s'.toks acc c' (fun b o n1 n2 e => hm.heap b o (fun hmem => ?_) e) hS' ha
  rcases List.mem_cons.mp hmem with e' | hmem
  · exact n1 e'
  · exact n2 (List.mem_singleton.mp hmem)
theorem call_list_rev {it l : Addr} {items : Array Value} {Q : Value → Shared → Prop} (hh : A.handled = none) (hit : s.heap.IsRevIter it l ((items.size : Int) - 1)) (hl : s.heap.IsList l items) (hne : l ≠ it) (hn : items.size ≤ sizeLine)
    (hQ : ∀ h' tk acc c', (∀ b o, b ≠ it → s.heap.get? b = some o → h'.get? b = some o) → h'.get? s.heap.objs.size = some { cls := .type "list", dict := none, data := .seq acc c', slots := #[] } →
      ItemsOf (fun i v => items[items.size - 1 - i]? = some v) acc items.size → Q (.ref s.heap.objs.size) { s with heap := h', toks := tk }) :
    wpAny (model prog w) A (call (.type "list") [.ref it]) Q E s := by
  refine callType_codes (Q₁ := fun ob s1 => ob = .ref s.heap.objs.size ∧ s1 = { s with heap := s.heap.push { cls := .type "list", data := .seq #[] } }) F.called_list (F.typeCall_list_1 _) F.entry_list_init (code_list_new _ ⟨rfl, rfl⟩) fun ob s1 h1 => ?_
  obtain ⟨e1, e2⟩ := h1; subst e1; subst e2
  have hS : (s.heap.push { cls := .type "list", data := .seq #[] }).get? s.heap.objs.size = some { cls := .type "list", data := .seq #[] } := by exact Heap.get?_push_size _ rfl
  obtain ⟨oi, hoi, _⟩ := id hit; obtain ⟨ol, hol, hol'⟩ := id hl
  have nSi : s.heap.objs.size ≠ it := Nat.ne_of_gt (Heap.lt_size hoi); have nSl : s.heap.objs.size ≠ l := Nat.ne_of_gt (Heap.lt_size hol)
  refine ⟨⟨_, hS, rfl⟩, F.args_list_init_2 _ _, ?_⟩
  show wpAny _ _ (do let old ← Builtin.List.listItems (.ref s.heap.objs.size); Builtin.List.listUpdate (.ref s.heap.objs.size) (fun _ => #[]); letGo old.toList.reverse; Builtin.List.listExtendWith (.ref s.heap.objs.size) (.ref it) .none) _ _ _
  refine wpAny_bind ?_; unfold Builtin.List.listItems; refine wpAny_bind (wpAny_seqItems hS rfl (wpAny_pure ?_))
  show wpAny _ _ (updateSeq s.heap.objs.size (fun _ => #[]) >>= fun _ => letGo (#[] : Array Value).toList.reverse >>= fun _ => Builtin.List.listExtendWith (.ref s.heap.objs.size) (.ref it) .none) _ _ _
  refine wpAny_bind (wpAny_updateSeq hS rfl ?_); have hS2 := Heap.get?_update_self (Obj.mapSeq (fun _ => (#[] : Array Value))) hS rfl
  have oth : ∀ b o, b ≠ s.heap.objs.size → s.heap.get? b = some o → ((s.heap.push { cls := .type "list", data := .seq #[] }).update s.heap.objs.size (Obj.mapSeq (fun _ => (#[] : Array Value)))).get? b = some o :=
    fun b o hb e => (Heap.get?_update_other _ _ (Ne.symm hb)).trans (Heap.get?_push_of_some _ e)
  refine wpAny_bind (wpAny_letGo ?_)
  refine ext_lrev (A := A.in1) (R := wants (fun r s2 => r = Value.none ∧ Q (.ref s.heap.objs.size) s2) E) (s := { s with heap := (s.heap.push { cls := .type "list", data := .seq #[] }).update s.heap.objs.size (Obj.mapSeq (fun _ => (#[] : Array Value))) }) hh (hit.at fun o e => oth it o (Ne.symm nSi) e) ?_ hne hn _ _ hS2 nSi nSl fun h' tk acc c' hk hS' ha => ?_
  · exact ⟨ol, oth l ol (Ne.symm nSl) hol, hol'⟩
  · exact ⟨rfl, hQ h' tk acc c' (fun b o n2 e => hk b o (Nat.ne_of_lt (Heap.lt_size e)) n2 (oth b o (Nat.ne_of_lt (Heap.lt_size e)) e)) hS' ha⟩
end
/-- list(reversed(xs)) -/
def kLstRev (K : PySem.W.Frag) (Q : VK) : VK := fun v H1 => ∃ (a : Addr) (xs : List V), v = .ref a ∧ SqL K H1 a xs ∧ ∀ q, H1 q = none → Q (.ref q) (upd H1 q (.lst xs.reverse))
def tLstRev (K : PySem.W.Frag) (te : TE) : TE := fun σ H Q => te σ H (kLstRev K Q)
theorem r_lrev {K : PySem.W.Frag} {te : TE} {σ : L2.St} {H : Hp} {Q : VK} (h : te σ H (kLstRev K Q)) : tLstRev K te σ H Q := h
theorem v_lrev {K : PySem.W.Frag} {H : Hp} {Q : VK} {a : Addr} {xs : List V} (h : SqL K H a xs) (k : ∀ q, H q = none → Q (.ref q) (upd H q (.lst xs.reverse))) : kLstRev K Q (.ref a) H := ⟨a, xs, rfl, h, k⟩
section
variable {X : Cx}
theorem pe_lstRev {e : Expr} {te : TE} {p p2 pos pos2 : Pos} (hg : Gl X "list") (hm : X.mg "list" = none) (hg2 : Gl X "reversed") (hm2 : X.mg "reversed" = none) (he : PE X e te) (hc : X.calm = true := by rfl)
    (hs : starEach [e] X.env = (false, eval e X.env) :: starEach [] X.env := by rfl)
    (hs2 : starEach [.Call (.Name "reversed" p2) [e] [] pos2] X.env = (false, eval (.Call (.Name "reversed" p2) [e] [] pos2) X.env) :: starEach [] X.env := by rfl) :
    PE X (.Call (.Name "list" p) [.Call (.Name "reversed" p2) [e] [] pos2] [] pos) (tLstRev X.K te) := by
  refine ⟨fun pins s σ H Q I h => ?_⟩
  refine Call_ (ld_blt I hg hm boot_list (PyProof.Rows.callWith_type1 (args_cons (Call_ (ld_blt I hg2 hm2 PyProof.Rows.boot_reversed (PyProof.Rows.callWith_type1 (args_cons (thn (he.run pins s σ H _ I h) fun u s1 ⟨v, H1, I1, r1, q1⟩ => args_nil ?_) hs) hs rfl))) hs2) hs2 rfl))
  obtain ⟨a, xs, ev, hq, q⟩ := q1; subst ev; obtain rfl : u = Value.ref a := r1; obtain ⟨its, rv, p', hz⟩ := I1.list hq
  refine call_reversed_list p'.isList (args_nil ?_)
  have I2 : Inv X pins σ H1 { s1 with heap := s1.heap.push (revObj a ((its.toArray.size : Int) - 1)) } := by exact I1.kept (t' := s1.toks) fun b o e => Heap.get?_push_of_some _ e
  obtain ⟨f0, f1, f2, f3, f4, f5⟩ := I1.fpOk (H' := H1) (b := s1.heap.objs.size) (Nat.le_refl _) (I1.hok.fresh (Nat.le_refl _)); have hl := p'.isList; obtain ⟨ol, hol, _⟩ := id hl
  have hne : a ≠ s1.heap.objs.size := by exact Nat.ne_of_lt (Heap.lt_size hol)
  have hn : its.toArray.size ≤ sizeLine := by rw [List.size_toArray, ← rv.length]; exact (by exact hz)
  refine call_list_rev (s := { s1 with heap := s1.heap.push (revObj a ((its.toArray.size : Int) - 1)) }) (I1.ok.hd hc) ⟨_, Heap.get?_push_size _ rfl, rfl, rfl⟩ (hl.push _) hne hn fun h' tk acc c' hk hS' hi => ?_
  have z : s1.heap.objs.size ≤ (s1.heap.push (revObj a ((its.toArray.size : Int) - 1))).objs.size := by simp [Heap.push]
  have k1 : ∀ b o, s1.heap.get? b = some o → h'.get? b = some o := fun b o e => hk b o (Nat.ne_of_lt (Heap.lt_size e)) (by exact Heap.get?_push_of_some _ e)
  refine ⟨.ref _, upd H1 (s1.heap.push (revObj a ((its.toArray.size : Int) - 1))).objs.size (.lst xs.reverse), I1.laid (t' := tk) k1 z (show ObjOk X.prog X.w _ _ _ (.lst xs.reverse) from ⟨by rw [List.length_reverse]; exact hz, acc.toList, c', RT.vals_rev rv hi, ?_⟩), rfl, q _ (I1.hok.fresh z)⟩
  rw [Array.toArray_toList]; exact (by exact hS')
end
theorem cutL_from_len {α : Type} (xs : List α) (i : Nat) (hi : Option Int) : (cutL xs (some (i : Int)) hi).length ≤ xs.length - i := by
  unfold cutL
  rw [HT.sIx_nat, List.length_take, List.length_drop]
  omega
theorem r_ckw2 {r : List V → List V → Hp → VK → Prop} {t tk : TA} {σ : L2.St} {H : Hp} {Q : VK} (h : t σ H fun vs H1 => tk σ H1 fun zs H2 => r vs zs H2 Q) : tCKw r t tk σ H Q := h
end SH

set_option Elab.async false
set_option linter.all false
set_option maxRecDepth 100000
set_option maxHeartbeats 4000000
/-! SHG: max(xs, default=d), ints -/
namespace SH
open PySem PySem.Spec PyProof.Rows L2
def rMaxDef (K : PySem.W.Frag) : List V → List V → Hp → VK → Prop := fun vs zs H Q => ∃ (a : Addr) (ns : List Int) (d : Int), vs = [V.ref a] ∧ zs = [V.int d] ∧ SqL K H a (ns.map V.int) ∧ (ns = [] → Q (.int d) H) ∧ ∀ m, m ∈ ns → (∀ y, y ∈ ns → y ≤ m) → Q (.int m) H
theorem foldl_max : ∀ (r : List Int) (n : Int), r.foldl max n ∈ n :: r ∧ ∀ y ∈ n :: r, y ≤ r.foldl max n
  | [], n => ⟨by simp, by simp⟩
  | k :: r, n => by
    obtain ⟨h1, h2⟩ := foldl_max r (max n k)
    rw [List.foldl_cons]
    constructor
    · rcases List.mem_cons.mp h1 with e | e
      · rw [e]
        by_cases z : n ≤ k
        · rw [Int.max_eq_right z]; simp
        · rw [Int.max_eq_left (by omega)]; simp
      · simp [e]
    · intro y hy
      have hm := h2 (max n k) (by simp)
      rcases List.mem_cons.mp hy with e | hy
      · omega
      · rcases List.mem_cons.mp hy with e | hy
        · omega
        · exact h2 y (by simp [hy])
theorem depth_ints : ∀ ns : List Int, PyData.depthAll (ns.map PyData.int) = 0
  | [] => by simp [PyData.depthAll]
  | n :: r => by simp [PyData.depthAll, PyData.depth, depth_ints r]
theorem dp_ints {K : PySem.W.Frag} {H : Hp} : ∀ ns : List Int, DpAll K H (ns.map V.int) (ns.map PyData.int)
  | [] => .nil
  | n :: r => .cons (.int n) (dp_ints r)
section
variable {X : Cx}
theorem cr_maxDef (hc : X.calm = true) (hu : X.A.units + 64 < cLine) : CallRK X (.builtin "max") [Str.ofString "default"] (rMaxDef X.K) := by
  intro pins s σ H vs zs us ws Q I r rz h
  obtain ⟨a, ns, d, rfl, rfl, hs, h0, h1⟩ := h
  obtain rfl := Vals.ref1 r
  obtain ⟨w1, rfl, e1⟩ := vals1 rz
  obtain ⟨t, rfl⟩ := e1
  obtain ⟨its, rv, hl, hz⟩ := I.list hs
  obtain ⟨as, hr⟩ := Dp.readsAll I (ns.map PyData.int) _ its (dp_ints ns) rv
  have al : PySem.W.AlikeAll (ns.map PyData.int) := ⟨fun x hx y hy => by
    obtain ⟨i, _, rfl⟩ := List.mem_map.mp hx
    obtain ⟨j, _, rfl⟩ := List.mem_map.mp hy
    rfl, fun x hx => by
    obtain ⟨i, _, rfl⟩ := List.mem_map.mp hx
    intro z; cases z⟩
  refine PySem.W.max_list_default (xs := ns.map PyData.int) (I.ok.hd hc) hl.isList (by simpa using hr) al (by rw [depth_ints]; omega) (fun e h' tk hk => ⟨.int d, H, I.kept hk, ⟨t, rfl⟩, h0 (by simpa using e)⟩) fun y ys i v h' tk bs e hv hR hk => ?_
  cases ns with
  | nil => cases e
  | cons n r =>
    rw [List.map_cons] at e
    cases e
    rw [PySem.W.maxD_ints] at hR
    obtain ⟨m1, m2⟩ := foldl_max r n
    generalize r.foldl max n = m at hR m1 m2
    cases hR
    exact ⟨.int m, H, I.kept hk, ⟨_, rfl⟩, h1 m m1 m2⟩
end
theorem r_ckw {r : List V → List V → Hp → VK → Prop} {t tk : TA} {σ : L2.St} {H : Hp} {Q : VK} (h : t σ H fun vs H1 => tk σ H1 fun zs H2 => r vs zs H2 Q) : tCKw r t tk σ H Q := h
end SH

set_option Elab.async false
set_option linter.all false
set_option maxRecDepth 100000
set_option maxHeartbeats 4000000
/-! SHI: xs[i] op= e, dicts with tuples as keys, int(truth) -/
namespace SH
open PySem PySem.Spec PyProof.Rows L2
section
variable {K : PySem.W.Frag} {σ : L2.St} {H : Hp} {Q : VK} {D : Ends} {to ti te td ty tv : TE} {tget : V → V → Hp → VK → Prop} {tip : TIp} {tset : TSet} {P : Hp → Prop} {d b : Addr} {kvs : List (List Key × V)} {ks : List Key} {v x y : V}
/-- a, b = x, y -/
def kPar2 (i j : Nat) (σ : L2.St) (P : L2.St → Hp → Prop) : List V → Hp → Prop := fun vs H1 => ∃ v w, vs = [v, w] ∧ P ((σ.set i (some v)).set j (some w)) H1
theorem r_par {i j : Nat} {ta : TA} (h : ta σ H (kPar2 i j σ D.nx)) : tPar i j ta D σ H := h
theorem v_par {i j : Nat} {w : V} {σ1 σ2 : L2.St} {R : L2.St → Hp → Prop} (e1 : σ.set i (some v) = σ1) (e2 : σ1.set j (some w) = σ2) (h : R σ2 H) : kPar2 i j σ R [v, w] H := ⟨v, w, rfl, by rw [e1, e2]; exact h⟩
def kPar3 (i j l : Nat) (σ : L2.St) (P : L2.St → Hp → Prop) : List V → Hp → Prop := fun vs H1 => ∃ u v w, vs = [u, v, w] ∧ P (((σ.set i (some u)).set j (some v)).set l (some w)) H1
theorem r_par3 {i j l : Nat} {ta : TA} (h : ta σ H (kPar3 i j l σ D.nx)) : tPar3 i j l ta D σ H := h
theorem v_par3 {i j l : Nat} {u w : V} {σ1 σ2 σ3 : L2.St} {R : L2.St → Hp → Prop} (e1 : σ.set i (some u) = σ1) (e2 : σ1.set j (some v) = σ2) (e3 : σ2.set l (some w) = σ3) (h : R σ3 H) : kPar3 i j l σ R [u, v, w] H := ⟨u, v, w, rfl, by rw [e1, e2, e3]; exact h⟩
theorem r_augS (h : to σ H fun o H1 => ti σ H1 fun i H2 => tget o i H2 fun x H3 => te σ H3 fun y H4 => tip x y H4 fun z H5 => tset o i z H5 fun H6 => D.nx σ H6) : tAugS to ti te tget tip tset D σ H := h
theorem r_dnewT (h : ∀ p, H p = none → Q (.ref p) (upd H p (.dT []))) : tDNewT σ H Q := h
theorem r_dnewK (h : ∀ p, H p = none → Q (.ref p) (upd H p (.dK []))) : tDNewK σ H Q := h
def kDPut (x y v : V) (H3 : Hp) (P : Hp → Prop) : Prop := ∃ a H4, x = .ref a ∧ DPut H3 a y v H4 ∧ P H4
theorem r_dput (h : tv σ H fun v H1 => td σ H1 fun x H2 => ty σ H2 fun y H3 => kDPut x y v H3 (D.nx σ)) : sDPut td ty tv D σ H := h
theorem v_dputT (hd : H d = some (.dT kvs)) (hk : H b = some (.tup (ks.map kV))) (hl : kvs.length < 1000000) (k : P (upd H d (.dT (putK kvs ks v)))) : kDPut (.ref d) (.ref b) v H P := ⟨d, _, rfl, DPut.t hd hk (Nat.lt_trans hl (by decide)), k⟩
def kDGet1 (ty : TE) (σ : L2.St) (Q : VK) : VK := fun x H1 => ∃ a, x = .ref a ∧ IsD H1 a ∧ ty σ H1 fun y H2 => ∃ o, DGet H2 a y o ∧ Q (o.getD .non) H2
theorem r_dget1 (h : td σ H (kDGet1 ty σ Q)) : tDGet1 td ty σ H Q := h
theorem v_dget1 (hd : H d = some (.dT kvs)) (h : ty σ H fun y H2 => ∃ o, DGet H2 d y o ∧ Q (o.getD .non) H2) : kDGet1 ty σ Q (.ref d) H := ⟨d, rfl, .inr ⟨kvs, .inl hd⟩, h⟩
theorem v_dgetT {R : Option V → Prop} (hd : H d = some (.dT kvs)) (hk : H b = some (.tup (ks.map kV))) (q : R (valV kvs ks)) : ∃ o, DGet H d (.ref b) o ∧ R o := ⟨_, DGet.t hd hk, q⟩
def kDGet (x y : V) (H2 : Hp) (Q : VK) : Prop := ∃ a v, x = .ref a ∧ DGet H2 a y (some v) ∧ Q v H2
theorem r_dgetI (h : td σ H fun x H1 => ty σ H1 fun y H2 => kDGet x y H2 Q) : tDGet td ty σ H Q := h
theorem v_dgetI (hd : H d = some (.dT kvs)) (hk : H b = some (.tup (ks.map kV))) (e : valV kvs ks = some v) (q : Q v H) : kDGet (.ref d) (.ref b) H Q := ⟨d, v, rfl, by rw [← e]; exact DGet.t hd hk, q⟩
def kDIn (y x : V) (H2 : Hp) (Q : VK) : Prop := ∃ a o, x = .ref a ∧ DGet H2 a y o ∧ Q (.bl o.isSome) H2
def kDNi (y x : V) (H2 : Hp) (Q : VK) : Prop := ∃ a o, x = .ref a ∧ DGet H2 a y o ∧ Q (.bl (!o.isSome)) H2
theorem r_din (h : ty σ H fun y H1 => td σ H1 fun x H2 => kDIn y x H2 Q) : tDIn ty td σ H Q := h
theorem r_dnotin (h : ty σ H fun y H1 => td σ H1 fun x H2 => kDNi y x H2 Q) : tDNotIn ty td σ H Q := h
theorem v_din (hd : H d = some (.dT kvs)) (hk : H b = some (.tup (ks.map kV))) (q : Q (.bl (valV kvs ks).isSome) H) : kDIn (.ref b) (.ref d) H Q := ⟨d, _, rfl, DGet.t hd hk, q⟩
theorem v_dnotin (hd : H d = some (.dT kvs)) (hk : H b = some (.tup (ks.map kV))) (q : Q (.bl (!(valV kvs ks).isSome)) H) : kDNi (.ref b) (.ref d) H Q := ⟨d, _, rfl, DGet.t hd hk, q⟩
end
/-- int(truth) or int(int) -/
def rInt1 : List V → Hp → VK → Prop := fun xs H Q => (∃ i, xs = [.int i] ∧ Q (.int i) H) ∨ ∃ k, xs = [.bl k] ∧ Q (.int (if k then 1 else 0)) H
section
variable {X : Cx} {H : Hp} {Q : VK} {i : Int} {b : Bool}
theorem cInt1 : CallR X (.type "int") rInt1 := call_int1
theorem w_intI (k : Q (.int i) H) : rInt1 [.int i] H Q := .inl ⟨i, rfl, k⟩
theorem w_intB (k : Q (.int (b.toNat : Nat)) H) : rInt1 [.bl b] H Q := .inr ⟨b, rfl, by cases b <;> exact k⟩
end
/-! a dict of answers -/
def pk (a b : Nat) : List Key := [.inl (a : Int), .inl (b : Int)]
theorem pk_map {a b : Nat} : (pk a b).map kV = [.int (a : Nat), .int (b : Nat)] := rfl
theorem pk_inj {a b c d : Nat} : pk a b = pk c d ↔ a = c ∧ b = d := by
  unfold pk
  constructor
  · intro h
    injection h with h1 h2
    injection h2 with h2 _
    injection h1 with h1
    injection h2 with h2
    exact ⟨by omega, by omega⟩
  · rintro ⟨rfl, rfl⟩; rfl
/-- what is known behind so many answers -/
def kn (es : List (T3 Nat Nat Bool)) : List (List Key × V) := es.foldl (fun acc e => putK acc (pk e.a e.b) (.bl e.c)) []
theorem kn_app {es : List (T3 Nat Nat Bool)} {e : T3 Nat Nat Bool} : kn (es ++ [e]) = putK (kn es) (pk e.a e.b) (.bl e.c) := by simp [kn]
theorem kn_len (es : List (T3 Nat Nat Bool)) : (kn es).length ≤ es.length := by
  have : ∀ (es : List (T3 Nat Nat Bool)) (acc : List (List Key × V)), (es.foldl (fun acc e => putK acc (pk e.a e.b) (.bl e.c)) acc).length ≤ acc.length + es.length := by
    intro es
    induction es with
    | nil => intro acc; simp
    | cons e es ih => intro acc; have := ih (putK acc (pk e.a e.b) (.bl e.c)); have := length_putK acc (pk e.a e.b) (.bl e.c); simp only [List.foldl_cons, List.length_cons]; omega
  simpa [kn] using this es []
theorem kn_val {es : List (T3 Nat Nat Bool)} {f : Nat → Nat → Bool} (h : ∀ e ∈ es, e.c = f e.a e.b) (a b : Nat) [Decidable (∃ e ∈ es, e.a = a ∧ e.b = b)] : valV (kn es) (pk a b) = if (∃ e ∈ es, e.a = a ∧ e.b = b) then some (.bl (f a b)) else none := by
  have key : ∀ (es : List (T3 Nat Nat Bool)), (∀ e ∈ es, e.c = f e.a e.b) → ((∃ e ∈ es, e.a = a ∧ e.b = b) → valV (kn es) (pk a b) = some (.bl (f a b))) ∧ ((¬ ∃ e ∈ es, e.a = a ∧ e.b = b) → valV (kn es) (pk a b) = none) := by
    intro es h
    obtain ⟨n, hn⟩ : ∃ n, n = es.length := ⟨_, rfl⟩
    induction n generalizing es with
    | zero =>
      have : es = [] := List.length_eq_zero_iff.mp hn.symm
      subst this
      exact ⟨fun ⟨e, he, _⟩ => by simp at he, fun _ => rfl⟩
    | succ n ih =>
      obtain ⟨fs, e, rfl⟩ : ∃ fs e, es = fs ++ [e] := ⟨es.dropLast, es.getLast (by intro z; subst z; simp at hn), (List.dropLast_concat_getLast _).symm⟩
      obtain ⟨i1, i2⟩ := ih fs (fun x hx => h x (by simp [hx])) (by simp at hn; omega)
      rw [kn_app, valV_put]
      have he := h e (by simp)
      by_cases z : pk a b = pk e.a e.b
      · obtain ⟨z1, z2⟩ := pk_inj.mp z
        subst z1; subst z2
        simp only [if_true]
        exact ⟨fun _ => by rw [he], fun n => (n ⟨e, by simp, rfl, rfl⟩).elim⟩
      · rw [if_neg z]
        have z' : ¬ (e.a = a ∧ e.b = b) := fun ⟨p, q⟩ => z (pk_inj.mpr ⟨p.symm, q.symm⟩)
        refine ⟨fun ⟨x, hx, q⟩ => i1 ?_, fun n => i2 fun ⟨x, hx, q⟩ => n ⟨x, by simp [hx], q⟩⟩
        rcases List.mem_append.mp hx with hx | hx
        · exact ⟨x, hx, q⟩
        · rw [List.mem_singleton] at hx; subst hx; exact (z' q).elim
  by_cases c : ∃ e ∈ es, e.a = a ∧ e.b = b
  · rw [if_pos c]; exact (key es h).1 c
  · rw [if_neg c]; exact (key es h).2 c
theorem kn_get {es : List (T3 Nat Nat Bool)} {f : Nat → Nat → Bool} (h : ∀ e ∈ es, e.c = f e.a e.b) {a b : Nat} (hm : ∃ e ∈ es, e.a = a ∧ e.b = b) : valV (kn es) (pk a b) = some (.bl (f a b)) := by
  classical
  rw [kn_val h, if_pos hm]
theorem kn_none {es : List (T3 Nat Nat Bool)} {f : Nat → Nat → Bool} (h : ∀ e ∈ es, e.c = f e.a e.b) {a b : Nat} (hm : ¬ ∃ e ∈ es, e.a = a ∧ e.b = b) : valV (kn es) (pk a b) = none := by
  classical
  rw [kn_val h, if_neg hm]
end SH

set_option Elab.async false
set_option linter.all false
set_option maxRecDepth 100000
set_option maxHeartbeats 4000000
/-! SHJ: (k, p) >= (k', q); t[:2] -/
namespace SH
open PySem PySem.Spec PySem.W PyProof.Rows L2
theorem dataLt_pair {k p k' p' : Int} : dataLt (.tuple [.int k, .int p]) (.tuple [.int k', .int p']) = decide (k < k' ∨ (k = k' ∧ p < p')) := by
  unfold dataLt
  simp only [keyToks, keyToksAll, List.cons_append, List.nil_append]
  rw [lex_self (O := itemOrd)]
  by_cases e : k = k'
  · subst e
    rw [lex_self (O := itemOrd), lex_self (O := itemOrd)]
    by_cases e2 : p = p'
    · subst e2
      rw [lex_self (O := itemOrd), lex_self (O := itemOrd)]
      simp [PyProof.Rows.lexLt]
    · rw [lex_diff (O := itemOrd) (by simpa using e2)]
      show decide (p < p') = _
      exact decide_eq_decide.mpr (by omega)
  · rw [lex_diff (O := itemOrd) (by simpa using e)]
    show decide (k < k') = _
    exact decide_eq_decide.mpr (by omega)
def aGeT (K : PySem.W.Frag) : R2 := fun x y H Q => ∃ a b k p k' p', x = .ref a ∧ y = .ref b ∧ SqT K H a [.int k, .int p] ∧ SqT K H b [.int k', .int p'] ∧ Q (.bl (decide (¬ (k < k' ∨ (k = k' ∧ p < p'))))) H
theorem oGeT {X : Cx} (hu : X.A.units + 64 < cLine) : OpR X (compareOp .GtE) (aGeT X.K) := by
  intro pins s σ H x y v u Q I rx ry h
  obtain ⟨a, b, k, p, k', p', rfl, rfl, h1, h2, q⟩ := h
  obtain ⟨as, r1⟩ := Dp.reads I (.tuple [.int k, .int p]) _ v (.tup h1 (.cons (.int k) (.cons (.int p) .nil))) rx
  obtain ⟨bs, r2⟩ := Dp.reads I (.tuple [.int k', .int p']) _ u (.tup h2 (.cons (.int k') (.cons (.int p') .nil))) ry
  refine ge_data r1 r2 rfl (fun z => by cases z) ?_ ⟨.bl _, H, I, rfl, ?_⟩
  · have : (PyData.tuple [.int k, .int p]).depth ≤ 64 := by show 1 ≤ 64; decide
    omega
  · rw [dataLt_pair]
    have e : (!decide (k < k' ∨ (k = k' ∧ p < p'))) = decide (¬ (k < k' ∨ (k = k' ∧ p < p'))) := decide_not.symm
    rw [e]
    exact q
theorem v_geT {K : PySem.W.Frag} {H : Hp} {Q : VK} {a b : Addr} {k p k' p' : Int} (h1 : SqT K H a [.int k, .int p]) (h2 : SqT K H b [.int k', .int p']) (q : Q (.bl (decide (¬ (k < k' ∨ (k = k' ∧ p < p'))))) H) : aGeT K (.ref a) (.ref b) H Q := ⟨a, b, k, p, k', p', rfl, rfl, h1, h2, q⟩
def aGtT (K : PySem.W.Frag) : R2 := fun x y H Q => ∃ a b k p k' p', x = .ref a ∧ y = .ref b ∧ SqT K H a [.int k, .int p] ∧ SqT K H b [.int k', .int p'] ∧ Q (.bl (decide (k' < k ∨ (k' = k ∧ p' < p)))) H
theorem oGtT {X : Cx} (hu : X.A.units + 64 < cLine) : OpR X (compareOp .Gt) (aGtT X.K) := by
  intro pins s σ H x y v u Q I rx ry h
  obtain ⟨a, b, k, p, k', p', rfl, rfl, h1, h2, q⟩ := h
  obtain ⟨as, r1⟩ := Dp.reads I (.tuple [.int k, .int p]) _ v (.tup h1 (.cons (.int k) (.cons (.int p) .nil))) rx
  obtain ⟨bs, r2⟩ := Dp.reads I (.tuple [.int k', .int p']) _ u (.tup h2 (.cons (.int k') (.cons (.int p') .nil))) ry
  refine gt_data r1 r2 rfl (fun z => by cases z) ?_ ⟨.bl _, H, I, rfl, ?_⟩
  · have : (PyData.tuple [.int k, .int p]).depth ≤ 64 := by show 1 ≤ 64; decide
    omega
  · rw [dataLt_pair]
    exact q
theorem v_gtT {K : PySem.W.Frag} {H : Hp} {Q : VK} {a b : Addr} {k p k' p' : Int} (h1 : SqT K H a [.int k, .int p]) (h2 : SqT K H b [.int k', .int p']) (q : Q (.bl (decide (k' < k ∨ (k' = k ∧ p' < p)))) H) : aGtT K (.ref a) (.ref b) H Q := ⟨a, b, k, p, k', p', rfl, rfl, h1, h2, q⟩
/-- t[:2] of three -/
theorem v_slT2 {K : PySem.W.Frag} {H : Hp} {Q : VK} {a : Addr} {x y z : V} (h : SqT K H a [x, y, z]) (q : ∀ p, H p = none → Q (.ref p) (upd H p (.tup [x, y]))) : rSlT K (.ref a) none (some 2) H Q :=
  ⟨a, _, rfl, h, by rintro ⟨_, h⟩; exact absurd (show (2 : Nat) = 3 from h) (by decide), q⟩
end SH

set_option Elab.async false
set_option linter.all false
set_option maxRecDepth 100000
set_option maxHeartbeats 4000000
/-! SHK: d.update(d2), keys that are tuples; a method whose class is known at the run alone -/
namespace SH
open PySem PySem.Spec PyProof.Rows L2
/-- d.update(d2) -/
def mergK (kvs more : List (List Key × V)) : List (List Key × V) := more.foldl (fun acc p => putK acc p.1 p.2) kvs
theorem mergK_len : ∀ (more kvs : List (List Key × V)), (mergK kvs more).length ≤ kvs.length + more.length
  | [], kvs => by simp [mergK]
  | p :: ps, kvs => by
    have h1 := mergK_len ps (putK kvs p.1 p.2)
    have h2 := length_putK kvs p.1 p.2
    show (mergK (putK kvs p.1 p.2) ps).length ≤ _
    rw [List.length_cons]; omega
theorem mergK_val : ∀ (more kvs : List (List Key × V)) (k : List Key), (∃ p ∈ more, p.1 = k ∧ valV (mergK kvs more) k = some p.2) ∨ ((∀ p ∈ more, p.1 ≠ k) ∧ valV (mergK kvs more) k = valV kvs k)
  | [], kvs, k => .inr ⟨by simp, rfl⟩
  | p :: ps, kvs, k => by
    show (∃ q ∈ p :: ps, q.1 = k ∧ valV (mergK (putK kvs p.1 p.2) ps) k = some q.2) ∨ ((∀ q ∈ p :: ps, q.1 ≠ k) ∧ valV (mergK (putK kvs p.1 p.2) ps) k = valV kvs k)
    rcases mergK_val ps (putK kvs p.1 p.2) k with ⟨q, hq, e1, e2⟩ | ⟨h1, h2⟩
    · exact .inl ⟨q, List.mem_cons_of_mem _ hq, e1, e2⟩
    · rw [valV_put] at h2
      by_cases e : k = p.1
      · rw [if_pos e] at h2
        exact .inl ⟨p, List.mem_cons_self .., e.symm, h2⟩
      · rw [if_neg e] at h2
        refine .inr ⟨fun q hq => ?_, h2⟩
        rcases List.mem_cons.mp hq with rfl | hq
        · exact fun z => e z.symm
        · exact h1 q hq
theorem mem_putK {kvs : List (List Key × V)} {k : List Key} {v : V} {p : List Key × V} (h : p ∈ putK kvs k v) : p = (k, v) ∨ p ∈ kvs := by
  unfold putK at h
  split at h
  · obtain ⟨q, hq, e⟩ := List.mem_map.mp h
    by_cases z : q.1 = k
    · rw [if_pos z] at e
      exact .inl (by rw [← e, z])
    · rw [if_neg z] at e
      exact .inr (by rw [← e]; exact hq)
  · rcases List.mem_append.mp h with h | h
    · exact .inr h
    · exact .inl (List.mem_singleton.mp h)
theorem putK_same {kvs : List (List Key × V)} {k : List Key} {v : V} : (k, v) ∈ putK kvs k v := by
  unfold putK
  split
  · rename_i h
    obtain ⟨q, hq, e⟩ := List.any_eq_true.mp h
    exact List.mem_map.mpr ⟨q, hq, by rw [if_pos (of_decide_eq_true e), of_decide_eq_true e]⟩
  · exact List.mem_append_right _ (List.mem_singleton.mpr rfl)
theorem putK_other {kvs : List (List Key × V)} {k : List Key} {v : V} {p : List Key × V} (h : p ∈ kvs) (n : p.1 ≠ k) : p ∈ putK kvs k v := by
  unfold putK
  split
  · exact List.mem_map.mpr ⟨p, h, by rw [if_neg n]⟩
  · exact List.mem_append_left _ h
theorem KT_all {H : Hp} : ∀ {more : List (List Key × V)} {ps : List (List Key × Addr × Value)} {kvs : List (List Key × V)} {xs : List (List Key × Addr × Value)}, KT H kvs xs → KT H more ps → KT H (mergK kvs more) (storedAllH xs ps)
  | _, _, kvs, xs, h, .nil => h
  | _, _, kvs, xs, h, .cons (a := p) (b := q) (l₁ := more) (l₂ := ps) hq t => by
    obtain ⟨e1, e2, e3⟩ := hq
    show KT H (mergK (putK kvs p.1 p.2) more) (storedAllH (storedH xs q.1 q.2.1 q.2.2) ps)
    exact KT_all (by rw [← e1]; exact h.put p.1 e2 e3) t
def rUpdT : V → List V → Hp → VK → Prop := fun x xs H Q => ∃ (a b : Addr) (kvs more : List (List Key × V)), x = .ref a ∧ xs = [.ref b] ∧ H a = some (.dT kvs) ∧ H b = some (.dT more) ∧ a ≠ b ∧ kvs ≠ [] ∧ kvs.length + more.length ≤ 1000000 ∧ Q .non (upd H a (.dT (mergK kvs more)))
theorem mt_updT {X : Cx} (hu : X.A.units + 1 < cLine) : MtR X "dict.update" rUpdT := by
  intro pins s σ H x xs v us Q I rx rxs h
  obtain ⟨a, b, kvs, more, rfl, rfl, ha, hb, hab, hne, hl, q⟩ := h
  cases rx
  obtain rfl := Vals.ref1 rxs
  obtain ⟨z, hd, xs', rel, dd⟩ := dt_of I.hok ha
  obtain ⟨z2, hd2, ps, rel2, dd2⟩ := dt_of I.hok hb
  have e1 := Paired.length rel
  have e2 := Paired.length rel2
  have hz : xs'.length + ps.length ≤ sizeLine := by rw [← e1, ← e2]; exact Nat.le_trans hl (by decide)
  refine call_update_dictH (knd := tupleKind (mixKind X.prog X.w)) (tupleKind_room_in1 hu) hab hd2 dd dd2 (.inl fun e => hne ?_) hz fun h' dd' _ hs => ?_
  · rw [e] at e1
    exact List.length_eq_zero_iff.mp e1
  · obtain ⟨o, es, ep, hq, h2, h3, h4, _, h5⟩ := dd'
    have hml : (mergK kvs more).length ≤ sizeLine := Nat.le_trans (mergK_len more kvs) (Nat.le_trans hl (by decide))
    have I2 : Inv X pins σ (upd H a (.dT (mergK kvs more))) { s with heap := h' } :=
      d_write (t' := s.toks) I (by rw [ha]; exact True.intro) hs ⟨o, hq⟩ ⟨hml, hd, _, (KT_all rel rel2).keeps (fun c ys ec => (by rw [upd_ne (ne_of ec ha (fun z => nomatch z))]; exact ec)), o, es, ep, hq, h2, h3, h4, h5⟩
    exact ⟨.non, _, I2, rfl, q⟩
theorem w_upd {H : Hp} {Q : VK} {a b : Addr} {kvs more : List (List Key × V)} (ha : H a = some (.dT kvs)) (hb : H b = some (.dT more)) (hab : a ≠ b) (hne : kvs ≠ []) (hl : kvs.length + more.length ≤ 1000000) (q : Q .non (upd H a (.dT (mergK kvs more)))) : rUpdT (.ref a) [.ref b] H Q :=
  ⟨a, b, kvs, more, rfl, rfl, ha, hb, hab, hne, hl, q⟩
theorem ty_dT {K : PySem.W.Frag} {H : Hp} {a : Addr} {kvs : List (List Key × V)} (ha : H a = some (.dT kvs)) : tyV K "dict" (.ref a) H := .inr (.inr (.inl ⟨rfl, .inr ⟨kvs, ha⟩⟩))
/-- either rule will do -/
theorem peOr {X : Cx} {e : Expr} {t u : TE} (h : PE X e t) (k : PE X e u) : PE X e (fun σ H Q => t σ H Q ∨ u σ H Q) := ⟨fun pins s σ H Q I q => q.elim (h.run pins s σ H Q I) (k.run pins s σ H Q I)⟩
/-- an if by two tests, whose ways meet again -/
theorem r_waJ {c : Prop} [Decidable c] {te : TT} {t1 t2 : TS} {D : Ends} {σ : L2.St} {H : Hp} (W : L2.St → Hp → Prop) (hk : ∀ σ' H', W σ' H' → D.nx σ' H')
    (h1 : c → ∀ N : L2.St → Hp → Prop, (∀ σ' H', W σ' H' → N σ' H') → te σ H fun b H1 => if b = true then t1 { D with nx := N } σ H1 else t2 { D with nx := N } σ H1) (h2 : ¬ c → ∀ N : L2.St → Hp → Prop, (∀ σ' H', W σ' H' → N σ' H') → t2 { D with nx := N } σ H) :
    if decide c = true then te σ H (fun b H1 => if b = true then t1 D σ H1 else t2 D σ H1) else if false = true then t1 D σ H else t2 D σ H := r_w (fun h => h1 h D.nx hk) fun h => r_F (h2 h D.nx hk)
theorem r_naJ {c : Prop} [Decidable c] {te : TT} {t1 t2 : TS} {D : Ends} {σ : L2.St} {H : Hp} (W : L2.St → Hp → Prop) (hk : ∀ σ' H', W σ' H' → D.nx σ' H')
    (h1 : ¬ c → ∀ N : L2.St → Hp → Prop, (∀ σ' H', W σ' H' → N σ' H') → te σ H fun b H1 => if b = true then t1 { D with nx := N } σ H1 else t2 { D with nx := N } σ H1) (h2 : c → ∀ N : L2.St → Hp → Prop, (∀ σ' H', W σ' H' → N σ' H') → t2 { D with nx := N } σ H) :
    if (!decide c) = true then te σ H (fun b H1 => if b = true then t1 D σ H1 else t2 D σ H1) else if false = true then t1 D σ H else t2 D σ H := r_nw (fun h => h1 h D.nx hk) fun h => r_F (h2 h D.nx hk)
theorem inV_nats {p : Nat} {xs : List Nat} : inV (.int (p : Nat)) (xs.map fun n : Nat => V.int n) = decide (p ∈ xs) := by
  unfold inV
  rw [List.any_map]
  induction xs with
  | nil => simp
  | cons x xs ih =>
    rw [List.any_cons, ih]
    by_cases e : p = x
    · subst e; simp [eqV]
    · have e2 : ¬ ((x : Int) = (p : Int)) := by omega
      simp [eqV, e, e2]
theorem flat_nats {xs : List Nat} : (xs.map fun n : Nat => V.int n).all flatV = true := by
  rw [List.all_map]
  exact List.all_eq_true.mpr fun _ _ => rfl
section
variable {K : PySem.W.Frag} {H : Hp} {Q : VK} {a : Addr} {xs : List Nat} {p : Nat}
theorem v_inN (h : SqL K H a (xs.map fun n : Nat => V.int n)) (k : Q (.bl (decide (p ∈ xs))) H) : rIn K false (.int (p : Nat)) (.ref a) H Q := ⟨a, _, rfl, .inl h, rfl, flat_nats, by rw [inV_nats]; exact k⟩
theorem v_niN (h : SqL K H a (xs.map fun n : Nat => V.int n)) (k : Q (.bl (!decide (p ∈ xs))) H) : rIn K true (.int (p : Nat)) (.ref a) H Q := ⟨a, _, rfl, .inl h, rfl, flat_nats, by rw [inV_nats]; exact k⟩
end
/-! dicts of numbers -/
theorem v_dputK {H : Hp} {P : Hp → Prop} {d : Addr} {kvs : List (Key × V)} {i : Int} {v : V} (hd : H d = some (.dK kvs)) (hl : kvs.length < 1000000) (k : P (upd H d (.dK (putK kvs (.inl i) v)))) : kDPut (.ref d) (.int i) v H P := ⟨d, _, rfl, DPut.k (k := .inl i) hd (Nat.lt_trans hl (by decide)), k⟩
theorem v_dgetK {H : Hp} {Q : VK} {d : Addr} {kvs : List (Key × V)} {i : Int} {v : V} (hd : H d = some (.dK kvs)) (e : valV kvs (.inl i) = some v) (q : Q v H) : kDGet (.ref d) (.int i) H Q := ⟨d, v, rfl, by rw [← e]; exact DGet.k (k := .inl i) hd, q⟩
/-! isinstance of an own class -/
structure IsiC (K : PySem.W.Frag) (C : Addr) : Prop where
  ca : PySem.W.findIn K (.ref C) "__class__" = some (some (.builtin "object.__class__"))
  cn : PySem.W.specialIn K (.builtin "object.__class__") "__get__" = some (some (.builtin "getset_descriptor.__get__"))
  ct : PySem.W.takesIn K (.builtin "object.__class__") = some true
  cm : PySem.W.mroIn K C (.type "object") = some true
theorem isi_ins {K : PySem.W.Frag} {H : Hp} {Q : VK} {a C D dx : Addr} {fs : List (Str × V)} {b : Bool} (ho : H a = some (.ins C dx fs)) (cl : Cls K C) (i : IsiC K C) (kt : PySem.W.kitOne K (.ref C) (.ref D) = some b) (k : Q (.bl b) H) : rIsi K [.ref a, .ref D] H Q :=
  v_isi (.own D) (.base (.ins ho cl i.ca i.cn i.ct i.cm)) kt k
end SH

set_option Elab.async false
set_option linter.all false
set_option maxRecDepth 100000
set_option maxHeartbeats 4000000
/-! SHN: C(e, .., k = v): an instance made with keywords -/
namespace SH
open PySem PySem.Spec PyProof.Rows L2
structure CalCK (P : Program) (w : World) (K : PySem.W.Frag) (mg : Str → Option Value) (base : Heap) (CX : CXT) (k : Nat) (x : Str) (C : Addr) (n : Nat) (ks : List Str) (gV : List V → List V → List V) (sp : Sp) : Prop where
  ex : ∃ (f : Addr) (fd : FuncData) (ps : List Str) (g : List Value → List Value → List Value), mg x = some (.ref C) ∧ L2.Mk K C f ∧ KBn K fd ps (n + 1) ks g gV ∧ FnOk P w K mg base CX k f fd ps sp
section
variable {X : Cx} {CX : CXT} {k j n : Nat} {C : Addr} {sp : Sp} {gV : List V → List V → List V} {ks : List Str} {E : XK} {x : Str} {p pos : Pos} {e : Expr} {es : List Expr} {kws : List Keyword} {t tk : TA}
theorem pe_makeKF (c : CalCK X.prog X.w X.K X.mg X.base CX j x C n ks gV sp) (hr : Room k X.A) (hg : Gl X x) (hx : Passes CX X E) (ha : PA X (e :: es) t) (hkw : PK X kws tk) (hk : j + 1 ≤ k := by decide)
    (hall : (backToKw pos (keywordEach kws X.env)).all (·.1.isSome) = true := by rfl) (hks : (backToKw pos (keywordEach kws X.env)).filterMap (·.1) = ks := by rfl)
    (hdb : (x == ("__debug__" : Str)) = false := by decide) (he : starEach (e :: es) X.env = (false, eval e X.env) :: starEach es X.env := by rfl)
    (hpl : ((backTo pos (starEach (e :: es) X.env)).any (·.1) || (backToKw pos (keywordEach kws X.env)).any (·.1.isNone)) = false := by rfl) :
    PE X (.Call (.Name x p) (e :: es) kws pos) (tMakeN C n ks.length sp gV E t tk) := by
  obtain ⟨f, fd, ps, g, h1, h2, h3, h5⟩ := c.ex
  exact pe_makeN h2 h5 (hr.mono hk) hg h1 h3 hx ha hkw hall hks hdb he hpl
def kMakeN (C : Addr) (n m : Nat) (sp : Sp) (gV : List V → List V → List V) (E : XK) (Q : VK) (vs zs : List V) (H2 : Hp) : Prop := vs.length = n ∧ zs.length = m ∧
  ∀ x dx, H2 x = none → H2 dx = none → dx ≠ x → sp (gV (.ref x :: vs) zs) (upd (upd H2 dx (.own x)) x (.ins C dx [])) (fun v H3 => v = .non ∧ Q (.ref x) H3) E
theorem r_makeN {C : Addr} {n m : Nat} {σ : L2.St} {H : Hp} {Q : VK} (h : t σ H fun vs H1 => tk σ H1 fun zs H2 => kMakeN C n m sp gV E Q vs zs H2) : tMakeN C n m sp gV E t tk σ H Q := h
end
/-! a name of one's own that holds a def of the module -/
section
variable {X : Cx} {k j i : Nat} {f : Addr} {sp : Sp} {x : Str} {p pos : Pos} {e : Expr} {es : List Expr} {t : TA}
theorem pe_callLF (c : Held X.prog X.w X.K X.mg X.base j f sp) (hr : Room k X.A) (hN : X.N[i]? = some x) (hv : Vis X.env.scope x) (ha : PA X (e :: es) t) (hk : j ≤ k := by decide)
    (hdb : (x == ("__debug__" : Str)) = false := by decide) (hcd : (x == ("__classdict__" : Str)) = false := by decide)
    (he : starEach (e :: es) X.env = (false, eval e X.env) :: starEach es X.env := by rfl) (hpl : (backTo pos (starEach es X.env)).any (·.1) = false := by rfl) : PE X (.Call (.Name x p) (e :: es) [] pos) (tCallL i f sp [] (fun _ _ _ => False) t) := by
  obtain ⟨fd, ps, F, h1, h2⟩ := c.ex
  exact pe_callL F (hr.mono hk) hN hv h1 h2 .nil (fun _ _ _ _ _ _ _ z => z.elim) ha hdb hcd he hpl
theorem r_callL {σ : L2.St} {H : Hp} {Q : VK} {E : XK} (hs : σ[i]? = some (some (.ref f))) (k : t σ H fun vs H1 => sp (vs ++ []) H1 Q E) : tCallL i f sp [] E t σ H Q := ⟨hs, k⟩
end
end SH

set_option Elab.async false
set_option linter.all false
set_option maxRecDepth 100000
set_option maxHeartbeats 4000000
/-! SHT: set(xs), xs a list of ints -/
namespace SH
open PySem PySem.Spec PyProof.Rows L2
section
variable {P : Program} {w : World} {A : Around} {E : Value → Shared → Prop} {s : Shared}
abbrev set0O (w : World) : Obj := { cls := .type "set", dict := none, data := .set #[] 0 (.fresh 0 0 (!w.params.followText "set-order")) }
set_option maxHeartbeats 8000000 in
theorem call_set_lst {l : Addr} {items : Array Value} (ns : List Int) {Q : Value → Shared → Prop} (hh : A.handled = none) (hl : s.heap.IsList l items) (hit : IntsAre items.toList ns) (hb : ns.length + 1 < scanBound)
    (k : ∀ (h' : Heap) (tk c : Nat), SetR w h' s.heap.objs.size (fun j => decide (j ∈ ns)) c → c ≤ ns.length → (∀ b o, s.heap.get? b = some o → h'.get? b = some o) → Q (.ref s.heap.objs.size) { s with heap := h', toks := tk }) :
    wpAny (model P w) A (call (.type "set") [.ref l]) Q E s := by
  have hisz : items.size = ns.length := by have q := IntsAre.length hit; rw [Array.length_toList] at q; exact q
  obtain ⟨c, tl, hmro⟩ := F.called_set.mro; have hmade := F.called_set.made; have hsub := F.called_set.sub
  refine wpAny_call (codeAny_of_tree ?_); show wpAny _ _ (callAny (.type "set") _) _ _ _
  refine wpAny_pure ⟨Code.quiet_builtin _ (by decide +kernel), codeAny_builtin F.entry_type_call ?_⟩; rw [Around.under_plain (weight_type_call_type "set" [.ref l] []) rfl]
  have h1 := F.called_set.notType; have h2 := F.called_set.canCreate; have hct := F.typeCall_set_1 (.ref l)
  (repeat (any_goals (first | assumption | wp_step)))
  refine codeAny_mono (code_set_led1 (.ref l) (E := E) (Q₁ := fun obj s1 => obj = .ref s.heap.objs.size ∧ s1 = { s with heap := s.heap.push (set0O w) }) ⟨rfl, rfl⟩) fun r s1 hr => ?_
  match r, hr with
  | .error e, hr => exact hr
  | .ok .next, hr => exact hr.elim
  | .ok .brk, hr => exact hr.elim
  | .ok .cont, hr => exact hr.elim
  | .ok (.ret obj), hr =>
    obtain ⟨e1, e2⟩ := hr; subst e1; subst e2
    have hS : (s.heap.push (set0O w)).get? s.heap.objs.size = some (set0O w) := Heap.get?_push_size _ rfl
    have hT : Shared.TypeIs { s with heap := s.heap.push (set0O w) } (.ref s.heap.objs.size) "set" := ⟨_, hS, rfl⟩
    have hli := F.called_set.init.lookup; have hbi := F.called_set.init.bind (.ref s.heap.objs.size)
    (repeat (any_goals (first | assumption | wp_step)))
    refine codeAny_mono (codeAny_call_builtin (R := wants (fun r s2 => r = .none ∧ ∃ h' tk c, s2 = { s with heap := h', toks := tk } ∧ SetR w h' s.heap.objs.size (fun j => decide (j ∈ ns)) c ∧ c ≤ ns.length ∧ (∀ b o, s.heap.get? b = some o → h'.get? b = some o)) E) F.called_set.init.plain F.entry_set_init (check_set_init_1 hT ?_)) fun r2 s2 hr2 => ?_
    · obtain ⟨⟨ocls, odict, odata, oslots⟩, hol, hcl, nl, hdl⟩ := id hl
      simp only at hcl hdl; subst hcl; subst hdl
      have hol' : (s.heap.push (set0O w)).get? l = some { cls := .type "list", dict := odict, data := .seq items nl, slots := oslots } := Heap.get?_push_of_some _ hol
      have hsls := F.sub_list_set; have hslf := F.sub_list_frozenset
      have hne : (Value.type "list" == Value.type "dict") = false := by decide
      have hl1 : (s.heap.push (set0O w)).IsList l items := ⟨_, hol', rfl, nl, rfl⟩
      unfold Builtin.«set.__init__» noKeywords; unfold Builtin.Frozenset.updateFrom
      generalize hPI : pyIter = PI
      wp_walk; subst hPI
      refine wpAny_pyIter_list hl1 ?_; refine wpAny_bind (wpAny_runValue ?_)
      have hlS : l < s.heap.objs.size := Heap.lt_size hol; have hh3 : A.in1.in1.in1.handled = none := by simp [hh]
      have hz1 : (s.heap.push (set0O w)).objs.size = s.heap.objs.size + 1 := Heap.size_push ..
      have hneI : (s.heap.push (set0O w)).objs.size ≠ l := by rw [hz1]; exact Nat.ne_of_gt (Nat.lt_succ_of_lt hlS)
      have hSf : s.heap.objs.size ∉ [(s.heap.push (set0O w)).objs.size, l] := by rw [hz1]; simp only [List.mem_cons, List.not_mem_nil, or_false, not_or]; exact ⟨Nat.ne_of_lt (Nat.lt_succ_self _), Nat.ne_of_gt hlS⟩
      have hval : ∀ (i : Nat) (v : Value), items[i]? = some v → ∃ k t, ns[i]? = some k ∧ v = .int k t := fun i v hv => by
        have hi : i < ns.length := by have := (Array.getElem?_eq_some_iff.mp hv).1; omega
        obtain ⟨t, e⟩ := PyProof.Rows.IntsAre.int_at hit i v (by rw [Array.getElem?_toList]; exact hv)
        exact ⟨ns[i], t, List.getElem?_eq_getElem hi, by rw [e, List.getD_eq_getElem?_getD, List.getElem?_eq_getElem hi] <;> rfl⟩
      refine set_update_ints ((Walks.list (prog := P) (w := w) hh3 _ l hneI.symm items).toS) s.heap.objs.size hSf ns hisz hb hval (items.size - 0) 0 _ (by omega) (Nat.zero_le _) ⟨⟨_, Heap.get?_push_size _ rfl, rfl, rfl⟩, hl1.push _⟩ ⟨0, Nat.le_refl 0, setR_new_at (Heap.get?_push_of_some _ hS)⟩ ?_
      intro s' c' hm hc' hS'
      obtain ⟨h', g2, d', tk', os'⟩ := s'
      obtain rfl : g2 = s.gens := hm.gens
      obtain rfl : d' = s.drawn := hm.drawn
      obtain rfl : os' = s.os := hm.os
      show wpAny _ _ _ _ _ _; refine wpAny_pure ?_; show wpAny _ _ (ret Value.none) _ _ _
      rw [hisz] at hc'
      refine wpAny_pure ⟨rfl, h', tk', c', rfl, hS', hc', fun b o e => hm.heap b o ?_ (Heap.get?_push_of_some _ (Heap.get?_push_of_some _ e))⟩
      have hb0 : b < s.heap.objs.size := Heap.lt_size e
      rw [hz1]; simp only [List.mem_cons, List.not_mem_nil, or_false, not_or]; exact ⟨Nat.ne_of_lt hb0, Nat.ne_of_lt (Nat.lt_succ_of_lt hb0)⟩
    · match r2, hr2 with
      | .error e, hr2 => exact hr2
      | .ok .next, hr2 => exact hr2.elim
      | .ok .brk, hr2 => exact hr2.elim
      | .ok .cont, hr2 => exact hr2.elim
      | .ok (.ret r), hr2 =>
        obtain ⟨e1, h', tk, c', e2, hS', hc', hk'⟩ := hr2
        subst e1; subst e2
        (repeat (any_goals (first | assumption | wp_step)))
        exact k _ _ _ hS' hc' hk'
end
/-- set(xs) -/
def rSetL (K : PySem.W.Frag) (w : World) : List V → Hp → VK → Prop := fun vs H Q => ∃ (a : Addr) (ns : List Int), vs = [V.ref a] ∧ SqL K H a (ns.map V.int) ∧ ns.length ≤ 1000 ∧
  ∀ (p : Addr) (c : Nat), H p = none → c ≤ ns.length → Q (.ref p) (upd H p (SetO w p (fun j => decide (j ∈ ns)) c))
theorem cr_setL {X : Cx} (hc : X.calm = true) : CallR X (.type "set") (rSetL X.K X.w) := by
  intro pins s σ H vs us Q I r h
  obtain ⟨a, ns, rfl, hq, hl, q⟩ := h
  rw [Vals.ref1 r]
  obtain ⟨its, rv, pt, hz⟩ := I.list hq
  have hi : IntsAre its.toArray.toList ns := ints_of_vals rv
  refine call_set_lst ns (I.ok.hd hc) pt.isList hi (by unfold scanBound; omega) fun h' tk c R1 hcn k => ?_
  exact ⟨.ref _, upd H s.heap.objs.size (SetO X.w s.heap.objs.size (fun j => decide (j ∈ ns)) c), I.laid (t' := tk) k (Nat.le_refl _) (setO_new R1), rfl, q _ c (I.hok.fresh (Nat.le_refl _)) hcn⟩
/-- sorted(set(xs)), xs ints -/
def kSortSet (K : PySem.W.Frag) (w : World) (Q : VK) : VK := fun v H1 => ∃ (a : Addr) (ns : List Int), v = .ref a ∧ SqL K H1 a (ns.map V.int) ∧ ns.length < 64 ∧
  ∀ (ms : List Int) (p q : Addr) (o : HO), ms.Pairwise (· < ·) → (∀ k, k ∈ ms ↔ k ∈ ns) → ms.length ≤ ns.length → H1 p = none → (upd H1 p o) q = none → Q (.ref q) (upd (upd H1 p o) q (.lst (ms.map V.int)))
end SH

set_option Elab.async false
set_option linter.all false
set_option maxRecDepth 100000
set_option maxHeartbeats 4000000
/-! SHX: defs that raise, try, what is caught -/
namespace SH
open PySem PySem.Spec PyProof.Rows L2
section
variable {X : Cx} {CX : CXT} {k j : Nat} {sp : Sp} {dvs : List V} {E : L2.St → XK} {x : Str} {p pos : Pos} {e : Expr} {es : List Expr} {t : TA}
/-- a call in a try: what is raised is wished for at the slots -/
theorem pe_callX (c : Cal X.prog X.w X.K X.mg X.base CX j x dvs sp) (hr : Room k X.A) (hg : Gl X x) (hx : ∀ σ, PassesAt CX X σ (E σ)) (ha : PA X (e :: es) t) (hk : j ≤ k := by decide)
    (hdb : (x == ("__debug__" : Str)) = false := by decide) (he : starEach (e :: es) X.env = (false, eval e X.env) :: starEach es X.env := by rfl) (hpl : (backTo pos (starEach es X.env)).any (·.1) = false := by rfl) :
    PE X (.Call (.Name x p) (e :: es) [] pos) (tCallSD sp dvs E t) := by
  obtain ⟨f, fd, ps, ds, h1, h2, h3, h4, h5⟩ := c.ex
  exact pe_callSD h5 (hr.mono hk) hg h1 h2 h3 h4 hx ha hdb he hpl
theorem r_callX {σ : L2.St} {H : Hp} {Q : VK} (h : t σ H fun vs H1 => sp (vs ++ dvs) H1 Q (E σ)) : tCallSD sp dvs E t σ H Q := h
/-- isinstance of what a suite holds, an error without a dict -/
def rIsX (K : PySem.W.Frag) (cls : Value) (d : Option Addr) (a : Addr) : List V → Hp → VK → Prop := fun xs H Q => ∃ D, cls = .ref D ∧ d = none ∧ ExcC K D ∧ rIsE K D a xs H Q
theorem call_isX {a : Addr} {oe : Obj} {cls : Value} {d : Option Addr} {pn : List (Addr × Obj)} (hz : Zc cls d oe) (hf : ∃ vs, oe.data = .fields vs) : CallR (X.suite a ((a, oe) :: pn)) (.builtin "isinstance") (rIsX X.K cls d a) := by
  intro pins s σ H xs us Q I r h
  obtain ⟨D, rfl, rfl, C, h⟩ := h
  exact call_isE C hz hf pins s σ H xs us Q I r h
theorem v_isX {K : PySem.W.Frag} {D C a : Addr} {H : Hp} {Q : VK} {b : Bool} (hc : ExcC K D) (h : PySem.W.kitOne K (.ref D) (.ref C) = some b) (k : Q (.bl b) H) : rIsX K (.ref D) none a [.ref a, .ref C] H Q :=
  ⟨D, rfl, rfl, hc, .ref C, .ref C, b, rfl, fun _ r => r, h, k⟩
theorem v_isXT {K : PySem.W.Frag} {D a : Addr} {n : String} {H : Hp} {Q : VK} {b : Bool} (hc : ExcC K D) (h : PySem.W.kitOne K (.ref D) (.type n) = some b) (k : Q (.bl b) H) : rIsX K (.ref D) none a [.ref a, .ty n] H Q :=
  ⟨D, rfl, rfl, hc, .ty n, .type n, b, rfl, fun _ r => r, h, k⟩
/-- what an except clause asks: the class is caught -/
theorem r_catch {K : PySem.W.Frag} {c cls : Value} {d : Option Addr} {i : Nat} {ts : Addr → Value → Option Addr → TS} {Wo : WX} {D : Ends} {σ : L2.St} {H : Hp} (h : PySem.W.exmOne K cls c = some true)
    (k : ∀ a, H a = none → ts a cls d { nx := fun σ' H' => D.nx (σ'.set i none) H', rt := D.rt, bk := fun σ' H' => D.bk (σ'.set i none) H', ct := fun σ' H' => D.ct (σ'.set i none) H' } (σ.set i (some (.ref a))) H) : wAs K c i ts Wo D cls d σ H :=
  ⟨true, h, fun _ => k, fun z => by cases z⟩
end
end SH

set_option Elab.async false
set_option linter.all false
set_option maxRecDepth 100000
set_option maxHeartbeats 4000000
/-! SHY: exceptions with fields: made by an own __init__, raised, caught, read; methods and makes that raise in a try -/
namespace SH
open PySem PySem.Spec PyProof.Rows L2
/-- the exception class at C, by its name x, made by an __init__ that keeps sp -/
structure CalE (P : Program) (w : World) (K : PySem.W.Frag) (mg : Str → Option Value) (base : Heap) (k : Nat) (x : Str) (C : Addr) (sp : Sp) : Prop where
  ox : OexC K C
  ex : ∃ (f : Addr) (fd : FuncData) (ps : List Str), mg x = some (.ref C) ∧ PySem.W.findIn K (.ref C) "__init__" = some (some (.ref f)) ∧ PySem.W.typeIn K (.ref f) = some (.type "function") ∧ Binds K fd ps [] ∧ FnOk P w K mg base CX0 k f fd ps sp
section
variable {X : Cx} {CX : CXT} {k j : Nat} {C : Addr} {sp : Sp} {dvs : List V} {E : L2.St → XK} {x m : Str} {p pos apos : Pos} {e o : Expr} {es : List Expr} {ta : TE} {t : TA}
theorem pmk_oexF (c : CalE X.prog X.w X.K X.mg X.base j x C sp) (hr : Room k X.A) (hg : Gl X x) (ha : PA X (e :: es) t) (hk : j + 1 ≤ k := by decide)
    (hdb : (x == ("__debug__" : Str)) = false := by decide) (he : starEach (e :: es) X.env = (false, eval e X.env) :: starEach es X.env := by rfl) (hpl : (backTo pos (starEach es X.env)).any (·.1) = false := by rfl) :
    PMk X (.Call (.Name x p) (e :: es) [] pos) (tMkO C sp [] t) := by
  obtain ⟨f, fd, ps, h1, h2, h3, h4, h5⟩ := c.ex
  exact pmk_oex c.ox h2 h3 h5 (hr.mono hk) h4 .nil pass0 hg h1 ha hdb he hpl
def tMethSD (C : Addr) (m : Str) (sp : Sp) (dvs : List V) (E : L2.St → XK) (ta : TE) (t : TA) : TE := fun σ H Q => ta σ H fun x H1 => ∃ a dx fs, x = .ref a ∧ H1 a = some (.ins C dx fs) ∧ fs.lookup m = none ∧ t σ H1 fun vs H2 => sp (x :: (vs ++ dvs)) H2 Q (E σ)
theorem pe_methX {pl : Sem Bool} (he : PE X o ta) (c : CalM X.prog X.w X.K X.mg X.base CX j C m dvs sp) (hr : Room k X.A) (hx : ∀ σ, PassesAt CX X σ (E σ)) (ha : PA X (e :: es) t) (hk : j ≤ k := by decide)
    (hst : starEach (e :: es) X.env = (false, eval e X.env) :: starEach es X.env := by rfl) (hpl : (backTo pos (starEach es X.env)).any (·.1) = false := by rfl)
    (ht : eval (.Call (.Attribute o m apos) (e :: es) [] pos) X.env = (do
      let ov ← eval o X.env; standAt apos.atName
      let (f, first) ← holding [ov] (getMethod ov m pl); callWith pos f first (backTo pos (starEach (e :: es) X.env)) (backToKw pos (keywordEach [] X.env))) := by rfl) :
    PE X (.Call (.Attribute o m apos) (e :: es) [] pos) (tMethSD C m sp dvs E ta t) := by
  obtain ⟨f, fd, ps, ds, h1, h3, h4, h5⟩ := c.ex
  refine ⟨fun pins s σ H Q I h => PySem.W.methodCall_KW (pl := pl) (thn (he.run pins s σ H _ I h) fun u s1 ⟨x, H1, I1, rx, a, dx, fs, ex, ea, l, q⟩ => ?_) ht⟩
  subst ex; obtain rfl : u = Value.ref a := rx
  refine getmeth_ok I1 ea c.cl h1 l (PySem.W.callWith_K (first := [.ref a]) (h₀ := X.base) I.ok.mod.kin h1.kp (thn (ha.run pos pins s1 σ H1 _ I1 q) fun us s2 ⟨vs, H2, I2, r, q2⟩ => ⟨I2.kIn, ?_⟩) hst hpl)
  exact run_fnSD (us := .ref a :: us) (vs := .ref a :: vs) h5 (hr.mono hk) h3 h4 (hx σ) I2 (.cons rfl r) q2
theorem pe_methX0 {pl : Sem Bool} (he : PE X o ta) (c : CalM X.prog X.w X.K X.mg X.base CX j C m dvs sp) (hr : Room k X.A) (hx : ∀ σ, PassesAt CX X σ (E σ)) (hk : j ≤ k := by decide)
    (ht : eval (.Call (.Attribute o m apos) [] [] pos) X.env = (do
      let ov ← eval o X.env; standAt apos.atName
      let (f, first) ← holding [ov] (getMethod ov m pl); callWith pos f first (backTo pos (starEach [] X.env)) (backToKw pos (keywordEach [] X.env))) := by rfl) :
    PE X (.Call (.Attribute o m apos) [] [] pos) (tMethSD C m sp dvs E ta tNil) := by
  obtain ⟨f, fd, ps, ds, h1, h3, h4, h5⟩ := c.ex
  refine ⟨fun pins s σ H Q I h => PySem.W.methodCall_KW (pl := pl) (thn (he.run pins s σ H _ I h) fun u s1 ⟨x, H1, I1, rx, a, dx, fs, ex, ea, l, q⟩ => ?_) ht⟩
  subst ex; obtain rfl : u = Value.ref a := rx
  exact getmeth_ok I1 ea c.cl h1 l (PySem.W.callWith_K0 (first := [.ref a]) I1.kIn h1.kp (run_fnSD (us := [.ref a]) (vs := [.ref a]) h5 (hr.mono hk) h3 h4 (hx σ) I1 (.cons rfl .nil) q))
def tMakeSD (C : Addr) (sp : Sp) (dvs : List V) (E : L2.St → XK) (t : TA) : TE := fun σ H Q => t σ H fun vs H1 => ∀ x dx, H1 x = none → H1 dx = none → dx ≠ x → sp (.ref x :: (vs ++ dvs)) (upd (upd H1 dx (.own x)) x (.ins C dx [])) (fun v H2 => v = .non ∧ Q (.ref x) H2) (E σ)
theorem run_makeSD {f : Addr} {fd : FuncData} {ps : List Str} {ds : List Value} {pins : List (Addr × Obj)} {σ : L2.St} {H : Hp} {s : Shared} {Q : VK} {us : List Value} {vs : List V} (M : L2.Mk X.K C f) (F : FnOk X.prog X.w X.K X.mg X.base CX k f fd ps sp) (hr : Room (k + 1) X.A) (hb : Binds X.K fd ps ds) (hd : Vals dvs ds)
    (hx : PassesAt CX X σ (E σ)) (I : Inv X pins σ H s) (r : Vals vs us) (h : ∀ x dx, H x = none → H dx = none → dx ≠ x → sp (.ref x :: (vs ++ dvs)) (upd (upd H dx (.own x)) x (.ins C dx [])) (fun v H2 => v = .non ∧ Q (.ref x) H2) (E σ)) :
    wpAny (model X.prog X.w) X.A (call (.ref C) us) (EP X pins σ Q) X.xe s := by
  have hq := h (s.heap.objs.size + 1) s.heap.objs.size (I.hok.fresh (Nat.le_succ _)) (I.hok.fresh (Nat.le_refl _)) (Nat.ne_of_lt (Nat.lt_succ_self _)); have I2 := Inv.made (C := C) I
  have r2 : Vals (V.ref (s.heap.objs.size + 1) :: (vs ++ dvs)) (Value.ref (s.heap.objs.size + 1) :: (us ++ ds)) := .cons rfl (r.append hd); have hl : (Value.ref (s.heap.objs.size + 1) :: us ++ ds).length = ps.length := by have e := r2.length; rw [F.len _ _ _ _ hq] at e; exact e.symm
  refine wpAny_call (make_map (f := f) I.kIn M.makes M.init (beq_iff_eq.mp M.fn) (codeAny_mono (F.run _ X.stack _ _ ⟨Value.ref (s.heap.objs.size + 1) :: us, []⟩ (Value.ref (s.heap.objs.size + 1) :: (us ++ ds)) _ _ (E σ) (hr.make C us []) (I2.env0.make C us []) (hb _ (Value.ref (s.heap.objs.size + 1) :: us) I2.kIn hl) r2 hq) fun r s' hq' => ?_))
  match r, hq' with
  | .error e, hq' => exact hx pins _ _ e s' I2 hq'
  | .ok (.ret u), hq' => obtain ⟨v, H', I3, rv, ev, q3⟩ := I2.after hq'; subst ev; exact ⟨rv, ⟨V.ref (s.heap.objs.size + 1), H', I3, rfl, q3⟩⟩
  | .ok .next, hq' => exact False.elim hq'
  | .ok .brk, hq' => exact False.elim hq'
  | .ok .cont, hq' => exact False.elim hq'
theorem pe_makeX (c : CalC X.prog X.w X.K X.mg X.base CX j x C dvs sp) (hr : Room k X.A) (hg : Gl X x) (hx : ∀ σ, PassesAt CX X σ (E σ)) (ha : PA X (e :: es) t) (hk : j + 1 ≤ k := by decide)
    (hdb : (x == ("__debug__" : Str)) = false := by decide) (he : starEach (e :: es) X.env = (false, eval e X.env) :: starEach es X.env := by rfl) (hpl : (backTo pos (starEach es X.env)).any (·.1) = false := by rfl) :
    PE X (.Call (.Name x p) (e :: es) [] pos) (tMakeSD C sp dvs E t) := by
  obtain ⟨f, fd, ps, ds, h1, h2, h3, h4, h5⟩ := c.ex
  refine ⟨fun pins s σ H Q I h => wpAny_Call_Name_kw (ld_glob I hg h1 (PySem.W.callWith_K (h₀ := X.base) I.ok.mod.kin h2.kp (thn (ha.run pos pins s σ H _ I h) fun us s1 ⟨vs, H1, I1, r, q⟩ => ⟨I1.kIn, ?_⟩) he hpl) hdb)⟩
  exact run_makeSD h2 h5 (hr.mono hk) h3 h4 (hx σ) I1 r q
end
section
variable {K : PySem.W.Frag} {σ : L2.St} {H : Hp} {Q : VK} {C : Addr} {f : Str} {v : V}
/-- what is asked of the own __init__ of a class with one field -/
def sp1 (f : Str) (C : Addr) : Sp := fun vs H Q _ => ∃ (a : Addr) (v : V), vs = [.ref a, v] ∧ H a = some (exo a C none) ∧ ∀ dx, H dx = none → dx ≠ a → Q .non (upd (upd H dx (exd dx [(f, v)])) a (exo a C (some dx)))
def kMkO (C : Addr) (sp : Sp) (dvs : List V) (R : XK) : List V → Hp → Prop := fun vs H1 => vs.length ≤ 1000 ∧ ∀ a, H1 a = none → sp (.ref a :: (vs ++ dvs)) (upd H1 a (exo a C none))
  (fun v H2 => v = .non ∧ ∃ (d : Addr) (fs : List (Str × V)), H2 a = some (exo a C (some d)) ∧ H2 d = some (exd d fs) ∧ H1 d = none ∧ R (.ref C) (some d) (upd (del H2 a) d (.xd fs))) (fun _ _ _ => False)
theorem r_mkO {sp : Sp} {dvs : List V} {t : TA} {R : XK} (h : t σ H (kMkO C sp dvs R)) : tMkO C sp dvs t σ H R := h
theorem v_raise1 {R : XK} (q : ∀ d, H d = none → R (.ref C) (some d) (upd H d (.xd [(f, v)]))) : kMkO C (sp1 f C) [] R [v] H := by
  refine ⟨by simp, fun a ha => ⟨a, v, rfl, upd_same, fun dx hdx hne => ⟨rfl, dx, _, upd_same, by rw [upd_ne hne]; exact upd_same, (upd_free hdx).1, ?_⟩⟩⟩
  have hd := (upd_free hdx).1
  have e : upd (del (upd (upd (upd H a (exo a C none)) dx (exd dx [(f, v)])) a (exo a C (some dx))) a) dx (.xd [(f, v)]) = upd H dx (.xd [(f, v)]) := by
    funext b
    by_cases c1 : b = dx
    · rw [c1, upd_same, upd_same]
    · rw [upd_ne c1, upd_ne c1]
      by_cases c2 : b = a
      · rw [c2, del_same, ha]
      · rw [del_ne c2, upd_ne c2, upd_ne c1, upd_ne c2]
  rw [e]
  exact q dx hd
end
section
variable {σ : L2.St} {H : Hp} {Q : VK} {C a dx : Addr} {m : Str} {sp : Sp} {dvs : List V} {ta : TE} {t : TA} {fs : List (Str × V)} {vs : List V}
def kMethX (C : Addr) (m : Str) (sp : Sp) (dvs : List V) (E : XK) (t : TA) (σ : L2.St) (Q : VK) : VK := fun x H1 => ∃ a dx fs, x = .ref a ∧ H1 a = some (.ins C dx fs) ∧ fs.lookup m = none ∧ t σ H1 fun vs H2 => sp (x :: (vs ++ dvs)) H2 Q E
theorem r_methX {E : L2.St → XK} (h : ta σ H (kMethX C m sp dvs (E σ) t σ Q)) : tMethSD C m sp dvs E ta t σ H Q := h
theorem v_methX {E : XK} (h : H a = some (.ins C dx fs)) (l : fs.lookup m = none) (k : t σ H fun vs H2 => sp (.ref a :: (vs ++ dvs)) H2 Q E) : kMethX C m sp dvs E t σ Q (.ref a) H := ⟨a, dx, fs, rfl, h, l, k⟩
def kMakeX (C : Addr) (sp : Sp) (dvs : List V) (E : XK) (Q : VK) : List V → Hp → Prop := fun vs H1 => ∀ x dx, H1 x = none → H1 dx = none → dx ≠ x → sp (.ref x :: (vs ++ dvs)) (upd (upd H1 dx (.own x)) x (.ins C dx [])) (fun v H2 => v = .non ∧ Q (.ref x) H2) E
theorem r_makeX {E : L2.St → XK} (h : t σ H (kMakeX C sp dvs (E σ) Q)) : tMakeSD C sp dvs E t σ H Q := h
theorem v_makeX {E : XK} (k : ∀ x dx, H x = none → H dx = none → dx ≠ x → sp (.ref x :: (vs ++ dvs)) (upd (upd H dx (.own x)) x (.ins C dx [])) (fun v H2 => v = .non ∧ Q (.ref x) H2) E) : kMakeX C sp dvs E Q vs H := k
end
/-! isinstance of what a suite holds -/
def rIsY (K : PySem.W.Frag) (cls : Value) (d : Option Addr) (a : Addr) : List V → Hp → VK → Prop := fun xs H Q => ∃ D, cls = .ref D ∧ (∀ dd, d = some dd → ∃ fs, H dd = some (.xd fs)) ∧ ExcC K D ∧ rIsE K D a xs H Q
theorem call_isY {X : Cx} {a : Addr} {oe : Obj} {cls : Value} {d : Option Addr} {pn : List (Addr × Obj)} (hz : Zc cls d oe) (hf : ∃ vs, oe.data = .fields vs) : CallR (X.suite a ((a, oe) :: pn)) (.builtin "isinstance") (rIsY X.K cls d a) := by
  intro pins s σ H xs us Q I r h
  obtain ⟨D, rfl, hdd, C, c, cv, b, rfl, hcv, e, q⟩ := h
  cases r with
  | cons rx rr =>
    cases rr with
    | cons rt rr =>
      cases rr; cases rx
      have ec := hcv _ rt; subst ec
      obtain ⟨hget, _⟩ := I.pin (a, oe) (List.mem_append.mpr (.inl List.mem_cons_self)); obtain ⟨vs, hv⟩ := hf
      have hcl : (PySem.W.clsIn X.K D).isSome = true := by
        obtain ⟨cd, hc, _⟩ := PySem.W.any_some C.hd
        rw [hc]; rfl
      have J : ∃ od, PySem.W.InstAt s.heap a oe D od := by
        cases d with
        | none => exact ⟨none, hget, hz.1, by unfold PySem.W.notCls; rw [hv] <;> rfl, by rw [hz.2]; trivial⟩
        | some dd =>
          obtain ⟨fs, hfs⟩ := hdd dd rfl
          obtain ⟨mA, hns, _⟩ := (show ObjOk X.prog X.w H s.heap dd (.xd fs) from I.hok dd _ hfs)
          obtain ⟨od, ho, hl⟩ := lookIn_ns hns
          exact ⟨some od, hget, hz.1, by unfold PySem.W.notCls; rw [hv] <;> rfl, by rw [hz.2]; exact ho⟩
      obtain ⟨od, J⟩ := J
      exact PySem.W.kia_one (PySem.W.kitx_exc (od := od) hcl C.hg C.hk C.hs C.ha C.hn C.ht C.hm) I.kIn J e (fun z => nomatch z) fun tk => ⟨.bl b, H, I.kept (t' := tk) fun _ _ z => z, rfl, q⟩
section
variable {K : PySem.W.Frag} {D C a : Addr} {n : String} {H : Hp} {Q : VK} {b : Bool} {σ : L2.St}
theorem v_isY {d : Option Addr} (hd : ∀ dd, d = some dd → ∃ fs, H dd = some (.xd fs)) (hc : ExcC K D) (h : PySem.W.kitOne K (.ref D) (.ref C) = some b) (k : Q (.bl b) H) : rIsY K (.ref D) d a [.ref a, .ref C] H Q := ⟨D, rfl, hd, hc, .ref C, .ref C, b, rfl, fun _ r => r, h, k⟩
theorem v_isYT {d : Option Addr} (hd : ∀ dd, d = some dd → ∃ fs, H dd = some (.xd fs)) (hc : ExcC K D) (h : PySem.W.kitOne K (.ref D) (.type n) = some b) (k : Q (.bl b) H) : rIsY K (.ref D) d a [.ref a, .ty n] H Q := ⟨D, rfl, hd, hc, .ty n, .type n, b, rfl, fun _ r => r, h, k⟩
theorem xfOf (c : ExcC K D) : XfC K D := ⟨c.hg, c.hk, c.hs, c.hd⟩
theorem nodict : ∀ dd : Addr, (none : Option Addr) = some dd → ∃ fs, H dd = some (.xd fs) := fun _ z => nomatch z
theorem adict {d : Addr} {fs : List (Str × V)} (h : H d = some (.xd fs)) : ∀ dd : Addr, some d = some dd → ∃ fs, H dd = some (.xd fs) := fun _ z => by cases z; exact ⟨fs, h⟩
/-- e.f in a suite -/
def kXf (a : Addr) (cls : Value) (d : Option Addr) (C : Addr) (f : Str) (Q : VK) : VK := fun x H1 => x = .ref a ∧ cls = .ref C ∧ ∃ (dd : Addr) (fs : List (Str × V)) (v : V), d = some dd ∧ H1 dd = some (.xd fs) ∧ fs.lookup f = some v ∧ Q v H1
theorem r_xf {cls : Value} {d : Option Addr} {f : Str} {te : TE} (h : te σ H (kXf a cls d C f Q)) : tXf a cls d C f te σ H Q := h
theorem v_xf {d : Addr} {f : Str} {fs : List (Str × V)} {v : V} (h : H d = some (.xd fs)) (l : fs.lookup f = some v) (k : Q v H) : kXf a (.ref C) (some d) C f Q (.ref a) H := ⟨rfl, rfl, d, fs, v, rfl, h, l, k⟩
/-- self.f = e in an exception's __init__ -/
def kOst (K : PySem.W.Frag) (f : Str) (y : V) (R : Hp → Prop) : VK := fun x H2 => ∃ a C : Addr, x = .ref a ∧ OexC K C ∧ PySem.W.findIn K (.ref C) f = some none ∧
  ((H2 a = some (exo a C none) ∧ ∀ dx, H2 dx = none → dx ≠ a → R (upd (upd H2 dx (exd dx [(f, y)])) a (exo a C (some dx)))) ∨ ∃ (dx : Addr) (fs : List (Str × V)), H2 a = some (exo a C (some dx)) ∧ H2 dx = some (exd dx fs) ∧ fs.length ≤ 900 ∧ R (upd H2 dx (exd dx ((f, y) :: fs))))
theorem r_ost {D : Ends} {f : Str} {to te : TE} (h : te σ H fun y H1 => to σ H1 (kOst K f y (D.nx σ))) : tOst K f to te D σ H := h
end
end SH

set_option Elab.async false
set_option linter.all false
set_option maxRecDepth 100000
set_option maxHeartbeats 4000000
/-! SHZ: the same for exceptions whose context is None (L2N), and defs called within an except suite -/
namespace SH
open PySem PySem.Spec PyProof.Rows L2
section
variable {P : Program} {w : World} {K : PySem.W.Frag} {mg : Str → Option Value} {base : Heap}
theorem okN {x qual : Str} {st : Stmt} {f : Addr} {fd : FuncData} {N ps : List Str} {k : Nat} {sp : Sp} (F : Fun K x qual st f fd) (S : FnScope N ps (defScope st)) (len : ∀ vs H Q E, sp vs H Q E → vs.length = ps.length)
    (hb : ∀ (cdv : Value) (A : Around) (outer : List Env) (s : Shared) (H : Hp) (vs : List V) (Q : VK) (E : XK), Room k (A.deeper (envOfC qual (defScope st) s.heap.objs.size f cdv)) → sp vs H Q E →
      ∃ t, PSs (cxOf (L2N.CX P w) P w K mg base N qual (defScope st) f cdv A outer s H E) (defBody st) t ∧ t { nx := fun _ H' => Q .non H', rt := Q } (start N vs) H) : FnOk P w K mg base (L2N.CX P w) (k + 1) f fd ps sp := by
  obtain ⟨oc, od, kV, doc, pm, an, cdv, ct, osl, rfl, lk, hcd⟩ := F.ex
  exact fn_of lk hcd S len fun A outer s H vs Q E hr h => hb cdv A outer s H vs Q E hr h
theorem okND {x qual : Str} {st : Stmt} {dvs : List V} {f : Addr} {fd : FuncData} {N ps : List Str} {k : Nat} {sp : Sp} (F : FunD K x qual (defArgs st) (defBody st) (defScope st) dvs [] f fd) (S : FnScope N ps (defScope st)) (len : ∀ vs H Q E, sp vs H Q E → vs.length = ps.length)
    (hb : ∀ (cdv : Value) (A : Around) (outer : List Env) (s : Shared) (H : Hp) (vs : List V) (Q : VK) (E : XK), Room k (A.deeper (envOfC qual (defScope st) s.heap.objs.size f cdv)) → sp vs H Q E →
      ∃ t, PSs (cxOf (L2N.CX P w) P w K mg base N qual (defScope st) f cdv A outer s H E) (defBody st) t ∧ t { nx := fun _ H' => Q .non H', rt := Q } (start N vs) H) : FnOk P w K mg base (L2N.CX P w) (k + 1) f fd ps sp :=
  F.ok S len hb
theorem passLN {X : Cx} : Passes (L2N.CX X.prog X.w) X E0 := fun _ _ _ _ _ _ _ h => by
  obtain ⟨_, _, _, _, _, _, _, _, _, _, _, _, z⟩ := h
  exact z.elim
theorem takes0N {X : Cx} : L2N.Takes X (fun _ _ _ _ => False) := fun _ _ x => by
  obtain ⟨_, _, _, _, _, _, _, _, _, _, _, _, _, _, _, _, z⟩ := x
  exact z.elim
/-- a def that is called while an exception is handled; it raises nothing -/
theorem okH {x qual : Str} {st : Stmt} {f : Addr} {fd : FuncData} {N ps : List Str} {k : Nat} {sp : Sp} (F : Fun K x qual st f fd) (S : FnScope N ps (defScope st)) (len : ∀ vs H Q E, sp vs H Q E → vs.length = ps.length)
    (hb : ∀ (cdv : Value) (A : Around) (outer : List Env) (s : Shared) (H : Hp) (vs : List V) (Q : VK) (E : XK) (p : Addr × Obj), L2H.Hot1 A p → L2H.RoomH k (A.deeper (envOfC qual (defScope st) s.heap.objs.size f cdv)) → sp vs H Q E →
      ∃ t, PSs (L2H.cxH CX0 P w K mg base N qual (defScope st) f cdv A outer s H E p) (defBody st) t ∧ t { nx := fun _ H' => Q .non H', rt := Q } (start N vs) H) : L2H.FnH P w K mg base CX0 (k + 1) f fd ps sp := by
  obtain ⟨oc, od, kV, doc, pm, an, cdv, ct, osl, rfl, lk, hcd⟩ := F.ex
  exact L2H.fn_ofH lk hcd S len fun A outer s H vs Q E p hot hr h => hb cdv A outer s H vs Q E p hot hr h
end
structure CalH (P : Program) (w : World) (K : PySem.W.Frag) (mg : Str → Option Value) (base : Heap) (k : Nat) (x : Str) (sp : Sp) : Prop where
  ex : ∃ (f : Addr) (fd : FuncData) (ps : List Str), mg x = some (.ref f) ∧ PySem.W.keepIn K (.ref f) = true ∧ Binds K fd ps [] ∧ L2H.FnH P w K mg base CX0 k f fd ps sp
section
variable {X : Cx} {CX : CXT} {k j : Nat} {C : Addr} {sp : Sp} {x : Str} {p pos : Pos} {e : Expr} {es : List Expr} {t : TA}
theorem hotc {a : Addr} {oe : Obj} {cls : Value} {d : Option Addr} {pn : List (Addr × Obj)} (hz : L2N.Zn cls d oe) (hf : ∃ vs, oe.data = .fields vs) : L2H.HotC (X.suite a ((a, oe) :: pn)) := by
  obtain ⟨vs, hv⟩ := hf
  exact ⟨(a, oe), ⟨rfl, vs, hv, hz.2.2 vs hv⟩, List.mem_cons_self⟩
theorem pe_callHF (c : CalH X.prog X.w X.K X.mg X.base j x sp) (hr : L2H.RoomH k X.A) (hc : L2H.HotC X) (hg : Gl X x) (ha : PA X (e :: es) t) (hk : j ≤ k := by decide)
    (hdb : (x == ("__debug__" : Str)) = false := by decide) (he : starEach (e :: es) X.env = (false, eval e X.env) :: starEach es X.env := by rfl) (hpl : (backTo pos (starEach es X.env)).any (·.1) = false := by rfl) :
    PE X (.Call (.Name x p) (e :: es) [] pos) (tCallS sp (fun _ => E0) t) := by
  obtain ⟨f, fd, ps, h1, h2, h3, h4⟩ := c.ex
  exact L2H.pe_callH h4 (hr.mono hk) hc hg h1 h2 h3 (fun σ pins H s e s' _ z => z.elim) ha hdb he hpl
theorem r_callS {σ : L2.St} {H : Hp} {Q : VK} {E : L2.St → XK} (h : t σ H fun vs H1 => sp vs H1 Q (E σ)) : tCallS sp E t σ H Q := h
set_option maxHeartbeats 8000000 in
theorem pmk_oexN (c : CalE X.prog X.w X.K X.mg X.base j x C sp) (hr : Room k X.A) (hg : Gl X x) (ha : PA X (e :: es) t) (hk : j + 1 ≤ k := by decide)
    (hdb : (x == ("__debug__" : Str)) = false := by decide) (he : starEach (e :: es) X.env = (false, eval e X.env) :: starEach es X.env := by rfl) (hpl : (backTo pos (starEach es X.env)).any (·.1) = false := by rfl) :
    L2N.PMk X (.Call (.Name x p) (e :: es) [] pos) (tMkO C sp [] t) := by
  obtain ⟨fI, fd, ps, hm, iC, tI, hb, F1⟩ := c.ex; have T := c.ox
  intro pins s σ H Q I h
  obtain ⟨nm, q, N, bs, bm, sn, sub, ab, col, dd, k0, k1, k2, k3, k5, hC, hbm⟩ := c.ox.cls
  refine wpAny_Call_Name_kw (ld_glob I hg hm (PySem.W.callWith_K (h₀ := X.base) I.ok.mod.kin T.kC (thn (ha.run pos pins s σ H _ I h) fun us s1 ⟨vs, H1, I1, r1, hz, q1⟩ => ⟨I1.kIn, ?_⟩) he hpl) hdb)
  show wpAny _ _ (call (.ref C) us) _ _ _; obtain ⟨hp, g, dr, tk, os⟩ := s1
  have hsz : hp.objs.size ≤ hp.objs.size + 1 := Nat.le_succ _; have hn : H1 (hp.objs.size + 1) = none := I1.hok.fresh hsz
  have hq := q1 (hp.objs.size + 1) hn; rw [List.append_nil] at hq
  have kk : ∀ b o, hp.get? b = some o → ((hp.push (PySem.W.kdv_tup us)).push (PySem.HandSPX.excO C hp.objs.size)).get? b = some o := fun b o e => by exact Heap.get?_push_of_some _ (Heap.get?_push_of_some _ e)
  have hget : ((hp.push (PySem.W.kdv_tup us)).push (PySem.HandSPX.excO C hp.objs.size)).get? (hp.objs.size + 1) = some (PySem.HandSPX.excO C hp.objs.size) := by (heap_get)
  have I2 : Inv X pins σ (upd H1 (hp.objs.size + 1) (exo (hp.objs.size + 1) C none)) ⟨(hp.push (PySem.W.kdv_tup us)).push (PySem.HandSPX.excO C hp.objs.size), g, dr, tk, os⟩ := by
    exact I1.laid (t' := tk) (a := hp.objs.size + 1) (o := exo (hp.objs.size + 1) C none) (h' := (hp.push (PySem.W.kdv_tup us)).push (PySem.HandSPX.excO C hp.objs.size)) kk hsz (exo_ok hget)
  have r2 : Vals (V.ref (hp.objs.size + 1) :: vs) (Value.ref (hp.objs.size + 1) :: us) := .cons rfl r1
  have hl : (Value.ref (hp.objs.size + 1) :: us ++ []).length = ps.length := by have e := r2.length; rw [F1.len _ _ _ _ hq] at e; rw [List.append_nil]; exact e.symm
  have hus : us.length ≤ sizeLine := by rw [← Paired.length r1, sizeLine_eq]; omega
  have b2 := hb _ (Value.ref (hp.objs.size + 1) :: us) I2.kIn hl; rw [List.append_nil] at b2
  refine wpAny_call (PySem.HandSPX.call_own F.excBase_ValueError (fun Y => PySem.HandSPX.refsVE_contains Y bm hbm) (I1.kIn _ _ hC) (PySem.W.looks_findIn I1.kIn iC) (fun self => PySem.W.bind_fn I1.kIn self tI) hus
    (codeAny_mono (F1.run _ X.stack _ _ ⟨Value.ref (hp.objs.size + 1) :: us, []⟩ (Value.ref (hp.objs.size + 1) :: us) _ _ (fun _ _ _ => False) ((hr.mono hk).make C us []) (I2.env0.make C us []) b2 r2 hq) fun r s' hq' => ?_))
  match r, hq' with
  | .error er, hq' => exact False.elim hq'
  | .ok .next, hq' => exact False.elim hq'
  | .ok .brk, hq' => exact False.elim hq'
  | .ok .cont, hq' => exact False.elim hq'
  | .ok (.ret u), hq' =>
    obtain ⟨v, H2, os2, bare2, un2, hok2, rv, ev, d, fs, ea, ed, hd1, q2⟩ := hq'; subst ev
    obtain ⟨h2, g2, d2, t2, os'⟩ := s'; obtain ⟨t0, G, J, kG, ge, hoe, na⟩ := mk_end0 (d2 := d2) (t2 := t2) I1 hsz kk un2 hok2 os2 bare2 ea ed hd1
    exact ⟨rv, ⟨hp.objs.size + 1, _, _, ⟨G, g2, d2, t2, os'⟩, _, .ref C, some d, rfl, J, kG, ge, hoe, ⟨rfl, rfl, fun vs hv => by cases hv; rfl⟩, rfl, rfl, na, rfl, bare2, raises_own T.exC T.tyC, q2⟩⟩
end
theorem r_catchM {K : PySem.W.Frag} {c cls : Value} {d : Option Addr} {ts : Addr → Value → Option Addr → TS} {r : List (Value × (Addr → Value → Option Addr → TS))} {Wo : WX} {D : Ends} {σ : L2.St} {H : Hp} (h : PySem.W.exmOne K cls c = some true)
    (k : ∀ a, H a = none → ts a cls d D σ H) : L2.wMany K Wo D ((c, ts) :: r) cls d σ H := ⟨true, h, fun _ => k, fun z => by cases z⟩
theorem r_catchM2 {K : PySem.W.Frag} {c cls : Value} {d : Option Addr} {ts : Addr → Value → Option Addr → TS} {r : List (Value × (Addr → Value → Option Addr → TS))} {Wo : WX} {D : Ends} {σ : L2.St} {H : Hp} (h : PySem.W.exmOne K cls c = some false)
    (k : L2.wMany K Wo D r cls d σ H) : L2.wMany K Wo D ((c, ts) :: r) cls d σ H := ⟨false, h, (fun z => by cases z), fun _ => k⟩
section
variable {X : Cx} {o e : Expr} {es : List Expr} {to : TE} {t : TA} {name : Str} {apos cpos : Pos} {T id : String} {r : V → List V → Hp → VK → Prop}
theorem pe_bmK (K : PySem.W.Frag) (pa : PlainAttrs T) (slot : Slot T name id) (hty : typeOf (.builtin id) = pure (.type "method_descriptor")) (hm : MtR X id r) (ho : PE X o to) (ha : PA X (e :: es) t) (hK : X.K = K := by rfl)
    (hbase : attributeBase o name X.env (eval o X.env) = eval o X.env := by rfl)
    (hfew : ((backTo cpos (starEach (e :: es) X.env)).all (fun x => !x.1) && (backToKw cpos (keywordEach [] X.env)).all (fun x => x.1.isSome)
      && decide ((e :: es).length + ([] : List Keyword).length + (if ([] : List Keyword).isEmpty then 0 else 1) < 30)) = true := by rfl)
    (hline : (apos.endLine == cpos.line) = true := by rfl) (hs : starEach (e :: es) X.env = (false, eval e X.env) :: starEach es X.env := by rfl) (hplain : (backTo cpos (starEach es X.env)).any (·.1) = false := by rfl) :
    PE X (.Call (.Attribute o name apos) (e :: es) [] cpos) (tBM K T r to t) := by
  subst hK
  exact pe_bm pa slot hty hm ho ha hbase hfew hline hs hplain
end
end SH

set_option Elab.async false
set_option linter.all false
set_option maxRecDepth 100000
set_option maxHeartbeats 8000000
/-! the step -/
local macro_rules | `(tactic| walk_at "slot") => `(tactic| (with_reducible first | exact SH.get_z | (apply SH.get_s; walk_at "slot")))
local macro_rules | `(tactic| walk_at "put") => `(tactic| (with_reducible first | exact SH.set_z | (apply SH.set_s; walk_at "put")))
local macro_rules | `(tactic| walk_at "wipe") => `(tactic| (with_reducible first | exact SH.wp_z | apply SH.wp_s (by walk_at "wipe") (by walk_at "put")))
local macro_rules | `(tactic| walk_at "begin") => `(tactic| ((apply SH.r_start (by (repeat (with_reducible first | exact SH.st_z | apply SH.st_c | apply SH.st_n)))); (try dsimp only [L2.Cx.nox, L2.Cx.wish, L2.cxOf])))
local macro_rules | `(tactic| walk_at "r0") => `(tactic| with_reducible first
  | ((apply SH.r_nx (by walk_at "put")))
  | refine SH.r_seq ?_ | refine SH.r_asg ?_ | (apply SH.r_gnw (by walk_at "wipe")) | (apply SH.r_gtw (by walk_at "wipe")) | ((apply SH.r_gname (by walk_at "put")))
  | ((apply SH.r_var (by walk_at "slot"))) | refine SH.r_c ?_ | refine SH.r_op ?_ | refine SH.r_cons ?_ | refine SH.r_nil ?_
  | refine SH.v_addI ?_ | refine SH.v_subI ?_ | refine SH.v_ltI ?_ | refine SH.v_leI ?_ | refine SH.v_gtI ?_ | refine SH.v_geI ?_ | refine SH.v_eqI ?_ | refine SH.v_neI ?_
  | refine SH.v_eqB ?_ | refine SH.v_neB ?_ | refine SH.w_isB ?_ | refine SH.w_notB ?_ | refine SH.v_isN ?_ | refine SH.v_notN ?_ | refine SH.v_ipA ?_ | refine SH.v_ipS ?_ | refine SH.v_and ?_
  | refine SH.r_ifS ?_ | refine SH.r_test ?_ | refine SH.r_bl ?_ | refine SH.r_B ?_ | refine SH.r_and ?_ | refine SH.r_or ?_ | refine SH.r_not ?_ | refine SH.r_andV ?_ | refine SH.r_orV ?_ | refine SH.r_notV ?_
  | refine SH.r_T ?_ | refine SH.r_F ?_ | refine SH.r_nT ?_ | refine SH.r_nF ?_
  | refine SH.r_ret ?_ | refine SH.r_retN ?_ | refine SH.r_drop ?_ | ((apply SH.r_aug (by walk_at "slot"))) | refine SH.r_next ?_ | refine SH.r_if ?_
  | refine SH.r_call ?_ | refine SH.r_cb ?_ | refine SH.r_tup ?_ | refine SH.r_lst ?_ | refine SH.r_part ?_ | refine SH.r_nopart ?_ | refine SH.r_int ?_ | refine SH.r_sl ?_ | refine SH.r_chain ?_
  | refine SH.r_bm ?_ | refine SH.r_bm0 ?_ | refine SH.r_un ?_ | refine SH.r_neg ?_ | refine SH.r_gcons ?_ | refine SH.r_gnil ?_ | refine SH.r_gsub ?_ | refine SH.r_brk ?_ | refine SH.r_cont ?_ | refine SH.r_yes ?_
  | refine SH.r_for ?_ | refine SH.r_lc ?_ | refine SH.r_iList ?_ | refine SH.r_iTup ?_ | refine SH.r_iRng1 ?_ | refine SH.r_iRng2 ?_ | refine SH.r_iRng3 ?_ | refine SH.r_iEnum ?_ | refine SH.r_iZip ?_ | refine SH.r_iRev ?_
  | refine SH.r_fldF ?_ | refine SH.r_sfldF ?_ | refine SH.r_sfldAugF ?_ | refine SH.r_meth ?_ | refine SH.r_make ?_ | refine SH.r_lrg1 ?_ | refine SH.r_lrg2 ?_ | refine SH.r_bits ?_ | refine SH.v_bits ?_ | refine SH.w_max ?_ | refine SH.w_min ?_
  | refine SH.r_par ?_ | refine SH.r_par3 ?_ | (apply SH.v_par (by walk_at "put") (by walk_at "put")) | (apply SH.v_par3 (by walk_at "put") (by walk_at "put") (by walk_at "put"))
  | refine SH.r_callS ?_ | refine SH.r_mkO ?_ | refine SH.r_xf ?_ | refine SH.r_ost ?_ | refine SH.r_methX ?_ | refine SH.r_makeX ?_ | refine SH.r_augS ?_ | refine SH.r_dnewT ?_ | refine SH.r_dput ?_ | refine SH.r_dget1 ?_ | refine SH.r_dgetI ?_ | refine SH.r_din ?_ | refine SH.r_dnotin ?_ | refine SH.w_intI ?_ | refine SH.w_intB ?_ | ((apply SH.v_dget1 (by assumption))))
/-! heap facts -/
local macro_rules | `(tactic| walk_at "ne") => `(tactic| with_reducible first
  | assumption | (apply Ne.symm; assumption)
  | ((apply SH.ne_of_none'); (focus (assumption; done)); (focus (walk_at "lk"))) | ((apply Ne.symm); (apply SH.ne_of_none'); (focus (assumption; done)); (focus (walk_at "lk")))
  | ((apply L2.ne_of); (focus (walk_at "lk")); (focus (walk_at "lk")); (focus (intro z; cases z; done))))
local macro_rules | `(tactic| walk_at "lk") => `(tactic| (focus
  ((repeat (with_reducible first
  | assumption | exact L2.upd_same
  | (apply SH.off_old (by assumption))
  | ((apply SH.off_far); (focus (walk_at "ne")))
  | (apply SH.Stp.keep0 (by assumption))));
        done)))
local macro_rules | `(tactic| walk_at "sq") => `(tactic| (focus
  ((repeat (with_reducible first
  | assumption | exact L2.SqL.of L2.upd_same | exact L2.SqT.of L2.upd_same | exact L2.SqL.of (by assumption) | exact L2.SqT.of (by assumption)
  | (apply SH.sql_off (by assumption)) | (apply SH.sqt_off (by assumption))
  | ((apply SH.sql_offar); (focus (walk_at "ne"))) | ((apply SH.sqt_offar); (focus (walk_at "ne")))
  | (apply SH.Stp.sql0 (by assumption)) | (apply SH.Stp.sqt0 (by assumption))));
        done)))
local macro_rules | `(tactic| walk_at "st") => `(tactic| (focus
  ((repeat (with_reducible first
  | assumption | exact SH.Stp.refl _ _
  | (apply SH.st_new (by assumption)) | (apply SH.st_trans (by assumption)) | ((apply SH.st_put); (focus (walk_at "fr")))));
        done)))
local macro_rules | `(tactic| walk_at "fr") => `(tactic| with_reducible first | assumption | ((apply SH.st_fr (by assumption)); (walk_at "st")))
local macro_rules | `(tactic| walk_at "few") => `(tactic| first | exact SH.few0 | exact SH.few1 | exact SH.few2 | exact SH.few3 | exact SH.few4 | exact SH.few5 | exact SH.few6 | (simp; done))
local macro_rules | `(tactic| walk_at "pf") => `(tactic| first | exact SH.pf_nil | exact SH.pf_hit | (apply SH.pf_miss (by decide) (by walk_at "pf")))
/-! steps with a side -/
local macro_rules | `(tactic| walk_at "r2") => `(tactic| first
  | ((with_reducible refine SH.v_mulI ?_ ?_); (focus (first | exact L2.CMul.ok (.inl ⟨by omega, by omega⟩) | exact L2.CMul.ok (.inr ⟨by omega, by omega⟩) | exact SH.mul64 ⟨by omega, by omega⟩ ⟨by omega, by omega⟩)))
  | ((with_reducible refine SH.v_divS ?_ ?_ ?_); (focus omega); (focus omega))
  | ((with_reducible refine SH.v_mod ?_ ?_); (focus omega))
  | (with_reducible refine SH.v_pow60 ?_)
  | ((with_reducible apply SH.v_lenQ); (focus (walk_at "sq")); (focus (first | exact List.length_map _ | rfl))) | ((with_reducible apply SH.v_lenU); (focus (walk_at "sq")); (focus (first | exact List.length_map _ | rfl)))
  | ((with_reducible apply SH.v_slL); (focus (walk_at "sq"))) | ((with_reducible apply SH.v_iList); (focus (walk_at "sq")))
  | ((with_reducible refine SH.v_rng2 ?_ ?_); (focus (refine ⟨by omega, by omega, by omega, by omega⟩)))
  | ((with_reducible refine SH.v_rng1 ?_ ?_); (focus (refine ⟨by omega, by omega⟩)))
  | ((with_reducible apply SH.v_fld); (focus (walk_at "lk")); (focus rfl)) | ((with_reducible apply SH.v_sfld); (focus (walk_at "lk")); (focus (walk_at "few")); (focus (walk_at "pf"))) | ((with_reducible apply SH.v_aug1); (focus (walk_at "lk")); (focus rfl)) | ((with_reducible apply SH.v_aug2); (focus (walk_at "lk")); (focus (walk_at "few")); (focus (walk_at "pf")))
  | ((with_reducible apply SH.v_enum); (focus (walk_at "sq"))) | ((with_reducible apply SH.v_rev1); (focus (walk_at "sq"))) | ((with_reducible apply SH.v_zip); (focus (walk_at "sq")); (focus (walk_at "sq"))) | ((with_reducible apply SH.v_iTup); (focus (walk_at "sq")))
  | (with_reducible refine SH.v_tup1 ?_) | (with_reducible refine SH.v_tup2 ?_) | (with_reducible refine SH.v_tup3 ?_) | (with_reducible refine SH.v_lst0 ?_) | (with_reducible refine SH.v_lst1 ?_) | (with_reducible refine SH.v_lst2 ?_) | (with_reducible refine SH.v_lst3 ?_) | (with_reducible refine SH.v_lst4 ?_)
  | ((with_reducible apply SH.r_ty); (focus (walk_at "lk")))
  | ((with_reducible apply SH.w_listL); (focus (walk_at "sq"))) | ((with_reducible apply SH.w_listT); (focus (walk_at "sq"))) | ((with_reducible apply SH.w_tupL); (focus (walk_at "sq"))) | ((with_reducible apply SH.w_tupT); (focus (walk_at "sq")))
  | ((with_reducible apply SH.r_gtup); (focus (walk_at "sq")); (focus rfl))
  | ((with_reducible apply SH.r_glst); (focus (walk_at "sq")); (focus rfl))
  | (with_reducible refine SH.r_callX ?_)
  | ((with_reducible refine SH.r_wp ?_ ?_); (focus rfl))
  | ((with_reducible apply SH.v_methX); (focus (walk_at "lk")); (focus rfl)) | ((with_reducible apply SH.v_xf); (focus (walk_at "lk")); (focus rfl)) | ((with_reducible apply SH.v_meth); (focus (walk_at "lk")); (focus rfl)) | ((with_reducible apply SH.isi_L); (focus (walk_at "lk"))) | ((with_reducible apply SH.isi_T); (focus (walk_at "lk"))) | (with_reducible refine SH.isi_bl_bool ?_) | (with_reducible refine SH.isi_bl_int ?_)
  | (with_reducible refine SH.r_ckw ?_) | (with_reducible refine SH.r_ckw2 ?_) | (with_reducible refine SH.r_lrev ?_) | ((with_reducible apply SH.v_lrev); (focus (walk_at "sq")))
  | ((with_reducible refine SH.v_isiIT ?_)) | ((with_reducible refine SH.v_isiIB ?_)) )
local macro_rules | `(tactic| walk_at "r1") => `(tactic| first | walk_at "r0" | walk_at "r2")
local macro_rules | `(tactic| walk_at "rd") => `(tactic| repeat walk_at "r1")
/-! the same, up to the making of an instance, or a call -/
local macro_rules | `(tactic| walk_at "rq") => `(tactic| repeat ((fail_if_success (with_reducible refine SH.r_make ?_)); walk_at "r1"))
local macro_rules | `(tactic| walk_at "rc") => `(tactic| repeat ((fail_if_success (with_reducible refine SH.r_call ?_)); walk_at "r1"))
/-! the same, up to an if -/
local macro_rules | `(tactic| walk_at "ri") => `(tactic| repeat ((fail_if_success (with_reducible refine SH.r_ifS ?_)); walk_at "r1"))

namespace Law
open PySem PySem.Spec PyProof.Rows L2 SH NdefX LamX
def top (i : Nat) : Stmt := PySem.Challenge.pw_sorthall_k45_stopped_and_asked_again.main.body.getD i (.Pass ⟨0, 0, 0, 0⟩)
abbrev s_halved_between : Stmt := top 2
theorem sc_halved_between : FnScope ["asker", "order", "place", "low", "high", "middle"] ["asker", "order", "place", "low", "high"] (defScope s_halved_between) := ⟨rfl, rfl, rfl, by decide +kernel, rfl, by decide +kernel, by decide +kernel⟩
abbrev s_leap : Stmt := top 3
theorem sc_leap : FnScope ["asker", "order", "first", "place", "low", "step", "at"] ["asker", "order", "first", "place"] (defScope s_leap) := ⟨rfl, rfl, rfl, by decide +kernel, rfl, by decide +kernel, by decide +kernel⟩
abbrev s_leap_taken : Stmt := top 6
theorem sc_leap_taken : FnScope ["asker", "sides", "at", "side", "told", "mine", "theirs", "found"] ["asker", "sides", "at", "side", "told"] (defScope s_leap_taken) := ⟨rfl, rfl, rfl, by decide +kernel, rfl, by decide +kernel, by decide +kernel⟩
abbrev s_joined : Stmt := top 7
theorem sc_joined : FnScope ["asker", "left", "right", "sides", "at", "told", "last", "wins", "side"] ["asker", "left", "right"] (defScope s_joined) := ⟨rfl, rfl, rfl, by decide +kernel, rfl, by decide +kernel, by decide +kernel⟩
abbrev s_Spent___init__ : Stmt := inClass (top 11) 0
theorem sc_Spent___init__ : FnScope ["self", "asked"] ["self", "asked"] (defScope s_Spent___init__) := ⟨rfl, rfl, rfl, by decide +kernel, rfl, by decide +kernel, by decide +kernel⟩
abbrev s_Asker___init__ : Stmt := inClass (top 13) 0
theorem sc_Asker___init__ : FnScope ["self", "row", "rule", "most"] ["self", "row", "rule", "most"] (defScope s_Asker___init__) := ⟨rfl, rfl, rfl, by decide +kernel, rfl, by decide +kernel, by decide +kernel⟩
abbrev s_Asker_many : Stmt := inClass (top 13) 1
theorem sc_Asker_many : FnScope ["self"] ["self"] (defScope s_Asker_many) := ⟨rfl, rfl, rfl, by decide +kernel, rfl, by decide +kernel, by decide +kernel⟩
abbrev s_Asker_ahead : Stmt := inClass (top 13) 2
theorem sc_Asker_ahead : FnScope ["self", "p", "q", "later", "earlier", "said"] ["self", "p", "q"] (defScope s_Asker_ahead) := ⟨rfl, rfl, rfl, by decide +kernel, rfl, by decide +kernel, by decide +kernel⟩
abbrev s_Asker_widen : Stmt := inClass (top 13) 4
theorem sc_Asker_widen : FnScope ["self", "more"] ["self", "more"] (defScope s_Asker_widen) := ⟨rfl, rfl, rfl, by decide +kernel, rfl, by decide +kernel, by decide +kernel⟩
abbrev s_Rule_before : Stmt := inClass (top 15) 0
theorem sc_Rule_before : FnScope ["self", "x", "y"] ["self", "x", "y"] (defScope s_Rule_before) := ⟨rfl, rfl, rfl, by decide +kernel, rfl, by decide +kernel, by decide +kernel⟩
abbrev s_AskedRule___init__ : Stmt := inClass (top 16) 0
theorem sc_AskedRule___init__ : FnScope ["self", "teller"] ["self", "teller"] (defScope s_AskedRule___init__) := ⟨rfl, rfl, rfl, by decide +kernel, rfl, by decide +kernel, by decide +kernel⟩
abbrev s_AskedRule_before : Stmt := inClass (top 16) 1
theorem sc_AskedRule_before : FnScope ["self", "x", "y", "ask"] ["self", "x", "y"] (defScope s_AskedRule_before) := ⟨rfl, rfl, rfl, by decide +kernel, rfl, by decide +kernel, by decide +kernel⟩
abbrev s__law_cell_at : Stmt := top 18
theorem sc__law_cell_at : FnScope ["_law_script", "_law_k"] ["_law_script", "_law_k"] (defScope s__law_cell_at) := ⟨rfl, rfl, rfl, by decide +kernel, rfl, by decide +kernel, by decide +kernel⟩
abbrev s__law_stream : Stmt := top 19
theorem sc__law_stream : FnScope ["_law_seed", "_law_many", "_law_found", "_law_number", "_law_k"] ["_law_seed", "_law_many"] (defScope s__law_stream) := ⟨rfl, rfl, rfl, by decide +kernel, rfl, by decide +kernel, by decide +kernel⟩
abbrev s__law_numbers : Stmt := top 20
theorem sc__law_numbers : FnScope ["_law_script"] ["_law_script"] (defScope s__law_numbers) := ⟨rfl, rfl, rfl, by decide +kernel, rfl, by decide +kernel, by decide +kernel⟩
abbrev s__law_row : Stmt := top 21
theorem sc__law_row : FnScope ["_law_numbers_here", "_law_kind", "_law_base", "_law_keys", "_law_number", "_law_k"] ["_law_numbers_here", "_law_kind"] (defScope s__law_row) := ⟨rfl, rfl, rfl, by decide +kernel, rfl, by decide +kernel, by decide +kernel⟩
abbrev s__law_sides : Stmt := top 22
theorem sc__law_sides : FnScope ["_law_order", "_law_numbers_here", "_law_kind", "_law_wide", "_law_side", "_law_sides_here", "_law_at", "_law_k", "_law_size"] ["_law_order", "_law_numbers_here", "_law_kind"] (defScope s__law_sides) := ⟨rfl, rfl, rfl, by decide +kernel, rfl, by decide +kernel, by decide +kernel⟩
abbrev s__law_teller : Stmt := top 23
theorem sc__law_teller : FnScope ["_law_said", "_law_tells"] ["_law_said"] (defScope s__law_teller) := ⟨rfl, rfl, rfl, by decide +kernel, rfl, by decide +kernel, by decide +kernel⟩
abbrev s__law_tried : Stmt := top 24
theorem sc__law_tried : FnScope ["_law_asker", "_law_sides_here", "_law_kinds", "_law_found", "e"] ["_law_asker", "_law_sides_here"] (defScope s__law_tried) := ⟨rfl, rfl, rfl, by decide +kernel, rfl, by decide +kernel, by decide +kernel⟩
abbrev s__law_refused : Stmt := top 25
theorem sc__law_refused : FnScope ["_law_asker"] ["_law_asker"] (defScope s__law_refused) := ⟨rfl, rfl, rfl, by decide +kernel, rfl, by decide +kernel, by decide +kernel⟩
abbrev s__law_stopped : Stmt := top 26
theorem sc__law_stopped : FnScope ["_law_row_here", "_law_sides_here", "_law_order", "_law_needed", "_law_most", "_law_said", "_law_asker", "_law_found", "_law_kinds"] ["_law_row_here", "_law_sides_here", "_law_order", "_law_needed", "_law_most"] (defScope s__law_stopped) := ⟨rfl, rfl, rfl, by decide +kernel, rfl, by decide +kernel, by decide +kernel⟩
abbrev s_law : Stmt := top 27
theorem sc_law : FnScope ["_law_script", "_law_numbers_here", "_law_row_here", "_law_order", "_law_sides_here", "_law_said", "_law_asker", "_law_found", "_law_needed", "_law_most", "_law_thing"] ["_law_script"] (defScope s_law) := ⟨rfl, rfl, rfl, by decide +kernel, rfl, by decide +kernel, by decide +kernel⟩
abbrev s__law_teller___law_tells : Stmt := inDef (top 23) 0
theorem sc__law_teller___law_tells : NScope ["_law_x", "_law_y", "_law_said", "_law_first"] ["_law_x", "_law_y"] ["_law_said"] (C8.fnScope s__law_teller___law_tells) := nscope_by (by decide +kernel)
structure Ad where
  HallError : Addr
  NoPlace : Addr
  Spent : Addr
  Asker : Addr
  Rule : Addr
  AskedRule : Addr
  P : Addr
structure Txt (K : PySem.W.Frag) (mg : Str → Option Value) (A : Ad) : Prop where
  z_ValueError : mg "ValueError" = Option.none
  z_range : mg "range" = Option.none
  z_len : mg "len" = Option.none
  z_int : mg "int" = Option.none
  z_list : mg "list" = Option.none
  z_max : mg "max" = Option.none
  z_min : mg "min" = Option.none
  z_sorted : mg "sorted" = Option.none
  z_isinstance : mg "isinstance" = Option.none
  g_HallError : mg "HallError" = some (.ref A.HallError)
  xn_HallError : PySem.W.excIn K A.HallError [.type "ValueError", .type "Exception", .type "BaseException", .type "object"] "ValueError.__new__" = true
  kp_HallError : PySem.W.keepIn K (.ref A.HallError) = true
  sb_HallError : PySem.W.subIn K (.ref A.HallError) (.type "BaseException") = some true
  ty_HallError : PySem.W.typeIn K (.ref A.HallError) = some (.type "type")
  ec_HallError : L2.ExcC K A.HallError
  g_NoPlace : mg "NoPlace" = some (.ref A.NoPlace)
  g_Spent : mg "Spent" = some (.ref A.Spent)
  ox_Spent : L2.OexC K A.Spent
  na_Spent_asked : PySem.W.findIn K (.ref A.Spent) "asked" = some none
  kp_Spent : PySem.W.keepIn K (.ref A.Spent) = true
  sb_Spent : PySem.W.subIn K (.ref A.Spent) (.type "BaseException") = some true
  ty_Spent : PySem.W.typeIn K (.ref A.Spent) = some (.type "type")
  ec_Spent : L2.ExcC K A.Spent
  g_Asker : mg "Asker" = some (.ref A.Asker)
  cl_Asker : Cls K A.Asker
  na_Asker_row : NoAttr K A.Asker "row"
  na_Asker_rule : NoAttr K A.Asker "rule"
  na_Asker_most : NoAttr K A.Asker "most"
  na_Asker_asked : NoAttr K A.Asker "asked"
  na_Asker_log : NoAttr K A.Asker "log"
  g_Rule : mg "Rule" = some (.ref A.Rule)
  cl_Rule : Cls K A.Rule
  g_AskedRule : mg "AskedRule" = some (.ref A.AskedRule)
  cl_AskedRule : Cls K A.AskedRule
  na_AskedRule_teller : NoAttr K A.AskedRule "teller"
  k_WINS : ∃ u, mg "WINS" = some u ∧ RelV (.int 4) u
  exm_Spent_HallError : PySem.W.exmOne K (.ref A.Spent) (.ref A.HallError) = some true
  exm_Spent_Spent : PySem.W.exmOne K (.ref A.Spent) (.ref A.Spent) = some true
  kits_Spent_Spent : PySem.W.kitOne K (.ref A.Spent) (.ref A.Spent) = some true
  kits_Spent_NoPlace : PySem.W.kitOne K (.ref A.Spent) (.ref A.NoPlace) = some false
abbrev nv (ps : List Nat) : List V := ps.map fun n : Nat => V.int n
theorem nv_app {ps : List Nat} {q : Nat} : nv (ps ++ [q]) = nv ps ++ [.int q] := by simp [nv]
/-! ### the function that the rule asks: it goes by the first numbers and writes down -/
def sp__law_teller___law_tells (K : PySem.W.Frag) (A : Ad) : List V → Sp := fun ws vs H Q _ => ∃ (l x y : Addr) (evs : List V) (kx ky : Int) (px py : Nat), vs = [.ref x, .ref y] ∧ (ws = [.ref l] ∧ H l = some (.lst evs) ∧ evs.length ≤ 100000 ∧ H x = some (.tup [.int kx, .int px]) ∧ H y = some (.tup [.int ky, .int py])) ∧
  ∀ t H', Stp [l] H H' → H' l = some (.lst (evs ++ [.ref t])) → H' t = some (.tup [.int px, .int py, .bl (decide (kx < ky))]) → Q (.bl (decide (kx < ky))) H'
abbrev Clo1 (H : Hp) (f : Addr) (ws : List V) (cl : List (Str × Addr)) (c' : Addr) : Prop := SH.Clo H f s__law_teller___law_tells "_law_tells" "_law_teller.<locals>._law_tells" ["_law_said"] ws cl c'
abbrev telAt : Addr → Hp → Prop := fun f H => ∃ ws cl c', SH.Clo H f s__law_teller___law_tells "_law_tells" "_law_teller.<locals>._law_tells" ["_law_said"] ws cl c'
abbrev telSp (K : PySem.W.Frag) (A : Ad) : Addr → Sp := fun f vs H Q E => ∃ ws cl c', SH.Clo H f s__law_teller___law_tells "_law_tells" "_law_teller.<locals>._law_tells" ["_law_said"] ws cl c' ∧ sp__law_teller___law_tells K A ws vs H Q E
theorem cok__law_teller___law_tells {P : Program} {w : World} {K : PySem.W.Frag} {mg : Str → Option Value} {base : Heap} {A : Ad} (T : Txt K mg A) : SH.COk P w K mg base CX0 1 s__law_teller___law_tells "_law_tells" "_law_teller.<locals>._law_tells" ["_law_x", "_law_y"] ["_law_said"] (sp__law_teller___law_tells K A) := by
  refine SH.cok_of sc__law_teller___law_tells (fun _ _ _ _ _ us hl => match us, hl with | [_, _], _ => rfl) (fun ws vs H Q E h => by obtain ⟨_, _, _, _, _, _, _, _, rfl, _⟩ := h; rfl) (fun A' outer s f cl c' H H0 vs ws Q Q0 E hr h hw lo fin => ?_)
  obtain ⟨l, x, y, evs, kx, ky, px, py, rfl, ⟨rfl, hl, hle, hx, hy⟩, k⟩ := h
  refine ⟨_, (pss_cons (ps_set (i := 3) sc__law_teller___law_tells.nd rfl (Or.inl rfl) (pe_cmpR (SH.oLt hr.units0) (pe_ix SH.ixA (pv 0) pe_int (fun _ _ => rfl)) (pe_ix SH.ixA (pv 1) pe_int (fun _ _ => rfl)) (nomark _)))
        (pss_cons (ps_expr (pe_bm PySem.F.plainAttrs_list PySem.F.slot_list_append PySem.F.type_list_append mt_append (pv 2) (pa_cons (pe_tup (pa_cons (pe_ix SH.ixA (pv 0) pe_int (fun _ _ => rfl)) (pa_cons (pe_ix SH.ixA (pv 1) pe_int (fun _ _ => rfl)) (pa_cons (pv 3) pa_nil)))) pa_nil)))
        (pss_one (ps_ret (pv 3))))), ?_⟩
  show (_ : TS) _ [some (.ref x), some (.ref y), some (.ref l), none] H0
  dsimp only [NdefX.ncx]
  have hl0 := lo _ _ hl True.intro
  have hx0 := lo _ _ hx True.intro
  have hy0 := lo _ _ hy True.intro
  walk_at "rd"
  refine v_ixTn (n := 0) (SqT.of hx0) rfl rfl ?_
  walk_at "rd"
  refine v_ixTn (n := 0) (SqT.of hy0) rfl rfl ?_
  walk_at "rd"
  refine v_ixTn (n := 1) (SqT.of hx0) rfl rfl ?_
  walk_at "rd"
  refine v_ixTn (n := 1) (SqT.of hy0) rfl rfl ?_
  walk_at "rd"
  intro t ht
  walk_at "rd"
  have ntl : t ≠ l := (ne_of_none hl0 ht).symm
  refine v_app (upd_old hl0 ht) (by omega) ?_
  walk_at "rd"
  refine fin _ [l] _ (((Stp.refl [l] H0).new ht).putL (by simp) (upd_old hl0 ht)) fun H' S hsub => ?_
  exact k t H' S (hsub l _ upd_same) (hsub t _ (upd_far ntl upd_same))
abbrev Tb (A : Ad) : List NTab := [(A.P, fun _ _ => "_law_teller.<locals>._law_tells")]
def sp__law_teller (K : PySem.W.Frag) (A : Ad) : Sp := fun vs H Q _ => ∃ (p0 : V), vs = [p0] ∧ TabsN (Tb A) H ∧ ∀ (f' : Addr) (H' : Hp) (cl : List (Str × Addr)) (c' : Addr), ExtN H H' → (∀ b, H' b = none → H b = none) → TabsN (Tb A) H' → H f' = none → SH.Clo H' f' s__law_teller___law_tells "_law_tells" "_law_teller.<locals>._law_tells" ["_law_said"] [p0] cl c' → Q (.ref f') H'
theorem ok__law_teller {P : Program} {w : World} {K : PySem.W.Frag} {mg : Str → Option Value} {base : Heap} {A : Ad} {f c : Addr} {dV kV doc pm ct oc : Value} {an od : Option Addr} {osl : Array (Option Value)} (lk : K.lookup f = some ⟨oc, od, .func (PySem.W.fnOf "_law_teller" "_law_teller" (defArgs s__law_teller) (defBody s__law_teller) (defScope s__law_teller) dV kV doc pm an (.ref c) ct), osl⟩) (hcd : PySem.W.codeIn K (.ref c) "_law_teller" = true) (TB : LamX.TabB base mg c A.P) :
    FnOk P w K mg base CX0 1 f (PySem.W.fnOf "_law_teller" "_law_teller" (defArgs s__law_teller) (defBody s__law_teller) (defScope s__law_teller) dV kV doc pm an (.ref c) ct) ["_law_said"] (sp__law_teller K A) := by
  refine SH.maker (T := Tb A) (fr := ["_law_said"]) (ps := ["_law_said"]) (i := 1) (st := s__law_teller___law_tells) (ix := [0]) lk hcd sc__law_teller rfl rfl TB (List.mem_singleton.mpr rfl) rfl (fun p hp _ => by rw [List.mem_singleton] at hp; rw [hp]) (fun _ _ => rfl) (by decide +kernel) (by decide +kernel) (by decide +kernel) rfl rfl (fun _ => rfl) rfl rfl (by decide) (by decide) (by decide) rfl (fun vs H Q E h => by obtain ⟨_, rfl, _⟩ := h; rfl) (fun vs H Q E h => ?_)
  obtain ⟨p0, rfl, h1, h2⟩ := h
  exact ⟨h1, h2⟩
/-! ### asks: the later place, the earlier one, what was told -/
abbrev Ent := T3 Nat Nat Bool
/-- all entries are what the oracle tells -/
def Told (or : List Ent → Nat → Nat → Bool) : List Ent → List Ent → Prop
  | _, [] => True
  | log, e :: es => e.c = or log e.a e.b ∧ Told or (log ++ [e]) es
theorem Told.app {or : List Ent → Nat → Nat → Bool} : ∀ {log es fs : List Ent}, Told or log es → Told or (log ++ es) fs → Told or log (es ++ fs)
  | log, [], fs, _, h => by simpa using h
  | log, e :: es, fs, h, k => ⟨h.1, Told.app h.2 (by simpa using k)⟩
theorem Told.one {or : List Ent → Nat → Nat → Bool} {log : List Ent} {e : Ent} (h : e.c = or log e.a e.b) : Told or log [e] := ⟨h, True.intro⟩
/-- an oracle that doesn't look at the log -/
theorem Told.all {lt : Nat → Nat → Bool} : ∀ {log es : List Ent}, Told (fun _ => lt) log es → ∀ e ∈ es, e.c = lt e.a e.b
  | log, [], _, e, h => by cases h
  | log, e' :: es, h, e, he => by
    rcases List.mem_cons.mp he with z | he
    · rw [z]; exact h.1
    · exact Told.all h.2 e he
theorem max_v (p q : Nat) : (if (q : Int) > (p : Int) then (q : Int) else (p : Int)) = ((max p q : Nat) : Int) := by split <;> omega
theorem min_v (p q : Nat) : (if (q : Int) < (p : Int) then (q : Int) else (p : Int)) = ((min p q : Nat) : Int) := by split <;> omega
def AskF (r : Addr) (u : V) (n : Nat) (l : Addr) : List (Str × V) := [("row", .ref r), ("rule", u), ("most", .non), ("asked", .int n), ("log", .ref l)]
def sp_Spent___init__ (K : PySem.W.Frag) (A : Ad) : Sp := sp1 "asked" A.Spent
theorem ok_Spent___init__ {P : Program} {w : World} {K : PySem.W.Frag} {mg : Str → Option Value} {base : Heap} {A : Ad} {f : Addr} {fd : FuncData} (F : Fun K "__init__" "Spent.__init__" s_Spent___init__ f fd) (T : Txt K mg A)  : FnOk P w K mg base CX0 1 f fd ["self", "asked"] (sp_Spent___init__ K A) := by
  refine F.ok sc_Spent___init__ (fun vs H Q E h => by obtain ⟨_, _, rfl, _⟩ := h; rfl) (fun cdv A' outer s H vs Q E hr h => ?_)
  obtain ⟨a, v, rfl, ha, k⟩ := h
  refine ⟨_, (pss_one (L2.ps_ost (pv 0) (pv 1))), ?_⟩
  walk_at "begin"
  walk_at "rd"
  refine ⟨a, A.Spent, rfl, T.ox_Spent, T.na_Spent_asked, .inl ⟨ha, fun dx h1 h2 => ?_⟩⟩
  exact k dx h1 h2
theorem r_J {t : TS} {D : Ends} {σ : L2.St} {H : Hp} (P : L2.St → Hp → Prop) (hk : ∀ σ' H', P σ' H' → D.nx σ' H') (h : ∀ N : L2.St → Hp → Prop, (∀ σ' H', P σ' H' → N σ' H') → t { D with nx := N } σ H) : t D σ H := h D.nx hk
def mV : Option Nat → V
  | none => .non
  | some n => .int (n : Nat)
def AskM (r : Addr) (u : V) (m : Option Nat) (n : Nat) (l : Addr) : List (Str × V) := [("row", .ref r), ("rule", u), ("most", mV m), ("asked", .int n), ("log", .ref l)]
def sp_AskedRule___init__ (K : PySem.W.Frag) (A : Ad) : Sp := fun vs H Q _ => ∃ (s : Addr) (f : V), vs = [.ref s, f] ∧ (∃ dx, H s = some (.ins A.AskedRule dx [])) ∧ ∀ dx, Q .non (upd H s (.ins A.AskedRule dx [("teller", f)]))
theorem ok_AskedRule___init__ {P : Program} {w : World} {K : PySem.W.Frag} {mg : Str → Option Value} {base : Heap} {A : Ad} {f : Addr} {fd : FuncData} (F : Fun K "__init__" "AskedRule.__init__" s_AskedRule___init__ f fd) (T : Txt K mg A)  : FnOk P w K mg base CX0 1 f fd ["self", "teller"] (sp_AskedRule___init__ K A) := by
  refine F.ok sc_AskedRule___init__ (fun vs H Q E h => by obtain ⟨_, _, rfl, _⟩ := h; rfl) (fun cdv A' outer s H vs Q E hr h => ?_)
  obtain ⟨s', f', rfl, ⟨dx, hs⟩, k⟩ := h
  refine ⟨_, (pss_one (SH.ps_fldF T.cl_AskedRule T.na_AskedRule_teller (pv 0) (pv 1) rfl)), ?_⟩
  walk_at "begin"
  walk_at "rd"
  exact k dx

def sp_AskedRule_before (K : PySem.W.Frag) (A : Ad) : Sp := fun vs H Q E => ∃ (u f x y d : Addr), vs = [.ref u, .ref x, .ref y] ∧ H u = some (.ins A.AskedRule d [("teller", .ref f)]) ∧ telAt f H ∧ telSp K A f [.ref x, .ref y] H Q (fun _ _ _ => False)
theorem ok_AskedRule_before {P : Program} {w : World} {K : PySem.W.Frag} {mg : Str → Option Value} {base : Heap} {A : Ad} {f : Addr} {fd : FuncData} (F : Fun K "before" "AskedRule.before" s_AskedRule_before f fd) (T : Txt K mg A) (TEL : SH.TelOk P w K mg base 1 telAt (telSp K A)) : FnOk P w K mg base CX0 2 f fd ["self", "x", "y"] (sp_AskedRule_before K A) := by
  refine F.ok sc_AskedRule_before (fun vs H Q E h => by obtain ⟨_, _, _, _, _, rfl, _⟩ := h; rfl) (fun cdv A' outer s H vs Q E hr h => ?_)
  obtain ⟨u, f', x, y, d, rfl, hu, hat, k⟩ := h
  refine ⟨_, (pss_cons (ps_set (i := 3) sc_AskedRule_before.nd rfl (Or.inl rfl) (SH.pe_fldF T.cl_AskedRule T.na_AskedRule_teller (pv 0)))
        (pss_one (ps_ret (SH.pe_callTel (i := 3) TEL hr rfl (Or.inl rfl) (pa_cons (pv 1) (pa_cons (pv 2) pa_nil)))))), ?_⟩
  walk_at "begin"
  walk_at "rd"
  refine SH.r_tel rfl hat ?_
  walk_at "rd"
  exact k

/-! ### the asker of a function that goes by keys and writes down -/
/-- a row of pairs (key, place) -/
def RowP (H : Hp) (row : List V) (ks : List Int) : Prop := row.length = ks.length ∧ ∀ (i : Nat) (v : V), row[i]? = some v → ∃ (t : Addr), v = .ref t ∧ H t = some (.tup [.int (getE ks i), .int (i : Nat)])
theorem RowP.stp {M : List Addr} {H H' : Hp} {row : List V} {ks : List Int} (h : RowP H row ks) (S : Stp M H H') : RowP H' row ks :=
  ⟨h.1, fun i v e => by obtain ⟨t, h1, h2⟩ := h.2 i v e; exact ⟨t, h1, S.tup h2⟩⟩
theorem RowP.app {H : Hp} {row : List V} {ks : List Int} {t : Addr} {k : Int} (h : RowP H row ks) (ht : H t = some (.tup [.int k, .int (row.length : Nat)])) : RowP H (row ++ [.ref t]) (ks ++ [k]) := by
  refine ⟨by simp [h.1], fun i v e => ?_⟩
  by_cases hi : i < row.length
  · rw [List.getElem?_append_left hi] at e
    obtain ⟨t', a, b⟩ := h.2 i v e
    exact ⟨t', a, by rw [getE_app (by rw [← h.1]; exact hi)]; exact b⟩
  · rw [List.getElem?_append_right (by omega)] at e
    have hz : i = row.length := by
      have := (List.getElem?_eq_some_iff.mp e).1
      simp at this; omega
    subst hz
    simp at e
    exact ⟨t, e.symm, by rw [getE_last h.1.symm]; exact ht⟩
structure Ask where
  s : Addr
  r : Addr
  l : Addr
  dx : Addr
  u : Addr
  du : Addr
  f : Addr
  tl : Addr
  cl : List (Str × Addr)
  cc : Addr
  ks : List Int
  row : List V
  pre : List Ent
  m : Option Nat
def Ask.n (I : Ask) : Nat := I.ks.length
def Ask.M (I : Ask) : List Addr := [I.s, I.l, I.tl]
def Ask.own (I : Ask) : List Addr := [I.s, I.l, I.tl, I.r, I.u]
def Ask.lt (I : Ask) (p q : Nat) : Bool := decide (getE I.ks p < getE I.ks q)
def Ask.or (I : Ask) : List Ent → Nat → Nat → Bool := fun _ => I.lt
structure Ask.At (I : Ask) (K : PySem.W.Frag) (A : Ad) (H : Hp) (log : List Ent) : Prop where
  hs : H I.s = some (.ins A.Asker I.dx (AskM I.r (.ref I.u) I.m log.length I.l))
  hr : H I.r = some (.lst I.row)
  hl : ∃ evs, H I.l = some (.lst evs) ∧ IsL K H evs log
  hu : H I.u = some (.ins A.AskedRule I.du [("teller", .ref I.f)])
  ht : ∃ evs, H I.tl = some (.lst evs) ∧ IsL K H evs (I.pre ++ log)
  hf : Clo1 H I.f [.ref I.tl] I.cl I.cc
  rk : RowP H I.row I.ks
  d1 : I.s ≠ I.u
  d2 : I.l ≠ I.r
  d3 : I.tl ≠ I.r
  d4 : I.l ≠ I.tl
  few : log.length + I.pre.length ≤ 100000
  rows : I.row.length ≤ 100000
  bd : ∀ m, I.m = some m → log.length ≤ m
theorem Ask.At.stp {I : Ask} {K : PySem.W.Frag} {A : Ad} {M : List Addr} {H H' : Hp} {log : List Ent} (h : I.At K A H log) (S : Stp M H H') (hM : ∀ m ∈ M, m ∉ I.own) : I.At K A H' log := by
  have k : ∀ b o, b ∈ I.own → H b = some o → H' b = some o := fun b o hb e => S.keep e fun z => hM b z hb
  obtain ⟨evs, h1, h2⟩ := h.hl
  obtain ⟨tvs, h3, h4⟩ := h.ht
  exact ⟨k _ _ (by simp [Ask.own]) h.hs, k _ _ (by simp [Ask.own]) h.hr, ⟨evs, k _ _ (by simp [Ask.own]) h1, isl_stpM S h2⟩, k _ _ (by simp [Ask.own]) h.hu, ⟨tvs, k _ _ (by simp [Ask.own]) h3, isl_stpM S h4⟩, h.hf.step S, h.rk.stp S, h.d1, h.d2, h.d3, h.d4, h.few, h.rows, h.bd⟩
theorem Ask.At.n_row {I : Ask} {K : PySem.W.Frag} {A : Ad} {H : Hp} {log : List Ent} (h : I.At K A H log) : I.row.length = I.n := h.rk.1

/-- a way is stopped: the asks so far, es, are the first of those that it would have made, es ++ es' -/
def Stop (I : Ask) (K : PySem.W.Frag) (A : Ad) (H : Hp) (log : List Ent) (R : List Ent → Prop) (E : XK) : Prop := ∀ (H' : Hp) (d : Addr) (es es' : List Ent), R (es ++ es') → es' ≠ [] → Told I.or log (es ++ es') → I.m = some (log.length + es.length) → Stp I.M H H' → I.At K A H' (log ++ es) → H d = none → H' d = some (.xd [("asked", .int ((log.length + es.length : Nat) : Int))]) → E (.ref A.Spent) (some d) H'
theorem Stop.free {I : Ask} {K : PySem.W.Frag} {A : Ad} {H : Hp} {log : List Ent} {R : List Ent → Prop} {E : XK} (h : I.m = none) : Stop I K A H log R E := fun _ _ _ _ _ _ _ hm => by rw [h] at hm; cases hm
theorem Stop.sub {I : Ask} {K : PySem.W.Frag} {A : Ad} {H H1 : Hp} {log es1 : List Ent} {R R1 : List Ent → Prop} {E : XK} (h : Stop I K A H log R E) (S : Stp I.M H H1) (hT : Told I.or log es1) (hR : ∀ es2, R1 es2 → Told I.or (log ++ es1) es2 → ∃ es3, Told I.or (log ++ es1 ++ es2) es3 ∧ R (es1 ++ es2 ++ es3)) : Stop I K A H1 (log ++ es1) R1 E := fun H' d es es' h1 hne hT1 hm S' hA hd hx => by
  obtain ⟨es3, hT3, hR3⟩ := hR _ h1 hT1
  have e : es1 ++ (es ++ es') ++ es3 = es1 ++ es ++ (es' ++ es3) := by simp
  have el : (log ++ es1).length + es.length = log.length + (es1 ++ es).length := by simp; omega
  rw [e] at hR3
  rw [el] at hm hx
  refine h H' d (es1 ++ es) (es' ++ es3) hR3 (by simp [hne]) ?_ hm (S.trans S') (by rw [← List.append_assoc]; exact hA) (S.dom _ hd) hx
  rw [← e]
  exact Told.app (Told.app hT hT1) (by rw [← List.append_assoc]; exact hT3)
theorem Stop.ask {I : Ask} {K : PySem.W.Frag} {A : Ad} {H H1 : Hp} {log es : List Ent} {R : List Ent → Prop} {E : XK} {x y : Nat} (h : Stop I K A H log R E) (S : Stp I.M H H1) (hT : Told I.or log es) (hr : ∃ c es3, Told I.or (log ++ es) ((⟨x, y, c⟩ : Ent) :: es3) ∧ R (es ++ (⟨x, y, c⟩ : Ent) :: es3)) : Stop I K A H1 (log ++ es) (fun es2 => ∃ said, es2 = [(⟨x, y, said⟩ : Ent)]) E := by
  refine h.sub S hT fun es2 ⟨said, e⟩ hT2 => ?_
  subst e
  obtain ⟨c, es3, hT3, hR⟩ := hr
  obtain rfl : said = c := hT2.1.trans hT3.1.symm
  exact ⟨es3, hT3.2, by rw [List.append_assoc]; exact hR⟩
def sp_Asker_ahead (K : PySem.W.Frag) (A : Ad) : Sp := fun vs H Q E => ∃ (I : Ask) (log : List Ent) (p q : Nat), vs = [.ref I.s, .int p, .int q] ∧ (I.At K A H log ∧ p < I.n ∧ q < I.n ∧ p ≠ q ∧ log.length + I.pre.length < 100000) ∧
  Stop I K A H log (fun es => ∃ said, es = [⟨max p q, min p q, said⟩]) E ∧
  ∀ H' said, said = I.or log (max p q) (min p q) → Stp I.M H H' → I.At K A H' (log ++ [⟨max p q, min p q, said⟩]) → Q (.bl (decide (said = decide (q < p)))) H'
theorem ok_Asker_ahead {P : Program} {w : World} {K : PySem.W.Frag} {mg : Str → Option Value} {base : Heap} {A : Ad} {f : Addr} {fd : FuncData} (F : Fun K "ahead" "Asker.ahead" s_Asker_ahead f fd) (T : Txt K mg A) (M_AskedRule_before : SH.CalM P w K mg base CX0 2 A.AskedRule "before" [] (sp_AskedRule_before K A)) (X_Spent : SH.CalE P w K mg base 1 "Spent" A.Spent (sp_Spent___init__ K A)) : FnOk P w K mg base (L2N.CX P w) 3 f fd ["self", "p", "q"] (sp_Asker_ahead K A) := by
  refine SH.okN F sc_Asker_ahead (fun vs H Q E h => by obtain ⟨_, _, _, _, rfl, _⟩ := h; rfl) (fun cdv A' outer s H vs Q E hr h => ?_)
  obtain ⟨I, log, p, q, rfl, ⟨hA, hp, hq, hne, hlog⟩, kx, k⟩ := h
  refine ⟨_, (pss_cons (ps_if (PW.pt (pw_and (pt_cmpR SH.oNotN (SH.pe_fldF T.cl_Asker T.na_Asker_most (pv 0)) pe_non (nomark _)) (pw_and1 (pt_cmpR SH.oGe (SH.pe_fldF T.cl_Asker T.na_Asker_asked (pv 0)) (SH.pe_fldF T.cl_Asker T.na_Asker_most (pv 0)) (nomark _))))) (pss_one (L2N.ps_raise rfl (L2N.takes_of rfl rfl rfl rfl) (SH.pmk_oexN X_Spent hr (by rfl) (pa_cons (SH.pe_fldF T.cl_Asker T.na_Asker_asked (pv 0)) pa_nil)))) pss_nil)
        (pss_cons (ps_set (i := 3) sc_Asker_ahead.nd rfl (Or.inl rfl) (pe_callB (SH.cMax2 rfl) (by rfl) T.z_max (by decide +kernel) (pa_cons (pv 1) (pa_cons (pv 2) pa_nil))))
        (pss_cons (ps_set (i := 4) sc_Asker_ahead.nd rfl (Or.inl rfl) (pe_callB (SH.cMin2 rfl) (by rfl) T.z_min (by decide +kernel) (pa_cons (pv 1) (pa_cons (pv 2) pa_nil))))
        (pss_cons (ps_set (i := 5) sc_Asker_ahead.nd rfl (Or.inl rfl) (SH.pe_methF (SH.pe_fldF T.cl_Asker T.na_Asker_rule (pv 0)) M_AskedRule_before hr pass0 (pa_cons (pe_ix SH.ixA (SH.pe_fldF T.cl_Asker T.na_Asker_row (pv 0)) (pv 3) (fun _ _ => rfl)) (pa_cons (pe_ix SH.ixA (SH.pe_fldF T.cl_Asker T.na_Asker_row (pv 0)) (pv 4) (fun _ _ => rfl)) pa_nil))))
        (pss_cons (SH.ps_fldaugF T.cl_Asker T.na_Asker_asked (pv 0) pe_int SH.in_add')
        (pss_cons (ps_expr (pe_bm PySem.F.plainAttrs_list PySem.F.slot_list_append PySem.F.type_list_append mt_append (SH.pe_fldF T.cl_Asker T.na_Asker_log (pv 0)) (pa_cons (pe_tup (pa_cons (pv 3) (pa_cons (pv 4) (pa_cons (pv 5) pa_nil)))) pa_nil)))
        (pss_one (ps_ret (pe_cmpR (SH.oEq hr.units) (pv 5) (pe_cmpR (SH.oEq hr.units) (pv 1) (pv 3) (nomark _)) (nomark _)))))))))), ?_⟩
  walk_at "begin"
  have hA0 := hA
  have hn := hA.n_row
  obtain ⟨hs, hr, ⟨evs, hl, hev⟩, hu, ⟨tvs, ht, htv⟩, hf, rk, d1, d2, d3, d4, few, rows, bd⟩ := hA
  have nsl : I.s ≠ I.l := ne_of hs hl (by intro z; cases z)
  have nst : I.s ≠ I.tl := ne_of hs ht (by intro z; cases z)
  have nsr : I.s ≠ I.r := ne_of hs hr (by intro z; cases z)
  have nlu : I.l ≠ I.u := ne_of hl hu (by intro z; cases z)
  have ntu : I.tl ≠ I.u := ne_of ht hu (by intro z; cases z)
  unfold AskM at hs
  walk_at "ri"
  refine r_J (fun σ' H' => (I.m ≠ some log.length ∧ H' = H) ∧ σ' = [some (.ref I.s), some (.int p), some (.int q), none, none, none]) ?_ fun N hN => ?_
  rotate_left
  · walk_at "rd"
    cases hm : I.m with
    | none =>
      rw [hm] at hs
      rw [show (!decide (mV none = V.non)) = false by simp [mV], if_neg (by simp)]
      walk_at "rd"
      exact hN _ _ ⟨⟨by rw [hm]; simp, rfl⟩, rfl⟩
    | some m =>
      have hbm := bd m hm
      rw [hm] at hs
      rw [show (!decide (mV (some m) = V.non)) = true by simp [mV], if_pos rfl]
      unfold mV at hs
      walk_at "rd"
      refine r_w (fun hc => ?_) fun hc => ?_
      · obtain rfl : m = log.length := by omega
        walk_at "rd"
        refine v_raise1 fun d hd => ?_
        have S := (Stp.refl [] H).new (o := .xd [("asked", .int (log.length : Nat))]) hd
        exact kx _ d [] [⟨max p q, min p q, I.or log (max p q) (min p q)⟩] ⟨_, rfl⟩ (by simp) ⟨rfl, True.intro⟩ hm (S.mono (by simp)) (by rw [List.append_nil]; exact hA0.stp S (by simp)) hd upd_same
      · walk_at "rd"
        exact hN _ _ ⟨⟨by rw [hm]; simp; omega, rfl⟩, rfl⟩
  rintro σ' H0 ⟨⟨hm, rfl⟩, rfl⟩
  dsimp only
  walk_at "rd"
  rw [max_v, min_v]
  have hmx : max p q < I.row.length := by omega
  have hmn : min p q < I.row.length := by omega
  obtain ⟨t1, e1, ht1⟩ := rk.2 (max p q) _ (List.getElem?_eq_getElem hmx)
  obtain ⟨t2, e2, ht2⟩ := rk.2 (min p q) _ (List.getElem?_eq_getElem hmn)
  walk_at "rd"
  refine v_ixLn (n := max p q) (SqL.of hr) rfl ((List.getElem?_eq_getElem hmx).trans (congrArg some e1)) ?_
  walk_at "rd"
  refine v_ixLn (n := min p q) (SqL.of hr) rfl ((List.getElem?_eq_getElem hmn).trans (congrArg some e2)) ?_
  walk_at "rd"
  have htl := isl_len htv
  rw [List.length_append] at htl
  refine ⟨I.u, I.f, t1, t2, I.du, rfl, hu, ⟨_, _, _, hf⟩, _, _, _, hf, I.tl, t1, t2, tvs, _, _, _, _, rfl, ⟨rfl, ht, by omega, ht1, ht2⟩, fun t3 H1 S1 hT1 ht3 => ?_⟩
  have ek : decide (getE I.ks (max p q) < getE I.ks (min p q)) = I.or log (max p q) (min p q) := rfl
  rw [ek] at ht3 ⊢
  generalize hsaid : I.or log (max p q) (min p q) = said at ht3 ⊢
  have hs1 := S1.keep1 hs nst
  have hr1 := S1.keep1 hr d3.symm
  have hl1 := S1.keep1 hl d4
  have hu1 := S1.keep1 hu ntu.symm
  walk_at "rd"
  intro tp htp
  have htp0 : H1 tp = none := (upd_free htp).1
  walk_at "rd"
  have hl2 : upd (upd H1 I.s (.ins A.Asker I.dx [("row", .ref I.r), ("rule", .ref I.u), ("most", mV I.m), ("asked", .int (log.length + 1)), ("log", .ref I.l)])) tp (.tup [.int (max p q : Nat), .int (min p q : Nat), .bl said]) I.l = some (.lst evs) := by
    rw [upd_ne (ne_of_none hl1 htp0), upd_ne nsl.symm]; exact hl1
  have hel := isl_len hev
  refine v_app hl2 (by omega) ?_
  walk_at "rd"
  have epl : decide ((p : Int) = ((max p q : Nat) : Int)) = decide (q < p) := by
    apply decide_eq_decide.mpr; omega
  rw [epl]
  have S2 : Stp I.M H1 (upd (upd (upd H1 I.s (.ins A.Asker I.dx [("row", .ref I.r), ("rule", .ref I.u), ("most", mV I.m), ("asked", .int (log.length + 1)), ("log", .ref I.l)])) tp (.tup [.int (max p q : Nat), .int (min p q : Nat), .bl said])) I.l (.lst (evs ++ [.ref tp]))) :=
    (((Stp.refl I.M H1).putM (by simp [Ask.M]) hs1 (fun z => z)).new htp).putM (by simp [Ask.M]) hl2 (fun z => z)
  have S : Stp I.M H0 _ := (S1.mono (M' := I.M) (by simp [Ask.M])).trans S2
  refine k _ said hsaid.symm S ?_
  have ntl : tp ≠ I.l := (ne_of_none hl1 htp0).symm
  have nts : tp ≠ I.s := (ne_of_none hs1 htp0).symm
  have keep : ∀ {b o}, b ≠ I.l → b ≠ I.s → H1 b = some o → upd (upd (upd H1 I.s (.ins A.Asker I.dx [("row", .ref I.r), ("rule", .ref I.u), ("most", mV I.m), ("asked", .int (log.length + 1)), ("log", .ref I.l)])) tp (.tup [.int (max p q : Nat), .int (min p q : Nat), .bl said])) I.l (.lst (evs ++ [.ref tp])) b = some o := fun {b o} h1 h2 h3 => by
    rw [upd_ne h1, upd_ne (ne_of_none h3 htp0), upd_ne h2]; exact h3
  refine ⟨?_, keep d2.symm nsr.symm hr1, ⟨evs ++ [.ref tp], upd_same, isl_app (isl_stpM S hev) (isl_cons (is_t3 (SqT.of (by rw [upd_ne ntl]; exact upd_same)) is_nat is_nat is_bl) isl_nil)⟩, keep nlu.symm d1.symm hu1,
    ⟨tvs ++ [.ref t3], keep d4.symm nst.symm hT1, ?_⟩, hf.step S, rk.stp S, d1, d2, d3, d4, by simp; omega, rows, fun m e => by
      have := bd m e
      have : m ≠ log.length := fun z => hm (by rw [e, z])
      simp; omega⟩
  · rw [upd_ne nsl, upd_ne nts.symm, upd_same]
    simp [AskM]
  · rw [← List.append_assoc]
    exact isl_app (isl_stpM S htv) (isl_cons (is_t3 (SqT.of (S2.tup ht3)) is_nat is_nat is_bl) isl_nil)

def Ask.wide (I : Ask) (n : Nat) : Ask := { I with m := I.m.map (· + n) }
theorem wide_some {I : Ask} {n m : Nat} (h : I.m = some m) : (I.wide n).m = some (m + n) := by unfold Ask.wide; rw [h]; rfl
theorem wide_none {I : Ask} {n : Nat} (h : I.m = none) : I.wide n = I := by unfold Ask.wide; rw [h]; cases I; dsimp only at h; subst h; rfl
def sp_Asker_widen (K : PySem.W.Frag) (A : Ad) : Sp := fun vs H Q _ => ∃ (I : Ask) (log : List Ent) (n : Nat), vs = [.ref I.s, .int n] ∧ I.At K A H log ∧ ∀ H', Stp [I.s] H H' → (I.wide n).At K A H' log → Q .non H'
theorem ok_Asker_widen {P : Program} {w : World} {K : PySem.W.Frag} {mg : Str → Option Value} {base : Heap} {A : Ad} {f : Addr} {fd : FuncData} (F : Fun K "widen" "Asker.widen" s_Asker_widen f fd) (T : Txt K mg A)  : FnOk P w K mg base CX0 1 f fd ["self", "more"] (sp_Asker_widen K A) := by
  refine F.ok sc_Asker_widen (fun vs H Q E h => by obtain ⟨_, _, _, rfl, _⟩ := h; rfl) (fun cdv A' outer s H vs Q E hr h => ?_)
  obtain ⟨I, log, n, rfl, hA, k⟩ := h
  refine ⟨_, (pss_one (ps_if (pt_cmpR SH.oNotN (SH.pe_fldF T.cl_Asker T.na_Asker_most (pv 0)) pe_non (nomark _)) (pss_one (SH.ps_fldaugF T.cl_Asker T.na_Asker_most (pv 0) (pv 1) SH.in_add')) pss_nil)), ?_⟩
  walk_at "begin"
  have hA0 := hA
  obtain ⟨hs, hr, ⟨evs, hl, hev⟩, hu, ⟨tvs, ht, htv⟩, hf, rk, d1, d2, d3, d4, few, rows, bd⟩ := hA
  unfold AskM at hs
  walk_at "rd"
  cases hm : I.m with
  | none =>
    rw [hm] at hs
    rw [show (!decide (mV none = V.non)) = false by simp [mV], if_neg (by simp)]
    walk_at "rd"
    refine k H (.refl _ _) ?_
    rw [wide_none hm]
    exact hA0
  | some m =>
    rw [hm] at hs
    rw [show (!decide (mV (some m) = V.non)) = true by simp [mV], if_pos rfl]
    unfold mV at hs
    walk_at "rd"
    have S : Stp [I.s] H (upd H I.s (.ins A.Asker I.dx [("row", .ref I.r), ("rule", .ref I.u), ("most", .int ((m : Int) + (n : Int))), ("asked", .int log.length), ("log", .ref I.l)])) := (Stp.refl _ _).putI (by simp) hs
    have nsl : I.s ≠ I.l := ne_of hs hl (by intro z; cases z)
    have nsr : I.s ≠ I.r := ne_of hs hr (by intro z; cases z)
    have nst : I.s ≠ I.tl := ne_of hs ht (by intro z; cases z)
    refine k _ S ⟨?_, S.keep1 hr nsr.symm, ⟨evs, S.keep1 hl nsl.symm, isl_stpM S hev⟩, S.keep1 hu d1.symm, ⟨tvs, S.keep1 ht nst.symm, isl_stpM S htv⟩, hf.step S, rk.stp S, d1, d2, d3, d4, few, rows, fun m' e => ?_⟩
    · show upd H I.s _ I.s = some (.ins A.Asker I.dx (AskM I.r (.ref I.u) (I.wide n).m log.length I.l))
      rw [upd_same, wide_some hm]
      have e : mV (some (m + n)) = .int ((m : Int) + (n : Int)) := by unfold mV; congr 1
      unfold AskM
      rw [e]
    · rw [wide_some hm] at e
      cases e
      have := bd m hm
      omega
def sp_Asker_many (K : PySem.W.Frag) (A : Ad) : Sp := fun vs H Q _ => ∃ (I : Ask) (log : List Ent), vs = [.ref I.s] ∧ I.At K A H log ∧ Q (.int I.n) H
theorem ok_Asker_many {P : Program} {w : World} {K : PySem.W.Frag} {mg : Str → Option Value} {base : Heap} {A : Ad} {f : Addr} {fd : FuncData} (F : Fun K "many" "Asker.many" s_Asker_many f fd) (T : Txt K mg A)  : FnOk P w K mg base CX0 1 f fd ["self"] (sp_Asker_many K A) := by
  refine F.ok sc_Asker_many (fun vs H Q E h => by obtain ⟨_, _, rfl, _⟩ := h; rfl) (fun cdv A' outer s H vs Q E hr h => ?_)
  obtain ⟨I, log, rfl, hA, k⟩ := h
  refine ⟨_, (pss_one (ps_ret (pe_callB SH.cLen (by rfl) T.z_len (by decide +kernel) (pa_cons (SH.pe_fldF T.cl_Asker T.na_Asker_row (pv 0)) pa_nil)))), ?_⟩
  walk_at "begin"
  have hn := hA.n_row
  obtain ⟨hs, hr, _⟩ := hA
  unfold AskM at hs
  walk_at "rd"
  rw [hn]
  exact k

def sp_Asker___init__ (K : PySem.W.Frag) (A : Ad) : Sp := fun vs H Q _ => ∃ (s b : Addr) (u : V) (row : List V) (m : Option Nat), vs = [.ref s, .ref b, u, mV m] ∧ (∃ dx, H s = some (.ins A.Asker dx [])) ∧ (SqL K H b row ∧ row.length ≤ 100000) ∧
  ∀ dx r l H', H r = none → H l = none → l ≠ r → s ≠ r → s ≠ l → Stp [s] H H' → H' s = some (.ins A.Asker dx (AskM r u m 0 l)) → H' r = some (.lst row) → H' l = some (.lst []) → Q .non H'
theorem ok_Asker___init__ {P : Program} {w : World} {K : PySem.W.Frag} {mg : Str → Option Value} {base : Heap} {A : Ad} {f : Addr} {fd : FuncData} (F : FunD K "__init__" "Asker.__init__" (defArgs s_Asker___init__) (defBody s_Asker___init__) (defScope s_Asker___init__) [.non] [] f fd) (T : Txt K mg A)  : FnOk P w K mg base CX0 1 f fd ["self", "row", "rule", "most"] (sp_Asker___init__ K A) := by
  refine SH.funD_ok F sc_Asker___init__ (fun vs H Q E h => by obtain ⟨_, _, _, _, _, rfl, _⟩ := h; rfl) (fun cdv A' outer s H vs Q E hr h => ?_)
  obtain ⟨s', b, u, row, m, rfl, ⟨dx, hs⟩, ⟨hb, hl⟩, k⟩ := h
  refine ⟨_, (pss_cons (SH.ps_fldF T.cl_Asker T.na_Asker_row (pv 0) (pe_callTy SH.cListOf (by rfl) T.z_list (by decide +kernel) (pa_cons (pv 1) pa_nil)) rfl)
        (pss_cons (SH.ps_fldF T.cl_Asker T.na_Asker_rule (pv 0) (pv 2) rfl)
        (pss_cons (SH.ps_fldF T.cl_Asker T.na_Asker_most (pv 0) (pv 3) rfl)
        (pss_cons (SH.ps_fldF T.cl_Asker T.na_Asker_asked (pv 0) pe_int rfl)
        (pss_one (SH.ps_fldF T.cl_Asker T.na_Asker_log (pv 0) (pe_lst pa_nil) rfl)))))), ?_⟩
  walk_at "begin"
  walk_at "rd"
  intro r hr
  have nsr : s' ≠ r := ne_of_none hs hr
  walk_at "rd"
  intro l hl2
  have hl0 : H l = none := (upd_free (upd_free (upd_free (upd_free (upd_free hl2).1).1).1).1).1
  have nsl : s' ≠ l := ne_of_none hs hl0
  have nlr : l ≠ r := fun e => by subst e; simp [upd_ne nsr.symm, upd_same] at hl2
  walk_at "rd"
  refine k dx r l _ hr hl0 nlr nsr nsl ?_ upd_same ?_ ?_
  · exact ((((((Stp.refl [s'] H).new hr).putI (by simp) (upd_old hs hr)).putI (by simp) upd_same).putI (by simp) upd_same).putI (by simp) upd_same).new hl2 |>.putI (by simp) (upd_old upd_same hl2)
  · rw [upd_ne nsr.symm, upd_ne nlr.symm, upd_ne nsr.symm, upd_ne nsr.symm, upd_ne nsr.symm, upd_ne nsr.symm]; exact upd_same
  · rw [upd_ne nsl.symm]; exact upd_same
theorem Ask.At.fresh {I : Ask} {K : PySem.W.Frag} {A : Ad} {H : Hp} {log : List Ent} (h : I.At K A H log) {b : Addr} (hb : H b = none) : b ∉ I.M := by
  obtain ⟨evs, h2, _⟩ := h.hl
  obtain ⟨tvs, h3, _⟩ := h.ht
  simp only [Ask.M, List.mem_cons, List.not_mem_nil, or_false, not_or]
  exact ⟨(ne_of_none h.hs hb).symm, (ne_of_none h2 hb).symm, (ne_of_none h3 hb).symm⟩
theorem Ask.At.freshO {I : Ask} {K : PySem.W.Frag} {A : Ad} {H : Hp} {log : List Ent} (h : I.At K A H log) {b : Addr} (hb : H b = none) : b ∉ I.own := by
  obtain ⟨evs, h2, _⟩ := h.hl
  obtain ⟨tvs, h3, _⟩ := h.ht
  simp only [Ask.own, List.mem_cons, List.not_mem_nil, or_false, not_or]
  exact ⟨(ne_of_none h.hs hb).symm, (ne_of_none h2 hb).symm, (ne_of_none h3 hb).symm, (ne_of_none h.hr hb).symm, (ne_of_none h.hu hb).symm⟩
/-! ### leaps -/
/-- the halving above lo - 1 and up to high -/
inductive HB (ord : List Nat) (place : Nat) : Nat → Nat → List Ent → Nat → Prop
  | done (lo : Nat) : HB ord place lo lo [] lo
  | up {lo high o : Nat} {es : List Ent} {r : Nat} (h : lo < high) (ho : ord[(lo + high - 1) / 2]? = some o) (k : HB ord place ((lo + high - 1) / 2 + 1) high es r) : HB ord place lo high (⟨max o place, min o place, decide (place < o)⟩ :: es) r
  | down {lo high o : Nat} {es : List Ent} {r : Nat} (h : lo < high) (ho : ord[(lo + high - 1) / 2]? = some o) (k : HB ord place lo ((lo + high - 1) / 2) es r) : HB ord place lo high (⟨max o place, min o place, !decide (place < o)⟩ :: es) r
theorem HB.bd {ord : List Nat} {place lo high r : Nat} {es : List Ent} (h : HB ord place lo high es r) : lo ≤ r ∧ r ≤ high ∧ es.length ≤ high - lo := by
  induction h with
  | done lo => exact ⟨Nat.le_refl _, Nat.le_refl _, by simp⟩
  | up h ho k ih => exact ⟨by omega, by omega, by rw [List.length_cons]; omega⟩
  | down h ho k ih => exact ⟨by omega, by omega, by rw [List.length_cons]; omega⟩
/-- a leap: by steps that double, then by halving -/
inductive LP (ord : List Nat) (place first : Nat) : Nat → Nat → List Ent → Nat → Prop
  | more {lo step o : Nat} {es : List Ent} {r : Nat} (h : first + step ≤ ord.length) (ho : ord[first + step - 1]? = some o) (k : LP ord place first (first + step) (step * 2) es r) : LP ord place first lo step (⟨max o place, min o place, decide (place < o)⟩ :: es) r
  | stop {lo step o : Nat} {es : List Ent} {r : Nat} (h : first + step ≤ ord.length) (ho : ord[first + step - 1]? = some o) (k : HB ord place lo (first + step - 1) es r) : LP ord place first lo step (⟨max o place, min o place, !decide (place < o)⟩ :: es) (r - first)
  | over {lo step : Nat} {es : List Ent} {r : Nat} (h : ord.length < first + step) (k : HB ord place lo ord.length es r) : LP ord place first lo step es (r - first)
/-! ### whatever is told, a way comes to an end: the asks that it would make -/
theorem HB.total (or : List Ent → Nat → Nat → Bool) {ord : List Nat} {place : Nat} : ∀ (m lo high : Nat) (log : List Ent), high - lo = m → lo ≤ high → high ≤ ord.length → ∃ es r, HB ord place lo high es r ∧ Told or log es := by
  intro m
  induction m using Nat.strongRecOn with
  | ind m ih =>
    intro lo high log hm h1 h2
    by_cases h : lo < high
    · have hi : (lo + high - 1) / 2 < ord.length := by omega
      have ho := List.getElem?_eq_getElem hi
      generalize ord[(lo + high - 1) / 2] = o at ho
      by_cases hc : or log (max o place) (min o place) = decide (place < o)
      · obtain ⟨es, r, k, hT⟩ := ih (high - ((lo + high - 1) / 2 + 1)) (by omega) ((lo + high - 1) / 2 + 1) high (log ++ [⟨max o place, min o place, decide (place < o)⟩]) rfl (by omega) h2
        exact ⟨_, r, .up h ho k, hc.symm, hT⟩
      · obtain ⟨es, r, k, hT⟩ := ih ((lo + high - 1) / 2 - lo) (by omega) lo ((lo + high - 1) / 2) (log ++ [⟨max o place, min o place, !decide (place < o)⟩]) rfl (by omega) (by omega)
        exact ⟨_, r, .down h ho k, by show (!decide (place < o)) = _; cases hd : decide (place < o) <;> cases hz : or log (max o place) (min o place) <;> simp_all, hT⟩
    · obtain rfl : lo = high := by omega
      exact ⟨[], lo, .done lo, True.intro⟩
theorem LP.total (or : List Ent → Nat → Nat → Bool) {ord : List Nat} {place first : Nat} : ∀ (m lo step : Nat) (log : List Ent), ord.length + 1 - (first + step) = m → 1 ≤ step → lo < first + step → lo ≤ ord.length → ∃ es r, LP ord place first lo step es r ∧ Told or log es := by
  intro m
  induction m using Nat.strongRecOn with
  | ind m ih =>
    intro lo step log hm h0 h1 h2
    by_cases h : first + step ≤ ord.length
    · have hi : first + step - 1 < ord.length := by omega
      have ho := List.getElem?_eq_getElem hi
      generalize ord[first + step - 1] = o at ho
      by_cases hc : or log (max o place) (min o place) = decide (place < o)
      · obtain ⟨es, r, k, hT⟩ := ih (ord.length + 1 - (first + step * 2)) (by omega) (first + step) (step * 2) (log ++ [⟨max o place, min o place, decide (place < o)⟩]) rfl (by omega) (by omega) h
        exact ⟨_, r, .more h ho k, hc.symm, hT⟩
      · obtain ⟨es, r, k, hT⟩ := HB.total or (ord := ord) (place := place) _ lo (first + step - 1) (log ++ [⟨max o place, min o place, !decide (place < o)⟩]) rfl (by omega) (by omega)
        exact ⟨_, _, .stop h ho k, by show (!decide (place < o)) = _; cases hd : decide (place < o) <;> cases hz : or log (max o place) (min o place) <;> simp_all, hT⟩
    · obtain ⟨es, r, k, hT⟩ := HB.total or (ord := ord) (place := place) _ lo ord.length log rfl h2 (Nat.le_refl _)
      exact ⟨es, _, .over (by omega) k, hT⟩
theorem HB.first {ord : List Nat} {place lo high r o : Nat} {es : List Ent} (h : HB ord place lo high es r) (hl : lo < high) (ho : ord[(lo + high - 1) / 2]? = some o) : ∃ c es3, es = (⟨max o place, min o place, c⟩ : Ent) :: es3 := by
  cases h with
  | done => omega
  | up h ho2 k => rw [ho] at ho2; cases ho2; exact ⟨_, _, rfl⟩
  | down h ho2 k => rw [ho] at ho2; cases ho2; exact ⟨_, _, rfl⟩
theorem LP.first {ord : List Nat} {place first lo step r o : Nat} {es : List Ent} (h : LP ord place first lo step es r) (hl : first + step ≤ ord.length) (ho : ord[first + step - 1]? = some o) : ∃ c es3, es = (⟨max o place, min o place, c⟩ : Ent) :: es3 := by
  cases h with
  | more h ho2 k => rw [ho] at ho2; cases ho2; exact ⟨_, _, rfl⟩
  | stop h ho2 k => rw [ho] at ho2; cases ho2; exact ⟨_, _, rfl⟩
  | over h k => omega
def sp_halved_between (K : PySem.W.Frag) (A : Ad) : Sp := fun vs H Q E => ∃ (I : Ask) (log : List Ent) (a : Addr) (ord : List Nat) (place lo high : Nat) (low : Int), vs = [.ref I.s, .ref a, .int place, .int low, .int high] ∧ (I.At K A H log ∧ SqL K H a (nv ord) ∧ a ∉ I.M ∧ place < I.n ∧ (∀ o ∈ ord, o < I.n ∧ o ≠ place) ∧ low = (lo : Int) - 1 ∧ lo ≤ high ∧ high ≤ ord.length ∧ log.length + I.pre.length + (high - lo) < 100000) ∧
  Stop I K A H log (fun es => ∃ r, HB ord place lo high es r) E ∧
  ∀ H' r es, Told I.or log es → HB ord place lo high es r → Stp I.M H H' → I.At K A H' (log ++ es) → Q (.int (r : Nat)) H'
theorem ok_halved_between {P : Program} {w : World} {K : PySem.W.Frag} {mg : Str → Option Value} {base : Heap} {A : Ad} {f : Addr} {fd : FuncData} (F : Fun K "halved_between" "halved_between" s_halved_between f fd) (T : Txt K mg A) (M_Asker_ahead : SH.CalM P w K mg base (L2N.CX P w) 3 A.Asker "ahead" [] (sp_Asker_ahead K A)) : FnOk P w K mg base (L2N.CX P w) 4 f fd ["asker", "order", "place", "low", "high"] (sp_halved_between K A) := by
  refine SH.okN F sc_halved_between (fun vs H Q E h => by obtain ⟨_, _, _, _, _, _, _, _, rfl, _⟩ := h; rfl) (fun cdv A' outer s H vs Q E hr h => ?_)
  obtain ⟨I, log, a, ord, place, lo, high, low, rfl, ⟨hA, hS, hnM, hp, hord, rfl, hlh, hho, hlog⟩, kx, k⟩ := h
  refine ⟨_, (pss_cons (ps_while (L2.passes_of rfl) (pt_cmpR SH.oGt (pe_op SH.oSub (pv 4) (pv 3)) pe_int (nomark _)) (pss_cons (ps_set (i := 5) sc_halved_between.nd rfl (Or.inl rfl) (pe_op SH.oDiv (pe_op SH.oAdd (pv 3) (pv 4)) pe_int))
        (pss_one (ps_if (pt_val (SH.pe_methF (pv 0) M_Asker_ahead hr (L2N.passes_call (L2N.takes_of rfl rfl rfl rfl) fun _ _ _ _ h => h) (pa_cons (pe_ix SH.ixA (pv 1) (pv 5) (fun _ _ => rfl)) (pa_cons (pv 2) pa_nil)))) (pss_one (ps_set (i := 3) sc_halved_between.nd rfl (Or.inl rfl) (pv 5))) (pss_one (ps_set (i := 4) sc_halved_between.nd rfl (Or.inl rfl) (pv 5)))))))
        (pss_one (ps_ret (pv 4)))), ?_⟩
  walk_at "begin"
  walk_at "rd"
  refine r_while (fun m σ H' => ∃ (lo' high' : Nat) (es : List Ent) (v5 : Option V), m = high' - lo' ∧ lo' ≤ high' ∧ high' ≤ ord.length ∧ es.length + (high' - lo') ≤ high - lo ∧ (∀ rest r, HB ord place lo' high' rest r → HB ord place lo high (es ++ rest) r) ∧
    Told I.or log es ∧ Stp I.M H H' ∧ I.At K A H' (log ++ es) ∧ σ = [some (.ref I.s), some (.ref a), some (.int place), some (.int ((lo' : Int) - 1)), some (.int high'), v5])
    ⟨_, lo, high, [], _, rfl, hlh, hho, by simp, fun rest r h => h, True.intro, .refl _ _, by rw [List.append_nil]; exact hA, rfl⟩ ?_
  rintro m σ H1 ⟨lo', high', es, v5, rfl, h1, h2, h3, hH, hT, S, hA1, rfl⟩
  walk_at "rd"
  refine r_w (fun hlt => ?_) fun hlt => ?_
  · refine r_next_turn ?_
    walk_at "rd"
    have em : ((lo' : Int) - 1 + high') / 2 = (((lo' + high' - 1) / 2 : Nat) : Int) := by omega
    rw [em]
    have hm : (lo' + high' - 1) / 2 < ord.length := by omega
    have ho : ord[(lo' + high' - 1) / 2]? = some ord[(lo' + high' - 1) / 2] := List.getElem?_eq_getElem hm
    obtain ⟨o1, o2⟩ := hord _ (List.getElem_mem hm)
    generalize ord[(lo' + high' - 1) / 2] = o at ho o1 o2
    have hs1 := hA1.hs
    have hS1 := S.sql hS hnM
    walk_at "rd"
    refine v_ixLn (n := (lo' + high' - 1) / 2) (v := .int o) hS1 rfl (by unfold nv; rw [List.getElem?_map, ho]; rfl) ?_
    walk_at "rd"
    refine ⟨I, _, o, place, rfl, ⟨hA1, o1, hp, o2, by rw [List.length_append]; omega⟩, kx.ask S hT (by
      obtain ⟨rest, r, hb, hT'⟩ := HB.total I.or (ord := ord) (place := place) _ lo' high' (log ++ es) rfl h1 h2
      obtain ⟨c, es3, rfl⟩ := hb.first (by omega) ho
      exact ⟨c, es3, hT', r, hH _ _ hb⟩), fun H2 said hsaid S2 hA2 => ?_⟩
    have hT2 := Told.app hT (Told.one (e := ⟨max o place, min o place, said⟩) hsaid)
    rw [List.append_assoc] at hA2
    walk_at "rd"
    refine r_w (fun hb => ?_) fun hb => ?_
    · walk_at "rd"
      refine ⟨high' - ((lo' + high' - 1) / 2 + 1), by omega, (lo' + high' - 1) / 2 + 1, high', es ++ [⟨max o place, min o place, said⟩], some (.int (((lo' + high' - 1) / 2 : Nat) : Int)), rfl, by omega, h2, by rw [List.length_append, List.length_singleton]; omega, fun rest r h => ?_, hT2, S.trans S2, hA2, ?_⟩
      · rw [List.append_assoc, hb]
        exact hH _ _ (.up (by omega) ho h)
      · rw [show ((((lo' + high' - 1) / 2 + 1 : Nat) : Int)) - 1 = (((lo' + high' - 1) / 2 : Nat) : Int) by omega]
    · walk_at "rd"
      have hb' : said = !decide (place < o) := by cases said <;> cases hd : decide (place < o) <;> simp_all
      refine ⟨(lo' + high' - 1) / 2 - lo', by omega, lo', (lo' + high' - 1) / 2, es ++ [⟨max o place, min o place, said⟩], _, rfl, by omega, by omega, by rw [List.length_append, List.length_singleton]; omega, fun rest r h => ?_, hT2, S.trans S2, hA2, rfl⟩
      rw [List.append_assoc, hb']
      exact hH _ _ (.down (by omega) ho h)
  · walk_at "rd"
    have e : lo' = high' := by omega
    subst e
    have := hH [] lo' (.done lo')
    rw [List.append_nil] at this
    exact k _ lo' es hT this S hA1

def sp_leap (K : PySem.W.Frag) (A : Ad) : Sp := fun vs H Q E => ∃ (I : Ask) (log : List Ent) (a : Addr) (ord : List Nat) (first place : Nat), vs = [.ref I.s, .ref a, .int first, .int place] ∧ (I.At K A H log ∧ SqL K H a (nv ord) ∧ a ∉ I.M ∧ place < I.n ∧ (∀ o ∈ ord, o < I.n ∧ o ≠ place) ∧ first ≤ ord.length ∧ ord.length ≤ 10000 ∧ log.length + I.pre.length + 2 * ord.length + 2 < 100000) ∧
  Stop I K A H log (fun es => ∃ r, LP ord place first first 1 es r) E ∧
  ∀ H' r es, Told I.or log es → LP ord place first first 1 es r → Stp I.M H H' → I.At K A H' (log ++ es) → Q (.int (r : Nat)) H'
theorem ok_leap {P : Program} {w : World} {K : PySem.W.Frag} {mg : Str → Option Value} {base : Heap} {A : Ad} {f : Addr} {fd : FuncData} (F : Fun K "leap" "leap" s_leap f fd) (T : Txt K mg A) (M_Asker_ahead : SH.CalM P w K mg base (L2N.CX P w) 3 A.Asker "ahead" [] (sp_Asker_ahead K A)) (C_halved_between : SH.Cal P w K mg base (L2N.CX P w) 4 "halved_between" [] (sp_halved_between K A)) : FnOk P w K mg base (L2N.CX P w) 5 f fd ["asker", "order", "first", "place"] (sp_leap K A) := by
  refine SH.okN F sc_leap (fun vs H Q E h => by obtain ⟨_, _, _, _, _, _, rfl, _⟩ := h; rfl) (fun cdv A' outer s H vs Q E hr h => ?_)
  obtain ⟨I, log, a, ord, first, place, rfl, ⟨hA, hS, hnM, hp, hord, hfo, hol, hlog⟩, kx, k⟩ := h
  refine ⟨_, (pss_cons (ps_set (i := 4) sc_leap.nd rfl (Or.inl rfl) (pe_op SH.oSub (pv 2) pe_int))
        (pss_cons (ps_set (i := 5) sc_leap.nd rfl (Or.inl rfl) pe_int)
        (pss_cons (ps_while (L2.passes_of rfl) (pt_cmpR SH.oLe (pe_op SH.oAdd (pv 2) (pv 5)) (pe_callB SH.cLen (by rfl) T.z_len (by decide +kernel) (pa_cons (pv 1) pa_nil)) (nomark _)) (pss_cons (ps_set (i := 6) sc_leap.nd rfl (Or.inl rfl) (pe_op SH.oSub (pe_op SH.oAdd (pv 2) (pv 5)) pe_int))
        (pss_cons (ps_if (pt_not (pt_val (SH.pe_methF (pv 0) M_Asker_ahead hr (L2N.passes_call (L2N.takes_of rfl rfl rfl rfl) fun _ _ _ _ h => h) (pa_cons (pe_ix SH.ixA (pv 1) (pv 6) (fun _ _ => rfl)) (pa_cons (pv 3) pa_nil))))) (pss_one (ps_ret (pe_op SH.oSub (SH.pe_callF C_halved_between hr (by rfl) (L2N.passes_call (L2N.takes_of rfl rfl rfl rfl) fun _ _ _ _ h => h) (pa_cons (pv 0) (pa_cons (pv 1) (pa_cons (pv 3) (pa_cons (pv 4) (pa_cons (pv 6) pa_nil)))))) (pv 2)))) pss_nil)
        (pss_cons (ps_set (i := 4) sc_leap.nd rfl (Or.inl rfl) (pv 6))
        (pss_one (ps_set (i := 5) sc_leap.nd rfl (Or.inl rfl) (pe_op SH.oShl (pv 5) pe_int)))))))
        (pss_one (ps_ret (pe_op SH.oSub (SH.pe_callF C_halved_between hr (by rfl) (L2N.passes_call (L2N.takes_of rfl rfl rfl rfl) fun _ _ _ _ h => h) (pa_cons (pv 0) (pa_cons (pv 1) (pa_cons (pv 3) (pa_cons (pv 4) (pa_cons (pe_callB SH.cLen (by rfl) T.z_len (by decide +kernel) (pa_cons (pv 1) pa_nil)) pa_nil)))))) (pv 2))))))), ?_⟩
  walk_at "begin"
  walk_at "rd"
  refine r_while (fun m σ H' => ∃ (lo step : Nat) (es : List Ent) (v6 : Option V), m = ord.length + 1 - (first + step) ∧ 1 ≤ step ∧ first ≤ lo ∧ lo < first + step ∧ lo ≤ ord.length ∧ step ≤ 20000 ∧ es.length ≤ lo - first ∧ (∀ rest r, LP ord place first lo step rest r → LP ord place first first 1 (es ++ rest) r) ∧
    Told I.or log es ∧ Stp I.M H H' ∧ I.At K A H' (log ++ es) ∧ σ = [some (.ref I.s), some (.ref a), some (.int first), some (.int place), some (.int ((lo : Int) - 1)), some (.int step), v6])
    ⟨_, first, 1, [], _, rfl, by omega, by omega, by omega, hfo, by omega, by simp, fun rest r h => h, True.intro, .refl _ _, by rw [List.append_nil]; exact hA, rfl⟩ ?_
  rintro m σ H1 ⟨lo, step, es, v6, rfl, h1, h2, h3, h4, h5, h6, hH, hT, S, hA1, rfl⟩
  have hS1 := S.sql hS hnM
  walk_at "rd"
  refine r_w (fun hlt => ?_) fun hlt => ?_
  · refine r_next_turn ?_
    walk_at "rd"
    have em : (first : Int) + step - 1 = ((first + step - 1 : Nat) : Int) := by omega
    rw [em]
    have hm : first + step - 1 < ord.length := by omega
    have ho : ord[first + step - 1]? = some ord[first + step - 1] := List.getElem?_eq_getElem hm
    obtain ⟨o1, o2⟩ := hord _ (List.getElem_mem hm)
    generalize ord[first + step - 1] = o at ho o1 o2
    have hs1 := hA1.hs
    walk_at "rd"
    refine v_ixLn (n := first + step - 1) (v := .int o) hS1 rfl (by unfold nv; rw [List.getElem?_map, ho]; rfl) ?_
    walk_at "rd"
    refine ⟨I, _, o, place, rfl, ⟨hA1, o1, hp, o2, by rw [List.length_append]; omega⟩, kx.ask S hT (by
      obtain ⟨rest, r, hb, hT'⟩ := LP.total I.or (ord := ord) (place := place) (first := first) _ lo step (log ++ es) rfl h1 h3 h4
      obtain ⟨c, es3, rfl⟩ := hb.first (by omega) ho
      exact ⟨c, es3, hT', r, hH _ _ hb⟩), fun H2 said hsaid S2 hA2 => ?_⟩
    have hT2 := Told.app hT (Told.one (e := ⟨max o place, min o place, said⟩) hsaid)
    rw [List.append_assoc] at hA2
    have hS2 := (S.trans S2).sql hS hnM
    walk_at "rd"
    refine r_nw (fun hb => ?_) fun hb => ?_
    · walk_at "rd"
      have hb' : said = !decide (place < o) := by cases said <;> cases hd : decide (place < o) <;> simp_all
      refine ⟨I, _, a, ord, place, lo, first + step - 1, _, rfl, ⟨hA2, hS2, hnM, hp, hord, rfl, by omega, by omega, by rw [List.length_append, List.length_append, List.length_singleton]; omega⟩, ?_, fun H3 r es3 hT3 hB S3 hA3 => ?_⟩
      · refine kx.sub (S.trans S2) hT2 fun es2 ⟨r, hB⟩ _ => ⟨[], True.intro, r - first, ?_⟩
        rw [List.append_nil, List.append_assoc, hb']
        exact hH _ _ (.stop (by omega) ho hB)
      have hbd := hB.bd
      walk_at "rd"
      have er : ((r : Nat) : Int) - first = ((r - first : Nat) : Int) := by omega
      rw [er]
      refine k _ (r - first) (es ++ [⟨max o place, min o place, said⟩] ++ es3) (Told.app hT2 hT3) ?_ ((S.trans S2).trans S3) (by rw [← List.append_assoc]; exact hA3)
      rw [List.append_assoc, hb']
      exact hH _ _ (.stop (by omega) ho hB)
    · walk_at "rd"
      have hp20 : (2 : Nat) ^ 20 = 1048576 := by decide
      have hsh : CShl (step : Int) (1 : Int) := shl_ok (i := (step : Int)) (j := 1) (n := 20) (by rw [hp20]; omega) (by decide)
      refine SH.v_shl hsh ?_
      walk_at "rd"
      have e2 : (step : Int) * 2 ^ (1 : Int).toNat = ((step * 2 : Nat) : Int) := by
        rw [show (1 : Int).toNat = 1 from rfl]; omega
      rw [e2]
      refine ⟨ord.length + 1 - (first + step * 2), by omega, first + step, step * 2, es ++ [⟨max o place, min o place, said⟩], some (.int ((first + step - 1 : Nat) : Int)), rfl, by omega, by omega, by omega, by omega, by omega, by rw [List.length_append, List.length_singleton]; omega, fun rest r h => ?_, hT2, S.trans S2, hA2, ?_⟩
      · rw [List.append_assoc, hb]
        exact hH _ _ (.more (by omega) ho h)
      · rw [show (((first + step : Nat) : Int)) - 1 = ((first + step - 1 : Nat) : Int) by omega]
  · walk_at "rd"
    refine ⟨I, _, a, ord, place, lo, ord.length, _, rfl, ⟨hA1, hS1, hnM, hp, hord, rfl, by omega, Nat.le_refl _, by rw [List.length_append]; omega⟩, kx.sub S hT (fun es2 ⟨r, hB⟩ _ => ⟨[], True.intro, r - first, by rw [List.append_nil]; exact hH _ _ (.over (by omega) hB)⟩), fun H3 r es3 hT3 hB S3 hA3 => ?_⟩
    have hbd := hB.bd
    walk_at "rd"
    have er : ((r : Nat) : Int) - first = ((r - first : Nat) : Int) := by omega
    rw [er]
    exact k _ (r - first) (es ++ es3) (Told.app hT hT3) (hH _ _ (.over (by omega) hB)) (S.trans S3) (by rw [← List.append_assoc]; exact hA3)
/-! ### bits -/
theorem bits_lt {n : Int} (h : 1 ≤ n) : n < 2 ^ Builtin.Int.intBits n := by
  unfold Builtin.Int.intBits
  rw [if_neg (by simp; omega)]
  have h1 : n.natAbs < 2 ^ (n.natAbs.log2 + 1) := Nat.lt_log2_self
  have h2 : n = (n.natAbs : Int) := by omega
  rw [h2]
  have h3 : ((n.natAbs : Nat) : Int) < ((2 ^ (n.natAbs.log2 + 1) : Nat) : Int) := by exact_mod_cast h1
  simpa using h3
theorem bits_le {n : Int} {k : Nat} (h : n < 2 ^ k) (h0 : 0 ≤ n) : Builtin.Int.intBits n ≤ k := by
  unfold Builtin.Int.intBits
  by_cases e : n = 0
  · subst e; simp
  · rw [if_neg (by simp; omega)]
    have h2 : n = (n.natAbs : Int) := by omega
    have h3 : n.natAbs < 2 ^ k := by
      rw [h2] at h
      exact_mod_cast h
    have h4 : n.natAbs ≠ 0 := by omega
    exact (Nat.log2_lt h4).mpr h3
theorem bits_half {d : Nat} (h : 0 < d) : Builtin.Int.intBits (d : Int) = Builtin.Int.intBits ((d / 2 : Nat) : Int) + 1 := by
  unfold Builtin.Int.intBits
  rw [if_neg (by simp; omega)]
  have e1 : ((d : Nat) : Int).natAbs = d := by omega
  have e2 : ((d / 2 : Nat) : Int).natAbs = d / 2 := by omega
  rw [e1, e2]
  by_cases h2 : d / 2 = 0
  · have : d = 1 := by omega
    subst this
    rfl
  · rw [if_neg (by simp; omega), Nat.log2_def d, if_pos (by omega)]
theorem bits_mono {a b : Nat} (h : a ≤ b) : Builtin.Int.intBits (a : Int) ≤ Builtin.Int.intBits (b : Int) := by
  induction b using Nat.strongRecOn generalizing a with
  | _ b ih =>
    by_cases ha : a = 0
    · subst ha; simp [Builtin.Int.intBits]
    · rw [bits_half (by omega : 0 < a), bits_half (by omega : 0 < b)]
      have := ih (b / 2) (by omega) (a := a / 2) (by omega)
      omega
theorem bits_nat_le {n k : Nat} (h : n < 2 ^ k) : Builtin.Int.intBits ((n : Nat) : Int) ≤ k := bits_le (by exact_mod_cast h) (by omega)
theorem bits_nat_ge {n k : Nat} (h : 2 ^ k ≤ n) : k + 1 ≤ Builtin.Int.intBits ((n : Nat) : Int) := by
  have hp : 0 < 2 ^ k := Nat.pos_of_ne_zero (by simp)
  have h1 := bits_lt (n := (n : Int)) (by omega)
  have h2 : n < 2 ^ Builtin.Int.intBits ((n : Nat) : Int) := by exact_mod_cast h1
  have h3 : 2 ^ k < 2 ^ Builtin.Int.intBits ((n : Nat) : Int) := by omega
  exact (Nat.pow_lt_pow_iff_right (by decide)).mp h3
/-! ### two orders joined -/
theorem two_at {α : Type} (f : Bool → α) (s : Bool) : [f false, f true][s.toNat]? = some (f s) := by cases s <;> rfl
def put2 {α : Type} (p : Bool → α) (s : Bool) (n : α) : Bool → α := fun b => if b = s then n else p b
theorem put2_same {α : Type} {p : Bool → α} {s : Bool} {n : α} : put2 p s n s = n := by simp [put2]
theorem put2_not {α : Type} {p : Bool → α} {s : Bool} {n : α} : put2 p s n (!s) = p (!s) := by cases s <;> simp [put2]
theorem put2_not' {α : Type} {p : Bool → α} {s : Bool} {n : α} : put2 p (!s) n s = p s := by cases s <;> simp [put2]
theorem put2_put2 {α : Type} {p : Bool → α} {s : Bool} {n m : α} : put2 (put2 p s n) s m = put2 p s m := by funext b; unfold put2; split <;> simp_all
theorem put2_sum {p : Bool → Nat} {s : Bool} {n : Nat} : put2 p s (p s + n) false + put2 p s (p s + n) true = p false + p true + n := by cases s <;> simp [put2] <;> omega
theorem put2_sum2 {p : Bool → Nat} {s : Bool} {n : Nat} : put2 (put2 p s (p s + n)) (!s) (p (!s) + 1) false + put2 (put2 p s (p s + n)) (!s) (p (!s) + 1) true = p false + p true + n + 1 := by cases s <;> simp [put2] <;> omega
abbrev iv (p : Bool → Nat) : List V := [.int (p false : Nat), .int (p true : Nat)]
theorem iv_at {p : Bool → Nat} {s : Bool} : (iv p)[s.toNat]? = some (.int (p s : Nat)) := by cases s <;> rfl
theorem iv_set {p : Bool → Nat} {s : Bool} {n : Nat} : (iv p).set s.toNat (.int n) = iv (put2 p s n) := by cases s <;> rfl
theorem nots {s : Bool} : (1 : Int) - (s.toNat : Nat) = ((!s).toNat : Nat) := by cases s <;> rfl
def ahE (x y : Nat) : Ent := ⟨max x y, min x y, decide (y < x)⟩
theorem two_perm (f : Bool → List Nat) (s : Bool) : (f false ++ f true).Perm (f s ++ f !s) := by
  cases s
  · exact .refl _
  · exact List.perm_append_comm
/-- two orders joined, from places p on, the last winner and its wins known -/
inductive JN (L : Bool → List Nat) : (Bool → Nat) → Bool → Nat → List Ent → List Nat → Prop
  | done {p : Bool → Nat} {last : Bool} {wins : Nat} (h : (L false).length ≤ p false ∨ (L true).length ≤ p true) : JN L p last wins [] ((L false).drop (p false) ++ (L true).drop (p true))
  | win {p : Bool → Nat} {last : Bool} {wins : Nat} (s : Bool) {x y : Nat} {es : List Ent} {res : List Nat} (hx : (L s)[p s]? = some x) (hy : (L !s)[p !s]? = some y)
      (h : ¬ ((if s = last then wins + 1 else 1) = 4 ∧ p s + 1 < (L s).length)) (k : JN L (put2 p s (p s + 1)) s (if s = last then wins + 1 else 1) es res) : JN L p last wins (ahE x y :: es) (x :: res)
  | leap {p : Bool → Nat} {last : Bool} {wins : Nat} (s : Bool) {x y g : Nat} {es1 es : List Ent} {res : List Nat} (hx : (L s)[p s]? = some x) (hy : (L !s)[p !s]? = some y)
      (h : (if s = last then wins + 1 else 1) = 4) (h2 : p s + 1 < (L s).length) (hL : LP (L s) y (p s + 1) (p s + 1) 1 es1 g) (h3 : p s + 1 + g < (L s).length)
      (k : JN L (put2 (put2 p s (p s + 1 + g)) (!s) (p (!s) + 1)) s 0 es res) : JN L p last wins (ahE x y :: (es1 ++ es)) (x :: (((L s).drop (p s + 1)).take g ++ y :: res))
  | leapA {p : Bool → Nat} {last : Bool} {wins : Nat} (s : Bool) {x y g : Nat} {es1 es : List Ent} {res : List Nat} (hx : (L s)[p s]? = some x) (hy : (L !s)[p !s]? = some y)
      (h : (if s = last then wins + 1 else 1) = 4) (h2 : p s + 1 < (L s).length) (hL : LP (L s) y (p s + 1) (p s + 1) 1 es1 g) (h3 : ¬ p s + 1 + g < (L s).length)
      (k : JN L (put2 p s (p s + 1 + g)) s 0 es res) : JN L p last wins (ahE x y :: (es1 ++ es)) (x :: (((L s).drop (p s + 1)).take g ++ res))
theorem LP.bd {ord : List Nat} {place first lo step r : Nat} {es : List Ent} (h : LP ord place first lo step es r) (h0 : 1 ≤ step) (hf : first ≤ lo) (h1 : lo < first + step) (h2 : lo ≤ ord.length) : first + r ≤ ord.length ∧ es.length ≤ 2 * (ord.length + 1 - lo) := by
  induction h with
  | more h ho k ih => have := ih (by omega) (by omega) (by omega) h; exact ⟨this.1, by rw [List.length_cons]; omega⟩
  | stop h ho k => have := k.bd; exact ⟨by omega, by rw [List.length_cons]; omega⟩
  | over h k => have := k.bd; exact ⟨by omega, by omega⟩
def sp_leap_taken (K : PySem.W.Frag) (A : Ad) : Sp := fun vs H Q E => ∃ (I : Ask) (log : List Ent) (sd at_ td : Addr) (s : Bool) (la : Bool → Addr) (L : Bool → List Nat) (p : Bool → Nat) (told : List Nat) (y : Nat),
  vs = [.ref I.s, .ref sd, .ref at_, .int (s.toNat : Nat), .ref td] ∧
  (I.At K A H log ∧ SqT K H sd [.ref (la false), .ref (la true)] ∧ (∀ b, SqL K H (la b) (nv (L b))) ∧ H at_ = some (.lst (iv p)) ∧ H td = some (.lst (nv told)) ∧ (at_ ∉ I.own ∧ td ∉ I.own ∧ at_ ≠ td ∧ (∀ b, la b ∉ I.M) ∧ ∀ b, la b ≠ at_ ∧ la b ≠ td) ∧
    ((∀ b, ∀ o ∈ L b, o < I.n) ∧ (∀ o ∈ L s, o ≠ y) ∧ (L !s)[p !s]? = some y ∧ p s < (L s).length ∧ (L s).length ≤ 1000 ∧ told.length ≤ 10000 ∧ log.length + I.pre.length + 4000 < 100000)) ∧
  Stop I K A H log (fun es => ∃ g, LP (L s) y (p s) (p s) 1 es g) E ∧
  (∀ H' g es, Told I.or log es → LP (L s) y (p s) (p s) 1 es g → Stp (at_ :: td :: I.M) H H' → I.At K A H' (log ++ es) →
    p s + g < (L s).length → H' at_ = some (.lst (iv (put2 (put2 p s (p s + g)) (!s) (p (!s) + 1)))) → H' td = some (.lst (nv (told ++ (((L s).drop (p s)).take g ++ [y])))) → Q .non H') ∧
  (∀ H' g es, Told I.or log es → LP (L s) y (p s) (p s) 1 es g → Stp (at_ :: td :: I.M) H H' → I.At K A H' (log ++ es) →
    ¬ p s + g < (L s).length → H' at_ = some (.lst (iv (put2 p s (p s + g)))) → H' td = some (.lst (nv (told ++ ((L s).drop (p s)).take g))) → Q .non H')
theorem ok_leap_taken {P : Program} {w : World} {K : PySem.W.Frag} {mg : Str → Option Value} {base : Heap} {A : Ad} {f : Addr} {fd : FuncData} (F : Fun K "leap_taken" "leap_taken" s_leap_taken f fd) (T : Txt K mg A) (C_leap : SH.Cal P w K mg base (L2N.CX P w) 5 "leap" [] (sp_leap K A)) : FnOk P w K mg base (L2N.CX P w) 6 f fd ["asker", "sides", "at", "side", "told"] (sp_leap_taken K A) := by
  refine SH.okN F sc_leap_taken (fun vs H Q E h => by obtain ⟨_, _, _, _, _, _, _, _, _, _, _, rfl, _⟩ := h; rfl) (fun cdv A' outer s H vs Q E hr h => ?_)
  obtain ⟨I, log, sd, at_, td, s', la, L, p, told, y, rfl, ⟨hA, hsd, hla, hat, htd, ⟨nA, nT, nAT, nla, nlb⟩, hLn, hLy, hy, hps, hL1, htl, hlog⟩, kx, k⟩ := h
  refine ⟨_, (pss_cons (ps_set (i := 5) sc_leap_taken.nd rfl (Or.inl rfl) (pe_ix SH.ixA (pv 1) (pv 3) (fun _ _ => rfl)))
        (pss_cons (ps_set (i := 6) sc_leap_taken.nd rfl (Or.inl rfl) (pe_ix SH.ixA (pv 1) (pe_op SH.oSub pe_int (pv 3)) (fun _ _ => rfl)))
        (pss_cons (ps_set (i := 7) sc_leap_taken.nd rfl (Or.inl rfl) (SH.pe_callF C_leap hr (by rfl) (L2N.passes_call (L2N.takes_of rfl rfl rfl rfl) fun _ _ _ _ h => h) (pa_cons (pv 0) (pa_cons (pv 5) (pa_cons (pe_ix SH.ixA (pv 2) (pv 3) (fun _ _ => rfl)) (pa_cons (pe_ix SH.ixA (pv 6) (pe_ix SH.ixA (pv 2) (pe_op SH.oSub pe_int (pv 3)) (fun _ _ => rfl)) (fun _ _ => rfl)) pa_nil))))))
        (pss_cons (ps_expr (pe_bm PySem.F.plainAttrs_list PySem.F.slot_list_extend PySem.F.type_list_extend mt_extend (pv 4) (pa_cons (pe_slice sl_list (pv 5) (po_some (pe_ix SH.ixA (pv 2) (pv 3) (fun _ _ => rfl))) (po_some (pe_op SH.oAdd (pe_ix SH.ixA (pv 2) (pv 3) (fun _ _ => rfl)) (pv 7)))) pa_nil)))
        (pss_cons (ps_augS (pv 2) (pv 3) SH.getL (pv 7) SH.ip_add' set_list)
        (pss_one (ps_if (pt_cmpR (SH.oLt hr.units0) (pe_ix SH.ixA (pv 2) (pv 3) (fun _ _ => rfl)) (pe_callB SH.cLen (by rfl) T.z_len (by decide +kernel) (pa_cons (pv 5) pa_nil)) (nomark _)) (pss_cons (ps_expr (pe_bm PySem.F.plainAttrs_list PySem.F.slot_list_append PySem.F.type_list_append mt_append (pv 4) (pa_cons (pe_ix SH.ixA (pv 6) (pe_ix SH.ixA (pv 2) (pe_op SH.oSub pe_int (pv 3)) (fun _ _ => rfl)) (fun _ _ => rfl)) pa_nil)))
        (pss_one (ps_augS (pv 2) (pe_op SH.oSub pe_int (pv 3)) SH.getL pe_int SH.ip_add' set_list))) pss_nil))))))), ?_⟩
  walk_at "begin"
  have hyn : y < I.n := hLn _ _ (List.mem_of_getElem? hy)
  have hMo : ∀ m, m ∈ I.M → m ∈ I.own := fun m hm => by simp only [Ask.M, Ask.own, List.mem_cons, List.not_mem_nil, or_false] at hm ⊢; first | (rcases hm with h | h | h <;> simp [h]; done) | (rcases hm with h | h <;> simp [h])
  have nA' : at_ ∉ I.M := fun z => nA (hMo _ z)
  have nT' : td ∉ I.M := fun z => nT (hMo _ z)
  walk_at "rd"
  refine v_ixTn (n := s'.toNat) hsd rfl (two_at (fun b => V.ref (la b)) s') ?_
  walk_at "rd"
  rw [nots]
  refine v_ixTn (n := (!s').toNat) hsd rfl (two_at (fun b => V.ref (la b)) (!s')) ?_
  walk_at "rd"
  refine v_ixLn (n := s'.toNat) (SqL.of hat) rfl iv_at ?_
  walk_at "rd"
  rw [nots]
  refine v_ixLn (n := (!s').toNat) (SqL.of hat) rfl iv_at ?_
  walk_at "rd"
  refine v_ixLn (n := p (!s')) (hla _) rfl (by unfold nv; rw [List.getElem?_map, hy]; rfl) ?_
  walk_at "rd"
  refine ⟨I, log, _, L s', p s', y, rfl, ⟨hA, hla _, nla _, hyn, fun o ho => ⟨hLn _ o ho, hLy o ho⟩, by omega, by omega, by omega⟩, kx, fun H1 g es hT hLP S1 hA1 => ?_⟩
  have hbd := hLP.bd (Nat.le_refl _) (Nat.le_refl _) (by omega) (by omega)
  have hat1 := S1.keep hat nA'
  have htd1 := S1.keep htd nT'
  have hla1 : ∀ b, SqL K H1 (la b) (nv (L b)) := fun b => S1.sql (hla b) (nla b)
  have hsd1 := S1.sqtM hsd
  walk_at "rd"
  refine v_ixLn (n := s'.toNat) (SqL.of hat1) rfl iv_at ?_
  walk_at "rd"
  refine v_ixLn (n := s'.toNat) (SqL.of hat1) rfl iv_at ?_
  walk_at "rd"
  refine v_slL (hla1 _) fun q hq => ?_
  have eg : ((p s' : Nat) : Int) + (g : Nat) = ((p s' + g : Nat) : Int) := by omega
  rw [cut_map, eg, cutL_span, Nat.add_sub_cancel_left]
  walk_at "rd"
  have hgl : (((L s').drop (p s')).take g).length ≤ 1000 := by rw [List.length_take, List.length_drop]; omega
  refine v_ext (upd_old htd1 hq) upd_same (by rw [List.length_map, List.length_map]; omega) ?_
  rw [← List.map_append]
  have S2 : Stp [at_, td] H1 (upd (upd H1 q (.lst (nv (((L s').drop (p s')).take g)))) td (.lst (nv (told ++ ((L s').drop (p s')).take g)))) := ((Stp.refl _ _).new hq).putL (by simp) (upd_old htd1 hq)
  have htd2 : upd (upd H1 q (.lst (nv (((L s').drop (p s')).take g)))) td (.lst (nv (told ++ ((L s').drop (p s')).take g))) td = some (.lst (nv (told ++ ((L s').drop (p s')).take g))) := upd_same
  have hat2 : upd (upd H1 q (.lst (nv (((L s').drop (p s')).take g)))) td (.lst (nv (told ++ ((L s').drop (p s')).take g))) at_ = some (.lst (iv p)) := upd_far nAT (upd_old hat1 hq)
  generalize upd (upd H1 q (.lst (nv (((L s').drop (p s')).take g)))) td (.lst (nv (told ++ ((L s').drop (p s')).take g))) = H2 at S2 htd2 hat2 ⊢
  have hA2 : I.At K A H2 (log ++ es) := hA1.stp S2 (by intro m hm; simp only [List.mem_cons, List.not_mem_nil, or_false] at hm; rcases hm with rfl | rfl; exact nA; exact nT)
  have hla2 : ∀ b, SqL K H2 (la b) (nv (L b)) := fun b => S2.sql (hla1 b) (by have := nlb b; simp [this])
  have hsd2 := S2.sqtM hsd1
  walk_at "rd"
  refine v_getL (n := s'.toNat) hat2 rfl (by cases s' <;> decide) iv_at ?_
  walk_at "rd"
  refine v_setL (n := s'.toNat) hat2 rfl (by show _ < 2; cases s' <;> decide) ?_
  rw [eg, iv_set]
  have S3 : Stp [at_, td] H2 (upd H2 at_ (.lst (iv (put2 p s' (p s' + g))))) := (Stp.refl _ _).putL (by simp) hat2
  have hat3 : upd H2 at_ (.lst (iv (put2 p s' (p s' + g)))) at_ = some (.lst (iv (put2 p s' (p s' + g)))) := upd_same
  have htd3 : upd H2 at_ (.lst (iv (put2 p s' (p s' + g)))) td = some (.lst (nv (told ++ ((L s').drop (p s')).take g))) := upd_far nAT.symm htd2
  generalize upd H2 at_ (.lst (iv (put2 p s' (p s' + g)))) = H3 at S3 hat3 htd3 ⊢
  have hla3 : ∀ b, SqL K H3 (la b) (nv (L b)) := fun b => S3.sql (hla2 b) (by have := nlb b; simp [this])
  have hls3 := hla3 s'
  have hA3 : I.At K A H3 (log ++ es) := hA2.stp S3 (by intro m hm; simp only [List.mem_cons, List.not_mem_nil, or_false] at hm; rcases hm with rfl | rfl; exact nA; exact nT)
  have S13 := S2.trans S3
  have S03 : Stp (at_ :: td :: I.M) H H3 := (S1.mono (fun b hb => by simp [hb])).trans (S13.mono (fun b hb => by simp only [List.mem_cons, List.not_mem_nil, or_false] at hb; rcases hb with rfl | rfl <;> simp))
  obtain ⟨k1, k2⟩ := k
  walk_at "rd"
  refine v_ixLn (n := s'.toNat) (SqL.of hat3) rfl iv_at ?_
  rw [put2_same]
  walk_at "rd"
  refine r_w (fun hlt => ?_) fun hlt => ?_
  · walk_at "rd"
    rw [nots]
    refine v_ixLn (n := (!s').toNat) (SqL.of hat3) rfl iv_at ?_
    rw [put2_not]
    walk_at "rd"
    refine v_ixLn (n := p (!s')) (hla3 _) rfl (by unfold nv; rw [List.getElem?_map, hy]; rfl) ?_
    walk_at "rd"
    have hlen2 : (told ++ ((L s').drop (p s')).take g).length ≤ 20000 := by rw [List.length_append]; omega
    refine v_app htd3 (by rw [List.length_map]; omega) ?_
    rw [← nv_app]
    walk_at "rd"
    rw [nots]
    have hat4 := upd_far (u := .lst (nv (told ++ ((L s').drop (p s')).take g ++ [y]))) nAT hat3
    refine v_getL (n := (!s').toNat) hat4 rfl (by cases s' <;> decide) iv_at ?_
    rw [put2_not]
    walk_at "rd"
    refine v_setL (n := (!s').toNat) hat4 rfl (by show _ < 2; cases s' <;> decide) ?_
    have e1 : ((p (!s') : Nat) : Int) + 1 = ((p (!s') + 1 : Nat) : Int) := by omega
    rw [e1, iv_set]
    have S4 : Stp [at_, td] H3 (upd (upd H3 td (.lst (nv (told ++ ((L s').drop (p s')).take g ++ [y])))) at_ (.lst (iv (put2 (put2 p s' (p s' + g)) (!s') (p (!s') + 1))))) := ((Stp.refl _ _).putL (by simp) htd3).putL (by simp) hat4
    refine k1 _ g es hT hLP (S03.trans (S4.mono (fun b hb => by simp only [List.mem_cons, List.not_mem_nil, or_false] at hb; rcases hb with rfl | rfl <;> simp))) (hA3.stp S4 (by intro m hm; simp only [List.mem_cons, List.not_mem_nil, or_false] at hm; rcases hm with rfl | rfl; exact nA; exact nT)) (by omega) upd_same ?_
    rw [← List.append_assoc]
    exact upd_far nAT.symm upd_same
  · walk_at "rd"
    exact k2 _ g es hT hLP S03 hA3 (by omega) hat3 htd3

theorem bits_self {n : Nat} : Builtin.Int.intBits (n : Int) ≤ n := bits_nat_le (Nat.lt_two_pow_self)
theorem HB.len {ord : List Nat} {place lo high r : Nat} {es : List Ent} (h : HB ord place lo high es r) : es.length ≤ Builtin.Int.intBits ((high - lo : Nat) : Int) := by
  induction h with
  | done lo => simp
  | @up lo high o es r h ho k ih =>
    rw [bits_half (by omega : 0 < high - lo), List.length_cons]
    have := bits_mono (show high - ((lo + high - 1) / 2 + 1) ≤ (high - lo) / 2 by omega)
    omega
  | @down lo high o es r h ho k ih =>
    rw [bits_half (by omega : 0 < high - lo), List.length_cons]
    have := bits_mono (show (lo + high - 1) / 2 - lo ≤ (high - lo) / 2 by omega)
    omega
/-- how many asks a leap takes, whatever is told -/
theorem LP.few {ord : List Nat} {place first : Nat} : ∀ {lo step r : Nat} {es : List Ent}, LP ord place first lo step es r → ∀ (j h : Nat), step = 2 ^ j → lo = first + h → ((j = 0 ∧ h = 0) ∨ (1 ≤ j ∧ 2 * h = 2 ^ j)) → lo ≤ ord.length →
    h ≤ r ∧ j + es.length ≤ max 1 (2 * Builtin.Int.intBits ((r : Nat) : Int)) := by
  intro lo step r es hL
  induction hL with
  | @more lo step o es r hh ho k ih =>
    intro j h hs hl hj h2
    have := ih (j + 1) step (by rw [hs, Nat.pow_succ]) rfl (.inr ⟨by omega, by rw [hs, Nat.pow_succ]; omega⟩) hh
    rw [List.length_cons]
    omega
  | @stop lo step o es r hh ho k =>
    intro j h hs hl hj h2
    rw [List.length_cons]
    have hbd := k.bd
    rcases hj with ⟨rfl, rfl⟩ | ⟨hj, hh2⟩
    · simp at hs
      omega
    · have hlen := k.len
      obtain ⟨i, rfl⟩ : ∃ i, j = i + 1 := ⟨j - 1, by omega⟩
      rw [Nat.pow_succ] at hs hh2
      have hp : 0 < 2 ^ i := Nat.pos_of_ne_zero (by simp)
      have b1 := bits_nat_le (n := first + step - 1 - lo) (k := i) (by omega)
      have b2 := bits_nat_ge (n := r - first) (k := i) (by omega)
      omega
  | @over lo step es r hh k =>
    intro j h hs hl hj h2
    have hbd := k.bd
    rcases hj with ⟨rfl, rfl⟩ | ⟨hj, hh2⟩
    · simp at hs
      omega
    · have hlen := k.len
      obtain ⟨i, rfl⟩ : ∃ i, j = i + 1 := ⟨j - 1, by omega⟩
      rw [Nat.pow_succ] at hs hh2
      have hp : 0 < 2 ^ i := Nat.pos_of_ne_zero (by simp)
      have b1 := bits_nat_le (n := ord.length - lo) (k := i) (by omega)
      have b2 := bits_nat_ge (n := r - first) (k := i) (by omega)
      omega
theorem LP.few0 {ord : List Nat} {place first r : Nat} {es : List Ent} (h : LP ord place first first 1 es r) (hf : first ≤ ord.length) : es.length ≤ max 1 (2 * Builtin.Int.intBits ((r : Nat) : Int)) := by
  have := (h.few 0 0 rfl rfl (.inl ⟨rfl, rfl⟩) hf).2
  omega
/-- who goes first of two fronts -/
theorem front_case {L : Bool → List Nat} {p : Bool → Nat} {l r : Nat} {said : Bool} (hl : (L false)[p false]? = some l) (hr : (L true)[p true]? = some r) (hne : l ≠ r) : ∃ (s : Bool) (x y : Nat), (!decide (said = decide (r < l))) = s ∧ (L s)[p s]? = some x ∧ (L !s)[p !s]? = some y ∧ (⟨max l r, min l r, said⟩ : Ent) = ahE x y := by
  by_cases h : said = decide (r < l)
  · exact ⟨false, l, r, by rw [decide_eq_true h]; rfl, hl, hr, by rw [h]; rfl⟩
  · refine ⟨true, r, l, by rw [decide_eq_false h]; rfl, hr, hl, ?_⟩
    unfold ahE
    rw [Nat.max_comm, Nat.min_comm]
    congr 1
    cases said
    · have : r < l := by simpa using h
      exact (decide_eq_false (by omega)).symm
    · have : ¬ r < l := by simpa using h
      exact (decide_eq_true (by omega)).symm
def LR (l r : List Nat) : Bool → List Nat := fun b => if b then r else l
theorem JN.total (or : List Ent → Nat → Nat → Bool) {L : Bool → List Nat} (hd : ∀ x ∈ L false, ∀ y ∈ L true, x ≠ y) : ∀ (m : Nat) (p : Bool → Nat) (last : Bool) (wins : Nat) (log : List Ent), ((L false).length - p false) + ((L true).length - p true) = m → ∃ es res, JN L p last wins es res ∧ Told or log es := by
  intro m
  induction m using Nat.strongRecOn with
  | ind m ih =>
    intro p last wins log hm
    by_cases h0 : (L false).length ≤ p false
    · exact ⟨[], _, .done (.inl h0), True.intro⟩
    by_cases h1 : (L true).length ≤ p true
    · exact ⟨[], _, .done (.inr h1), True.intro⟩
    have hl := List.getElem?_eq_getElem (by omega : p false < (L false).length)
    have hr := List.getElem?_eq_getElem (by omega : p true < (L true).length)
    generalize (L false)[p false] = l at hl
    generalize (L true)[p true] = r at hr
    have hne := hd _ (List.mem_of_getElem? hl) _ (List.mem_of_getElem? hr)
    obtain ⟨s, x, y, _, hx, hy, he⟩ := front_case (said := or log (max l r) (min l r)) hl hr hne
    have ha : (ahE x y).c = or log (ahE x y).a (ahE x y).b := by rw [← he]
    have hxl := (List.getElem?_eq_some_iff.mp hx).1
    have hyl := (List.getElem?_eq_some_iff.mp hy).1
    by_cases hw : (if s = last then wins + 1 else 1) = 4 ∧ p s + 1 < (L s).length
    · obtain ⟨es1, g, hL, hT1⟩ := LP.total or (ord := L s) (place := y) (first := p s + 1) _ (p s + 1) 1 (log ++ [ahE x y]) rfl (Nat.le_refl _) (by omega) (by omega)
      have hb := hL.bd (Nat.le_refl _) (Nat.le_refl _) (by omega) (by omega)
      by_cases hg : p s + 1 + g < (L s).length
      · obtain ⟨es, res, k, hT⟩ := ih _ (by
          rw [← hm]
          cases s
          · simp only [Bool.not_false] at hyl; simp [put2]; omega
          · simp only [Bool.not_true] at hyl; simp [put2]; omega) (put2 (put2 p s (p s + 1 + g)) (!s) (p (!s) + 1)) s 0 (log ++ [ahE x y] ++ es1) rfl
        exact ⟨_, _, .leap s hx hy hw.1 hw.2 hL hg k, ha, Told.app hT1 hT⟩
      · obtain ⟨es, res, k, hT⟩ := ih _ (by
          rw [← hm]
          cases s
          · simp only [Bool.not_false] at hyl; simp [put2]; omega
          · simp only [Bool.not_true] at hyl; simp [put2]; omega) (put2 p s (p s + 1 + g)) s 0 (log ++ [ahE x y] ++ es1) rfl
        exact ⟨_, _, .leapA s hx hy hw.1 hw.2 hL hg k, ha, Told.app hT1 hT⟩
    · obtain ⟨es, res, k, hT⟩ := ih _ (by
        rw [← hm]
        cases s
        · simp only [Bool.not_false] at hyl; simp [put2]; omega
        · simp only [Bool.not_true] at hyl; simp [put2]; omega) (put2 p s (p s + 1)) s (if s = last then wins + 1 else 1) (log ++ [ahE x y]) rfl
      exact ⟨_, _, .win s hx hy hw k, ha, hT⟩
theorem JN.first {L : Bool → List Nat} {p : Bool → Nat} {last : Bool} {wins l r : Nat} {es : List Ent} {res : List Nat} (h : JN L p last wins es res) (hl : (L false)[p false]? = some l) (hr : (L true)[p true]? = some r) : ∃ c es3, es = (⟨max l r, min l r, c⟩ : Ent) :: es3 := by
  have key : ∀ (s : Bool) (x y : Nat), (L s)[p s]? = some x → (L !s)[p !s]? = some y → ∃ c, ahE x y = (⟨max l r, min l r, c⟩ : Ent) := fun s x y hx hy => by
    cases s
    · rw [hl] at hx; cases hx
      have hy' : (L true)[p true]? = some y := hy
      rw [hr] at hy'; cases hy'
      exact ⟨_, rfl⟩
    · rw [hr] at hx; cases hx
      have hy' : (L false)[p false]? = some y := hy
      rw [hl] at hy'; cases hy'
      exact ⟨_, by unfold ahE; rw [Nat.max_comm, Nat.min_comm]⟩
  have h1 := (List.getElem?_eq_some_iff.mp hl).1
  have h2 := (List.getElem?_eq_some_iff.mp hr).1
  cases h with
  | done h => omega
  | win s hx hy h k => obtain ⟨c, e⟩ := key s _ _ hx hy; exact ⟨c, _, by rw [e]⟩
  | leap s hx hy h h2 hL h3 k => obtain ⟨c, e⟩ := key s _ _ hx hy; exact ⟨c, _, by rw [e]⟩
  | leapA s hx hy h h2 hL h3 k => obtain ⟨c, e⟩ := key s _ _ hx hy; exact ⟨c, _, by rw [e]⟩
def sp_joined (K : PySem.W.Frag) (A : Ad) : Sp := fun vs H Q E => ∃ (I : Ask) (log : List Ent) (la ra : Addr) (left right : List Nat), vs = [.ref I.s, .ref la, .ref ra] ∧
  (I.At K A H log ∧ H la = some (.lst (nv left)) ∧ H ra = some (.lst (nv right)) ∧ la ∉ I.M ∧ ra ∉ I.M ∧ (∀ o ∈ left, o < I.n) ∧ (∀ o ∈ right, o < I.n) ∧ (∀ x ∈ left, ∀ y ∈ right, x ≠ y) ∧ left.length ≤ 1000 ∧ right.length ≤ 1000 ∧ log.length + I.pre.length < 80000) ∧
  Stop I K A H log (fun es => ∃ res, JN (LR left right) (fun _ => 0) false 0 es res) E ∧
  ∀ H' q es res, H q = none → es.length ≤ 3 * (left.length + right.length) → Told I.or log es → JN (LR left right) (fun _ => 0) false 0 es res → Stp I.M H H' → I.At K A H' (log ++ es) → H' q = some (.lst (nv res)) → Q (.ref q) H'
theorem ok_joined {P : Program} {w : World} {K : PySem.W.Frag} {mg : Str → Option Value} {base : Heap} {A : Ad} {f : Addr} {fd : FuncData} (F : Fun K "joined" "joined" s_joined f fd) (T : Txt K mg A) (M_Asker_ahead : SH.CalM P w K mg base (L2N.CX P w) 3 A.Asker "ahead" [] (sp_Asker_ahead K A)) (C_leap_taken : SH.Cal P w K mg base (L2N.CX P w) 6 "leap_taken" [] (sp_leap_taken K A)) : FnOk P w K mg base (L2N.CX P w) 7 f fd ["asker", "left", "right"] (sp_joined K A) := by
  refine SH.okN F sc_joined (fun vs H Q E h => by obtain ⟨_, _, _, _, _, _, rfl, _⟩ := h; rfl) (fun cdv A' outer s H vs Q E hr h => ?_)
  obtain ⟨I, log, la, ra, left, right, rfl, ⟨hA, hla, hra, nla, nra, hln, hrn, hdis, hll, hrl, hlog⟩, kx, k⟩ := h
  refine ⟨_, (pss_cons (ps_set (i := 3) sc_joined.nd rfl (Or.inl rfl) (pe_tup (pa_cons (pv 1) (pa_cons (pv 2) pa_nil))))
        (pss_cons (ps_set (i := 4) sc_joined.nd rfl (Or.inl rfl) (pe_lst (pa_cons pe_int (pa_cons pe_int pa_nil))))
        (pss_cons (ps_set (i := 5) sc_joined.nd rfl (Or.inl rfl) (pe_lst pa_nil))
        (pss_cons (ps_set (i := 6) sc_joined.nd rfl (Or.inl rfl) pe_int)
        (pss_cons (ps_set (i := 7) sc_joined.nd rfl (Or.inl rfl) pe_int)
        (pss_cons (ps_while (L2.passes_of rfl) (PW.pt (pw_and (pt_cmpR (SH.oLt hr.units0) (pe_ix SH.ixA (pv 4) pe_int (fun _ _ => rfl)) (pe_callB SH.cLen (by rfl) T.z_len (by decide +kernel) (pa_cons (pv 1) pa_nil)) (nomark _)) (pw_and1 (pt_cmpR (SH.oLt hr.units0) (pe_ix SH.ixA (pv 4) pe_int (fun _ _ => rfl)) (pe_callB SH.cLen (by rfl) T.z_len (by decide +kernel) (pa_cons (pv 2) pa_nil)) (nomark _))))) (pss_cons (ps_set (i := 8) sc_joined.nd rfl (Or.inl rfl) (pe_callTy SH.cInt1 (by rfl) T.z_int (by decide +kernel) (pa_cons (pe_not (SH.pe_methF (pv 0) M_Asker_ahead hr (L2N.passes_call (L2N.takes_of rfl rfl rfl rfl) fun _ _ _ _ h => h) (pa_cons (pe_ix SH.ixA (pv 1) (pe_ix SH.ixA (pv 4) pe_int (fun _ _ => rfl)) (fun _ _ => rfl)) (pa_cons (pe_ix SH.ixA (pv 2) (pe_ix SH.ixA (pv 4) pe_int (fun _ _ => rfl)) (fun _ _ => rfl)) pa_nil)))) pa_nil)))
        (pss_cons (ps_expr (pe_bm PySem.F.plainAttrs_list PySem.F.slot_list_append PySem.F.type_list_append mt_append (pv 5) (pa_cons (pe_ix SH.ixA (pe_ix SH.ixA (pv 3) (pv 8) (fun _ _ => rfl)) (pe_ix SH.ixA (pv 4) (pv 8) (fun _ _ => rfl)) (fun _ _ => rfl)) pa_nil)))
        (pss_cons (ps_augS (pv 4) (pv 8) SH.getL pe_int SH.ip_add' set_list)
        (pss_cons (ps_if (pt_cmpR (SH.oNe hr.units) (pv 8) (pv 6) (nomark _)) (pss_one (ps_set (i := 7) sc_joined.nd rfl (Or.inl rfl) pe_int)) pss_nil)
        (pss_cons (ps_set (i := 6) sc_joined.nd rfl (Or.inl rfl) (pv 8))
        (pss_cons (ps_aug (i := 7) sc_joined.nd rfl (Or.inl rfl) pe_int SH.ip_add')
        (pss_one (ps_if (PW.pt (pw_and (pt_cmpR (SH.oEq hr.units) (pv 7) (SH.pe_k T.k_WINS) (nomark _)) (pw_and1 (pt_cmpR (SH.oLt hr.units0) (pe_ix SH.ixA (pv 4) (pv 8) (fun _ _ => rfl)) (pe_callB SH.cLen (by rfl) T.z_len (by decide +kernel) (pa_cons (pe_ix SH.ixA (pv 3) (pv 8) (fun _ _ => rfl)) pa_nil)) (nomark _))))) (pss_cons (ps_expr (SH.pe_callF C_leap_taken hr (by rfl) (L2N.passes_call (L2N.takes_of rfl rfl rfl rfl) fun _ _ _ _ h => h) (pa_cons (pv 0) (pa_cons (pv 3) (pa_cons (pv 4) (pa_cons (pv 8) (pa_cons (pv 5) pa_nil)))))))
        (pss_one (ps_set (i := 7) sc_joined.nd rfl (Or.inl rfl) pe_int))) pss_nil)))))))))
        (pss_one (ps_ret (pe_op SH.oAdd (pe_op SH.oAdd (pv 5) (pe_slice sl_list (pv 1) (po_some (pe_ix SH.ixA (pv 4) pe_int (fun _ _ => rfl))) po_none)) (pe_slice sl_list (pv 2) (po_some (pe_ix SH.ixA (pv 4) pe_int (fun _ _ => rfl))) po_none)))))))))), ?_⟩
  walk_at "begin"
  walk_at "rd"
  intro sd hsd
  walk_at "rd"
  intro at_ hat
  walk_at "rd"
  intro td htd
  have S1 : Stp [] H (upd (upd (upd H sd (.tup [.ref la, .ref ra])) at_ (.lst [.int 0, .int 0])) td (.lst [])) := (((Stp.refl [] H).new hsd).new hat).new htd
  have hsd1 : SqT K (upd (upd (upd H sd (.tup [.ref la, .ref ra])) at_ (.lst [.int 0, .int 0])) td (.lst [])) sd [.ref la, .ref ra] := SqT.of (upd_old (upd_old upd_same hat) htd)
  have hat1 : upd (upd (upd H sd (.tup [.ref la, .ref ra])) at_ (.lst [.int 0, .int 0])) td (.lst []) at_ = some (.lst (iv fun _ => 0)) := upd_old upd_same htd
  have htd1 : upd (upd (upd H sd (.tup [.ref la, .ref ra])) at_ (.lst [.int 0, .int 0])) td (.lst []) td = some (.lst (nv [])) := upd_same
  have nAT : at_ ≠ td := ne_of_none upd_same htd
  have hatH : H at_ = none := (upd_free hat).1
  have htdH : H td = none := (upd_free (upd_free htd).1).1
  generalize upd (upd (upd H sd (.tup [.ref la, .ref ra])) at_ (.lst [.int 0, .int 0])) td (.lst []) = H1 at S1 hsd1 hat1 htd1 ⊢
  have nA := hA.freshO hatH
  have nT := hA.freshO htdH
  have nlA : la ≠ at_ := ne_of_none hla hatH
  have nlT : la ≠ td := ne_of_none hla htdH
  have nrA : ra ≠ at_ := ne_of_none hra hatH
  have nrT : ra ≠ td := ne_of_none hra htdH
  have hla1 := S1.keep0 hla
  have hra1 := S1.keep0 hra
  have hA1 := hA.stp S1 (by simp)
  obtain ⟨L, hL⟩ : ∃ L, L = LR left right := ⟨_, rfl⟩
  have hLf : L false = left := by rw [hL]; rfl
  have hLt : L true = right := by rw [hL]; rfl
  rw [← hL] at k kx
  have hdL : ∀ x ∈ L false, ∀ y ∈ L true, x ≠ y := by rw [hLf, hLt]; exact hdis
  walk_at "rd"
  refine r_while (fun m σ H' => ∃ (p : Bool → Nat) (last : Bool) (wins : Nat) (es : List Ent) (told : List Nat) (v8 : Option V), m = left.length + right.length - (p false + p true) ∧ p false ≤ left.length ∧ p true ≤ right.length ∧ es.length ≤ 3 * (p false + p true) ∧ told.length = p false + p true ∧
    (∀ rest res, JN L p last wins rest res → JN L (fun _ => 0) false 0 (es ++ rest) (told ++ res)) ∧ Told I.or log es ∧ Stp (at_ :: td :: I.M) H1 H' ∧ I.At K A H' (log ++ es) ∧ H' at_ = some (.lst (iv p)) ∧ H' td = some (.lst (nv told)) ∧
    σ = [some (.ref I.s), some (.ref la), some (.ref ra), some (.ref sd), some (.ref at_), some (.ref td), some (.int (last.toNat : Nat)), some (.int (wins : Nat)), v8])
    ⟨_, fun _ => 0, false, 0, [], [], _, rfl, Nat.zero_le _, Nat.zero_le _, by simp, rfl, fun rest res h => h, True.intro, .refl _ _, by rw [List.append_nil]; exact hA1, hat1, htd1, rfl⟩ ?_
  rintro m σ H2 ⟨p, last, wins, es, told, v8, rfl, hp0, hp1, hes, htold, hJ, hT, S2, hA2, hat2, htd2, rfl⟩
  have hla2 := S2.keep hla1 (by simp only [List.mem_cons, not_or]; exact ⟨nlA, nlT, nla⟩)
  have hra2 := S2.keep hra1 (by simp only [List.mem_cons, not_or]; exact ⟨nrA, nrT, nra⟩)
  have S02 : Stp I.M H H2 := by
    refine (S1.mono (fun b hb => by simp at hb)).then S2 fun b hb => ?_
    rcases List.mem_cons.mp hb with rfl | hb
    · exact .inr hatH
    rcases List.mem_cons.mp hb with rfl | hb
    · exact .inr htdH
    exact .inl hb
  walk_at "rd"
  refine v_ixLn (n := 0) (SqL.of hat2) rfl rfl ?_
  walk_at "rd"
  refine r_w (fun h0 => ?_) fun h0 => ?_
  rotate_left
  · walk_at "rd"
    refine v_ixLn (n := 0) (SqL.of hat2) rfl rfl ?_
    walk_at "rd"
    intro q1 hq1
    rw [cut_map, cutL_from]
    refine v_addL (upd_old htd2 hq1) upd_same (Nat.le_trans (m := 10000) (by simp only [List.length_map, List.length_drop]; omega) (by decide)) fun q2 hq2 => ?_
    walk_at "rd"
    refine v_ixLn (n := 1) (SqL.of (upd_old (upd_old hat2 hq1) hq2)) rfl rfl ?_
    walk_at "rd"
    intro q3 hq3
    rw [cut_map, cutL_from]
    refine v_addL (upd_old upd_same hq3) upd_same (Nat.le_trans (m := 10000) (by simp only [List.length_append, List.length_map, List.length_drop]; omega) (by decide)) fun q4 hq4 => ?_
    walk_at "rd"
    have := hJ [] _ (.done (.inl (by rw [hLf]; omega)))
    rw [List.append_nil] at this
    have S3 := (((Stp.refl [] H2).new (o := .lst (nv (left.drop (p false)))) hq1).new (o := .lst (nv told ++ nv (left.drop (p false)))) hq2).new (o := .lst (nv (right.drop (p true)))) hq3
    refine k _ q4 es _ ?_ (by omega) hT this (S02.then0 (S3.new hq4)) (hA2.stp (S3.new hq4) (by simp)) ?_
    · exact S1.dom _ (S2.dom _ (S3.dom _ hq4))
    · rw [upd_same, hLf, hLt]; simp only [nv, List.map_append, List.append_assoc]
  · walk_at "rd"
    refine v_ixLn (n := 1) (SqL.of hat2) rfl rfl ?_
    walk_at "rd"
    refine r_w (fun h1 => ?_) fun h1 => ?_
    rotate_left
    · walk_at "rd"
      refine v_ixLn (n := 0) (SqL.of hat2) rfl rfl ?_
      walk_at "rd"
      intro q1 hq1
      rw [cut_map, cutL_from]
      refine v_addL (upd_old htd2 hq1) upd_same (Nat.le_trans (m := 10000) (by simp only [List.length_map, List.length_drop]; omega) (by decide)) fun q2 hq2 => ?_
      walk_at "rd"
      refine v_ixLn (n := 1) (SqL.of (upd_old (upd_old hat2 hq1) hq2)) rfl rfl ?_
      walk_at "rd"
      intro q3 hq3
      rw [cut_map, cutL_from]
      refine v_addL (upd_old upd_same hq3) upd_same (Nat.le_trans (m := 10000) (by simp only [List.length_append, List.length_map, List.length_drop]; omega) (by decide)) fun q4 hq4 => ?_
      walk_at "rd"
      have := hJ [] _ (.done (.inr (by rw [hLt]; omega)))
      rw [List.append_nil] at this
      have S3 := (((Stp.refl [] H2).new (o := .lst (nv (left.drop (p false)))) hq1).new (o := .lst (nv told ++ nv (left.drop (p false)))) hq2).new (o := .lst (nv (right.drop (p true)))) hq3
      refine k _ q4 es _ ?_ (by omega) hT this (S02.then0 (S3.new hq4)) (hA2.stp (S3.new hq4) (by simp)) ?_
      · exact S1.dom _ (S2.dom _ (S3.dom _ hq4))
      · rw [upd_same, hLf, hLt]; simp only [nv, List.map_append, List.append_assoc]
    · refine r_next_turn ?_
      have hs2 := hA2.hs
      have hsd2 := S2.sqtM hsd1
      walk_at "rd"
      refine v_ixLn (n := 0) (SqL.of hat2) rfl rfl ?_
      walk_at "rd"
      obtain ⟨l, hl⟩ : ∃ l, left[p false]? = some l := ⟨_, List.getElem?_eq_getElem (by omega)⟩
      obtain ⟨r, hr⟩ : ∃ r, right[p true]? = some r := ⟨_, List.getElem?_eq_getElem (by omega)⟩
      refine v_ixLn (n := p false) (v := .int l) (SqL.of hla2) rfl (by unfold nv; rw [List.getElem?_map, hl]; rfl) ?_
      walk_at "rd"
      refine v_ixLn (n := 1) (SqL.of hat2) rfl rfl ?_
      walk_at "rd"
      refine v_ixLn (n := p true) (v := .int r) (SqL.of hra2) rfl (by unfold nv; rw [List.getElem?_map, hr]; rfl) ?_
      walk_at "rd"
      have hne : l ≠ r := hdis _ (List.mem_of_getElem? hl) _ (List.mem_of_getElem? hr)
      refine ⟨I, _, l, r, rfl, ⟨hA2, hln _ (List.mem_of_getElem? hl), hrn _ (List.mem_of_getElem? hr), hne, by rw [List.length_append]; omega⟩, kx.ask S02 hT (by
        obtain ⟨rest, res, hb, hT'⟩ := JN.total I.or hdL _ p last wins (log ++ es) rfl
        obtain ⟨c, es3, rfl⟩ := hb.first (by rw [hLf]; exact hl) (by rw [hLt]; exact hr)
        exact ⟨c, es3, hT', _, hJ _ _ hb⟩), fun H3 said hsaid S3 hA3 => ?_⟩
      obtain ⟨s', x, y, hs', hx, hy, he⟩ := front_case (L := L) (p := p) (said := said) (by rw [hLf]; exact hl) (by rw [hLt]; exact hr) hne
      have hT3 := Told.app hT (Told.one (e := ⟨max l r, min l r, said⟩) hsaid)
      rw [List.append_assoc] at hA3
      rw [he] at hT3 hA3
      have nA' : at_ ∉ I.M := hA.fresh hatH
      have nT' : td ∉ I.M := hA.fresh htdH
      have hat3 := S3.keep hat2 nA'
      have htd3 := S3.keep htd2 nT'
      have hsd3 := S3.sqtM hsd2
      obtain ⟨lad, hlad⟩ : ∃ lad : Bool → Addr, lad = fun b => if b then ra else la := ⟨_, rfl⟩
      have hsd3' : SqT K H3 sd [.ref (lad false), .ref (lad true)] := by rw [hlad]; exact hsd3
      have hlad3 : ∀ b, H3 (lad b) = some (.lst (nv (L b))) := fun b => by
        cases b
        · rw [hlad, hLf]; exact S3.keep hla2 nla
        · rw [hlad, hLt]; exact S3.keep hra2 nra
      have nladM : ∀ b, lad b ∉ I.M := fun b => by cases b <;> rw [hlad] <;> assumption
      have nladA : ∀ b, lad b ≠ at_ ∧ lad b ≠ td := fun b => by
        cases b
        · rw [hlad]; exact ⟨nlA, nlT⟩
        · rw [hlad]; exact ⟨nrA, nrT⟩
      have hps : p s' < (L s').length := (List.getElem?_eq_some_iff.mp hx).1
      have hpn : p (!s') < (L !s').length := (List.getElem?_eq_some_iff.mp hy).1
      walk_at "rd"
      rw [hs']
      refine v_ixTn (n := s'.toNat) hsd3' rfl (two_at (fun b => V.ref (lad b)) s') ?_
      walk_at "rd"
      refine v_ixLn (n := s'.toNat) (SqL.of hat3) rfl iv_at ?_
      walk_at "rd"
      refine v_ixLn (n := p s') (v := .int x) (SqL.of (hlad3 s')) rfl (by unfold nv; rw [List.getElem?_map, hx]; rfl) ?_
      walk_at "rd"
      refine v_app htd3 (by rw [List.length_map]; omega) ?_
      rw [← nv_app]
      have hat3b := upd_far (u := .lst (nv (told ++ [x]))) nAT hat3
      walk_at "rd"
      refine v_getL (n := s'.toNat) hat3b rfl (by cases s' <;> decide) iv_at ?_
      walk_at "rd"
      refine v_setL (n := s'.toNat) hat3b rfl (by show _ < 2; cases s' <;> decide) ?_
      have e1 : ((p s' : Nat) : Int) + 1 = ((p s' + 1 : Nat) : Int) := by omega
      rw [e1, iv_set]
      have S4 : Stp [at_, td] H3 (upd (upd H3 td (.lst (nv (told ++ [x])))) at_ (.lst (iv (put2 p s' (p s' + 1))))) := ((Stp.refl _ _).putL (by simp) htd3).putL (by simp) hat3b
      have hat4 : upd (upd H3 td (.lst (nv (told ++ [x])))) at_ (.lst (iv (put2 p s' (p s' + 1)))) at_ = some (.lst (iv (put2 p s' (p s' + 1)))) := upd_same
      have htd4 : upd (upd H3 td (.lst (nv (told ++ [x])))) at_ (.lst (iv (put2 p s' (p s' + 1)))) td = some (.lst (nv (told ++ [x]))) := upd_far nAT.symm upd_same
      generalize upd (upd H3 td (.lst (nv (told ++ [x])))) at_ (.lst (iv (put2 p s' (p s' + 1)))) = H4 at S4 hat4 htd4 ⊢
      have hA4 : I.At K A H4 (log ++ (es ++ [ahE x y])) := hA3.stp S4 (by intro m hm; simp only [List.mem_cons, List.not_mem_nil, or_false] at hm; rcases hm with rfl | rfl; exact nA; exact nT)
      have hlad4 : ∀ b, H4 (lad b) = some (.lst (nv (L b))) := fun b => S4.keep (hlad3 b) (by have := nladA b; simp [this])
      have hsd4 := S4.sqtM hsd3'
      have S14 : Stp (at_ :: td :: I.M) H1 H4 := (S2.trans (S3.mono (fun b hb => by simp [hb]))).trans (S4.mono (fun b hb => by simp only [List.mem_cons, List.not_mem_nil, or_false] at hb; rcases hb with rfl | rfl <;> simp))
      clear S4 S3 hA3 hlad3 hsd3 hsd3' htd3 hat3 hat3b hsd2 hs2 hA2 hra2 hla2 htd2 hat2 S02 S2
      walk_at "rd"
      refine r_nwJ (W := fun σ H' => H' = H4 ∧ σ = [some (.ref I.s), some (.ref la), some (.ref ra), some (.ref sd), some (.ref at_), some (.ref td), some (.int (last.toNat : Nat)), some (.int ((if s' = last then wins else 0 : Nat) : Nat)), some (.int (s'.toNat : Nat))]) ?_ (fun hc N hN => ?_) (fun hc N hN => ?_)
      · rintro σ H5 ⟨rfl, rfl⟩
        dsimp only
        obtain ⟨w, hw⟩ : ∃ w, w = (if s' = last then wins + 1 else 1) := ⟨_, rfl⟩
        have ew : (((if s' = last then wins else 0 : Nat) : Nat) : Int) + 1 = (w : Nat) := by rw [hw]; split <;> omega
        walk_at "rd"
        rw [ew]
        have hLb : ∀ b, (L b).length ≤ 1000 := fun b => by cases b; rw [hLf]; exact hll; rw [hLt]; exact hrl
        have hb : ∀ n, p s' + n ≤ (L s').length → put2 p s' (p s' + n) false ≤ left.length ∧ put2 p s' (p s' + n) true ≤ right.length := fun n hn => by
          cases s'
          · rw [hLf] at hn; simp [put2]; omega
          · rw [hLt] at hn; simp [put2]; omega
        refine r_w (fun hw4 => ?_) fun hw4 => ?_
        · walk_at "rd"
          refine v_ixLn (n := s'.toNat) (SqL.of hat4) rfl iv_at ?_
          rw [put2_same]
          walk_at "rd"
          refine v_ixTn (n := s'.toNat) hsd4 rfl (two_at (fun b => V.ref (lad b)) s') ?_
          walk_at "rd"
          refine v_lenLm (SqL.of (hlad4 s')) ?_
          walk_at "rd"
          refine r_w (fun hlt => ?_) fun hlt => ?_
          · walk_at "rd"
            have hLn : ∀ b, ∀ o ∈ L b, o < I.n := fun b => by cases b; rw [hLf]; exact hln; rw [hLt]; exact hrn
            have hLd : ∀ o ∈ L s', o ≠ y := fun o ho => by
              have hy' := List.mem_of_getElem? hy
              cases s'
              · rw [hLf] at ho; have : y ∈ right := by rw [← hLt]; exact hy'
                exact hdis o ho y this
              · rw [hLt] at ho; have : y ∈ left := by rw [← hLf]; exact hy'
                exact (hdis y this o ho).symm
            have e4 : put2 p s' (p s' + 1) s' = p s' + 1 := put2_same
            refine ⟨I, _, sd, at_, td, s', lad, L, put2 p s' (p s' + 1), told ++ [x], y, rfl, ⟨hA4, hsd4, fun b => SqL.of (hlad4 b), hat4, htd4, ⟨nA, nT, nAT, nladM, nladA⟩, hLn, hLd, by rw [put2_not]; exact hy, by rw [e4]; omega, hLb _, by rw [List.length_append, List.length_singleton]; omega, by simp only [List.length_append, List.length_singleton]; omega⟩, ?_, fun H6 g es1 hT4 hLP S6 hA6 hg hat6 htd6 => ?_, fun H6 g es1 hT4 hLP S6 hA6 hg hat6 htd6 => ?_⟩
            · have S04 : Stp I.M H H5 := (S1.mono (fun b hb => by simp at hb)).then S14 fun b hb => by
                rcases List.mem_cons.mp hb with rfl | hb
                · exact .inr hatH
                rcases List.mem_cons.mp hb with rfl | hb
                · exact .inr htdH
                exact .inl hb
              refine kx.sub S04 hT3 fun es2 ⟨g, hLP⟩ hT4 => ?_
              rw [e4] at hLP
              by_cases hg : p s' + 1 + g < (L s').length
              · obtain ⟨rest, res, hb2, hT'⟩ := JN.total I.or hdL _ (put2 (put2 p s' (p s' + 1 + g)) (!s') (p (!s') + 1)) s' 0 (log ++ (es ++ [ahE x y]) ++ es2) rfl
                have := hJ _ _ (.leap s' hx hy (by rw [← hw]; omega) (by omega) hLP hg hb2)
                exact ⟨rest, hT', _, by simpa only [List.append_assoc, List.cons_append, List.nil_append] using this⟩
              · obtain ⟨rest, res, hb2, hT'⟩ := JN.total I.or hdL _ (put2 p s' (p s' + 1 + g)) s' 0 (log ++ (es ++ [ahE x y]) ++ es2) rfl
                have := hJ _ _ (.leapA s' hx hy (by rw [← hw]; omega) (by omega) hLP hg hb2)
                exact ⟨rest, hT', _, by simpa only [List.append_assoc, List.cons_append, List.nil_append] using this⟩
            · rw [e4, put2_put2, put2_not] at hat6
              rw [e4] at htd6 hLP hg
              have hbd := hLP.bd (Nat.le_refl _) (Nat.le_refl _) (by omega) (by omega)
              have hfew := hLP.few0 (by omega)
              have hbs := bits_self (n := g)
              have hT5 := Told.app hT3 hT4
              rw [List.append_assoc] at hA6
              have e5 : p s' + 1 + g = p s' + (1 + g) := by omega
              have hs2 := put2_sum2 (p := p) (s := s') (n := 1 + g)
              have htk : (((L s').drop (p s' + 1)).take g).length = g := by rw [List.length_take, List.length_drop]; omega
              walk_at "rd"
              refine ⟨_, ?_, put2 (put2 p s' (p s' + 1 + g)) (!s') (p (!s') + 1), s', 0, es ++ [ahE x y] ++ es1, told ++ [x] ++ (((L s').drop (p s' + 1)).take g ++ [y]), _, rfl, ?_, ?_, ?_, ?_, fun rest res hr => ?_, hT5, S14.trans S6, hA6, hat6, htd6, rfl⟩
              · rw [e5]; omega
              · have := (hb (1 + g) (by omega)).1; rw [e5]; cases s'
                · simpa [put2] using this
                · have hpn' : p false < (L false).length := hpn
                  rw [hLf] at hpn'; simp [put2]; omega
              · have := (hb (1 + g) (by omega)).2; rw [e5]; cases s'
                · have hpn' : p true < (L true).length := hpn
                  rw [hLt] at hpn'; simp [put2]; omega
                · simpa [put2] using this
              · rw [e5]; simp only [List.length_append, List.length_singleton]; omega
              · rw [e5]; simp only [List.length_append, List.length_singleton, htk]; omega
              · have := hJ _ _ (.leap s' hx hy (by rw [← hw]; omega) (by omega) hLP hg hr)
                simpa only [List.append_assoc, List.cons_append, List.nil_append] using this
            · rw [e4, put2_put2] at hat6
              rw [e4] at htd6 hLP hg
              have hbd := hLP.bd (Nat.le_refl _) (Nat.le_refl _) (by omega) (by omega)
              have hfew := hLP.few0 (by omega)
              have hbs := bits_self (n := g)
              have hT5 := Told.app hT3 hT4
              rw [List.append_assoc] at hA6
              have e5 : p s' + 1 + g = p s' + (1 + g) := by omega
              have hs2 := put2_sum (p := p) (s := s') (n := 1 + g)
              have htk : (((L s').drop (p s' + 1)).take g).length = g := by rw [List.length_take, List.length_drop]; omega
              walk_at "rd"
              refine ⟨_, ?_, put2 p s' (p s' + 1 + g), s', 0, es ++ [ahE x y] ++ es1, told ++ [x] ++ ((L s').drop (p s' + 1)).take g, _, rfl, by rw [e5]; exact (hb _ (by omega)).1, by rw [e5]; exact (hb _ (by omega)).2, ?_, ?_, fun rest res hr => ?_, hT5, S14.trans S6, hA6, hat6, htd6, rfl⟩
              · rw [e5]; omega
              · rw [e5]; simp only [List.length_append, List.length_singleton]; omega
              · rw [e5]; simp only [List.length_append, List.length_singleton, htk]; omega
              · have := hJ _ _ (.leapA s' hx hy (by rw [← hw]; omega) (by omega) hLP hg hr)
                simpa only [List.append_assoc, List.cons_append, List.nil_append] using this
          · walk_at "rd"
            refine ⟨_, ?_, put2 p s' (p s' + 1), s', w, es ++ [ahE x y], told ++ [x], _, rfl, (hb 1 (by omega)).1, (hb 1 (by omega)).2, ?_, ?_, fun rest res hr => ?_, hT3, S14, hA4, hat4, htd4, rfl⟩
            · have := put2_sum (p := p) (s := s') (n := 1); omega
            · have := put2_sum (p := p) (s := s') (n := 1); rw [List.length_append, List.length_singleton]; omega
            · have := put2_sum (p := p) (s := s') (n := 1); rw [List.length_append, List.length_singleton]; omega
            · rw [List.append_assoc, List.append_assoc]
              exact hJ _ _ (.win s' hx hy (fun z => hlt (by have := z.2; omega)) (by rw [← hw]; exact hr))
        · walk_at "rd"
          refine ⟨_, ?_, put2 p s' (p s' + 1), s', w, es ++ [ahE x y], told ++ [x], _, rfl, (hb 1 (by omega)).1, (hb 1 (by omega)).2, ?_, ?_, fun rest res hr => ?_, hT3, S14, hA4, hat4, htd4, rfl⟩
          · have := put2_sum (p := p) (s := s') (n := 1); omega
          · have := put2_sum (p := p) (s := s') (n := 1); rw [List.length_append, List.length_singleton]; omega
          · have := put2_sum (p := p) (s := s') (n := 1); rw [List.length_append, List.length_singleton]; omega
          · rw [List.append_assoc, List.append_assoc]
            exact hJ _ _ (.win s' hx hy (fun z => hw4 (by have := z.1; omega)) (by rw [← hw]; exact hr))
      · walk_at "rd"
        refine hN _ _ ⟨rfl, ?_⟩
        rw [if_neg (fun z => hc (by rw [z]))]
        rfl
      · walk_at "rd"
        refine hN _ _ ⟨rfl, ?_⟩
        rw [if_pos (by cases s' <;> cases last <;> first | rfl | (revert hc; decide))]
/-! ### what a join tells, whatever is told -/
def Ch {α : Type} (R : α → α → Prop) : List α → Prop
  | [] => True
  | x :: l => (∀ y, l.head? = some y → R x y) ∧ Ch R l
theorem Ch.mono {α : Type} {R S : α → α → Prop} (h : ∀ x y, R x y → S x y) : ∀ {l : List α}, Ch R l → Ch S l
  | [], _ => True.intro
  | _ :: _, k => ⟨fun y e => h _ _ (k.1 y e), Ch.mono h k.2⟩
theorem ch_app {α : Type} {R : α → α → Prop} : ∀ {a b : List α}, Ch R a → Ch R b → (∀ x y, a.getLast? = some x → b.head? = some y → R x y) → Ch R (a ++ b)
  | [], _, _, hb, _ => hb
  | [x], b, _, hb, h => ⟨fun y e => h x y rfl e, hb⟩
  | x :: x' :: a, b, ha, hb, h => ⟨fun y e => ha.1 y e, ch_app ha.2 hb fun u v hu hv => h u v (by rw [List.getLast?_cons_cons]; exact hu) hv⟩
theorem ch_idx {α : Type} {R : α → α → Prop} : ∀ {l : List α}, (∀ (i : Nat) (u v : α), l[i]? = some u → l[i + 1]? = some v → R u v) → Ch R l
  | [], _ => True.intro
  | x :: l, h => ⟨fun y e => h 0 x y rfl (by rw [List.getElem?_cons_succ, ← List.head?_eq_getElem?]; exact e), ch_idx fun i u v hu hv => h (i + 1) u v hu hv⟩
theorem ch_at {α : Type} {R : α → α → Prop} : ∀ {l : List α}, Ch R l → ∀ (i : Nat) (u v : α), l[i]? = some u → l[i + 1]? = some v → R u v
  | [], _, i, u, v, hu, _ => by simp at hu
  | x :: l, h, 0, u, v, hu, hv => by
    cases hu
    exact h.1 v (by rw [List.head?_eq_getElem?]; exact hv)
  | x :: l, h, i + 1, u, v, hu, hv => ch_at h.2 i u v hu hv
theorem ch_pw {α : Type} {R : α → α → Prop} (tr : ∀ a b c, R a b → R b c → R a c) : ∀ {l : List α}, Ch R l → l.Pairwise R
  | [], _ => .nil
  | x :: l, h => by
    have ih := ch_pw tr h.2
    refine List.pairwise_cons.mpr ⟨fun z hz => ?_, ih⟩
    cases l with
    | nil => cases hz
    | cons y l =>
      have h1 := h.1 y rfl
      rcases List.mem_cons.mp hz with rfl | hz
      · exact h1
      · exact tr _ _ _ h1 ((List.pairwise_cons.mp ih).1 z hz)
theorem pw_ch {α : Type} {R : α → α → Prop} {l : List α} (h : l.Pairwise R) : Ch R l := ch_idx fun i u v hu hv => by
  obtain ⟨hi, hu⟩ := List.getElem?_eq_some_iff.mp hu
  obtain ⟨hj, hv⟩ := List.getElem?_eq_some_iff.mp hv
  have := List.pairwise_iff_getElem.mp h i (i + 1) hi hj (by omega)
  rw [hu, hv] at this
  exact this
theorem ahE_not {o p : Nat} (h : o ≠ p) : (⟨max o p, min o p, !decide (p < o)⟩ : Ent) = ahE p o := by
  unfold ahE
  rw [Nat.max_comm, Nat.min_comm]
  congr 1
  by_cases e : p < o
  · rw [decide_eq_true e, decide_eq_false (by omega)]; rfl
  · rw [decide_eq_false e, decide_eq_true (by omega)]; rfl
theorem HB.ends {ord : List Nat} {place lo high r : Nat} {es : List Ent} (h : HB ord place lo high es r) : (lo < r → ∃ o, ord[r - 1]? = some o ∧ ahE o place ∈ es) ∧ (r < high → ∃ o, ord[r]? = some o ∧ (⟨max o place, min o place, !decide (place < o)⟩ : Ent) ∈ es) := by
  induction h with
  | done lo => exact ⟨fun z => by omega, fun z => by omega⟩
  | @up lo high o es r h ho k ih =>
    have hbd := k.bd
    refine ⟨fun z => ?_, fun z => ?_⟩
    · by_cases e : (lo + high - 1) / 2 + 1 < r
      · obtain ⟨o', a, b⟩ := ih.1 e; exact ⟨o', a, List.mem_cons_of_mem _ b⟩
      · refine ⟨o, by rw [← ho]; congr 1; omega, List.mem_cons_self ..⟩
    · obtain ⟨o', a, b⟩ := ih.2 z; exact ⟨o', a, List.mem_cons_of_mem _ b⟩
  | @down lo high o es r h ho k ih =>
    have hbd := k.bd
    refine ⟨fun z => ?_, fun z => ?_⟩
    · obtain ⟨o', a, b⟩ := ih.1 z; exact ⟨o', a, List.mem_cons_of_mem _ b⟩
    · by_cases e : r < (lo + high - 1) / 2
      · obtain ⟨o', a, b⟩ := ih.2 e; exact ⟨o', a, List.mem_cons_of_mem _ b⟩
      · refine ⟨o, by rw [← ho]; congr 1; omega, List.mem_cons_self ..⟩
theorem LP.lo_le {ord : List Nat} {place first lo step r : Nat} {es : List Ent} (h : LP ord place first lo step es r) (hf : first ≤ lo) (h1 : lo < first + step) : lo ≤ first + r := by
  induction h with
  | more h ho k ih => have := ih (by omega) (by omega); omega
  | stop h ho k => have := k.bd; omega
  | over h k => have := k.bd; omega
theorem LP.ends {ord : List Nat} {place first lo step r : Nat} {es : List Ent} (h : LP ord place first lo step es r) (hf : first ≤ lo) (h0 : 1 ≤ step) (h1 : lo < first + step) :
    (lo < first + r → ∃ o, ord[first + r - 1]? = some o ∧ ahE o place ∈ es) ∧ (first + r < ord.length → ∃ o, ord[first + r]? = some o ∧ (⟨max o place, min o place, !decide (place < o)⟩ : Ent) ∈ es) := by
  induction h with
  | @more lo step o es r h ho k ih =>
    obtain ⟨i1, i2⟩ := ih (by omega) (by omega) (by omega)
    refine ⟨fun z => ?_, fun z => ?_⟩
    · by_cases e : first + step < first + r
      · obtain ⟨o', a, b⟩ := i1 e; exact ⟨o', a, List.mem_cons_of_mem _ b⟩
      · have := k.lo_le (by omega) (by omega)
        refine ⟨o, by rw [← ho]; congr 1; omega, List.mem_cons_self ..⟩
    · obtain ⟨o', a, b⟩ := i2 z; exact ⟨o', a, List.mem_cons_of_mem _ b⟩
  | @stop lo step o es r h ho k =>
    have hbd := k.bd
    obtain ⟨i1, i2⟩ := k.ends
    refine ⟨fun z => ?_, fun z => ?_⟩
    · obtain ⟨o', a, b⟩ := i1 (by omega); exact ⟨o', by rw [← a]; congr 1; omega, List.mem_cons_of_mem _ b⟩
    · by_cases e : r < first + step - 1
      · obtain ⟨o', a, b⟩ := i2 e; exact ⟨o', by rw [← a]; congr 1; omega, List.mem_cons_of_mem _ b⟩
      · refine ⟨o, by rw [← ho]; congr 1; omega, List.mem_cons_self ..⟩
  | @over lo step es r h k =>
    have hbd := k.bd
    obtain ⟨i1, i2⟩ := k.ends
    refine ⟨fun z => ?_, fun z => ?_⟩
    · obtain ⟨o', a, b⟩ := i1 (by omega); exact ⟨o', by rw [← a]; congr 1; omega, b⟩
    · obtain ⟨o', a, b⟩ := i2 (by omega); exact ⟨o', by rw [← a]; congr 1; omega, b⟩
/-- two neighbours of what is told: neighbours of a side, or asked about -/
def Nb (L : Bool → List Nat) (E : List Ent) (u v : Nat) : Prop := (∃ (b : Bool) (i : Nat), (L b)[i]? = some u ∧ (L b)[i + 1]? = some v) ∨ ahE u v ∈ E
theorem Nb.mono {L : Bool → List Nat} {E F : List Ent} (h : ∀ e ∈ E, e ∈ F) {u v : Nat} (k : Nb L E u v) : Nb L F u v := k.imp id (h _)
theorem JN.head {L : Bool → List Nat} {p : Bool → Nat} {last : Bool} {wins : Nat} {es : List Ent} {res : List Nat} (h : JN L p last wins es res) {z : Nat} (hz : res.head? = some z) : ∃ b, (L b)[p b]? = some z := by
  cases h with
  | done h =>
    rcases h with h | h
    · rw [List.drop_of_length_le h, List.nil_append, List.head?_drop] at hz; exact ⟨true, hz⟩
    · rw [List.drop_of_length_le h, List.append_nil, List.head?_drop] at hz; exact ⟨false, hz⟩
  | win s hx hy h k => cases hz; exact ⟨s, hx⟩
  | leap s hx hy h h2 hL h3 k => cases hz; exact ⟨s, hx⟩
  | leapA s hx hy h h2 hL h3 k => cases hz; exact ⟨s, hx⟩
theorem ch_drop {L : Bool → List Nat} {E : List Ent} (b : Bool) (i n : Nat) : Ch (Nb L E) (((L b).drop i).take n) := ch_idx fun j u v hu hv => by
  have e1 : j < n := by
    by_cases h : j < n
    · exact h
    · rw [List.getElem?_eq_none (by rw [List.length_take]; omega)] at hu; cases hu
  have e2 : j + 1 < n := by
    by_cases h : j + 1 < n
    · exact h
    · rw [List.getElem?_eq_none (by rw [List.length_take]; omega)] at hv; cases hv
  rw [List.getElem?_take_of_lt e1, List.getElem?_drop] at hu
  rw [List.getElem?_take_of_lt e2, List.getElem?_drop] at hv
  exact .inl ⟨b, i + j, hu, hv⟩
theorem getLast_take {l : List Nat} {i n : Nat} (h : i + n < l.length) : ((l.drop i).take (n + 1)).getLast? = l[i + n]? := by
  rw [List.getLast?_eq_getElem?, List.length_take, List.length_drop, List.getElem?_take_of_lt (by omega), List.getElem?_drop]
  congr 1
  omega
theorem drop_cons {l : List Nat} {i x : Nat} (h : l[i]? = some x) : l.drop i = x :: l.drop (i + 1) := by
  obtain ⟨hi, e⟩ := List.getElem?_eq_some_iff.mp h
  rw [List.drop_eq_getElem_cons hi, e]
theorem take_cons {l : List Nat} {i x n : Nat} (h : l[i]? = some x) : x :: (l.drop (i + 1)).take n = (l.drop i).take (n + 1) := by
  rw [drop_cons h, List.take_succ_cons]
theorem JN.chain {L : Bool → List Nat} (hd : ∀ x ∈ L false, ∀ y ∈ L true, x ≠ y) {p : Bool → Nat} {last : Bool} {wins : Nat} {es : List Ent} {res : List Nat} (h : JN L p last wins es res) : Ch (Nb L es) res := by
  have hds : ∀ (s : Bool) (x y : Nat), x ∈ L s → y ∈ L (!s) → x ≠ y := fun s x y hx hy => by
    cases s
    · exact hd x hx y hy
    · exact (hd y hy x hx).symm
  induction h with
  | @done p last wins h =>
    rcases h with h | h
    · rw [List.drop_of_length_le h, List.nil_append]
      have := ch_drop (L := L) (E := []) true (p true) (L true).length
      rwa [List.take_of_length_le (by rw [List.length_drop]; omega)] at this
    · rw [List.drop_of_length_le h, List.append_nil]
      have := ch_drop (L := L) (E := []) false (p false) (L false).length
      rwa [List.take_of_length_le (by rw [List.length_drop]; omega)] at this
  | @win p last wins s x y es res hx hy h k ih =>
    refine ⟨fun z hz => ?_, ih.mono fun _ _ => Nb.mono fun _ h => List.mem_cons_of_mem _ h⟩
    obtain ⟨b, hb⟩ := k.head hz
    by_cases e : b = s
    · subst e; rw [put2_same] at hb; exact .inl ⟨b, _, hx, hb⟩
    · have e' : b = !s := by cases b <;> cases s <;> simp_all
      subst e'
      rw [put2_not, hy] at hb
      cases hb
      exact .inr (List.mem_cons_self ..)
  | @leap p last wins s x y g es1 es res hx hy h h2 hL h3 k ih =>
    have hE : ∀ e ∈ es, e ∈ ahE x y :: (es1 ++ es) := fun e he => by simp [he]
    have hE1 : ∀ e ∈ es1, e ∈ ahE x y :: (es1 ++ es) := fun e he => by simp [he]
    obtain ⟨n1, n2⟩ := hL.ends (Nat.le_refl _) (Nat.le_refl _) (by omega)
    rw [show x :: (((L s).drop (p s + 1)).take g ++ y :: res) = ((L s).drop (p s)).take (g + 1) ++ y :: res by rw [← take_cons hx]; rfl]
    refine ch_app (ch_drop s _ _) ⟨fun z hz => ?_, ih.mono fun _ _ => Nb.mono hE⟩ fun u v hu hv => ?_
    · obtain ⟨b, hb⟩ := k.head hz
      by_cases e : b = s
      · subst e
        rw [put2_not', put2_same] at hb
        obtain ⟨o, a, c⟩ := n2 h3
        rw [a] at hb
        cases hb
        rw [ahE_not (hds _ _ _ (List.mem_of_getElem? a) (List.mem_of_getElem? hy))] at c
        exact .inr (hE1 _ c)
      · have e' : b = !s := by cases b <;> cases s <;> simp_all
        subst e'
        rw [put2_same] at hb
        exact .inl ⟨!s, _, hy, hb⟩
    · cases hv
      rw [getLast_take (by omega)] at hu
      by_cases e : g = 0
      · subst e
        rw [Nat.add_zero, hx] at hu
        cases hu
        exact .inr (List.mem_cons_self ..)
      · obtain ⟨o, a, c⟩ := n1 (by omega)
        rw [show p s + 1 + g - 1 = p s + g by omega, hu] at a
        cases a
        exact .inr (hE1 _ c)
  | @leapA p last wins s x y g es1 es res hx hy h h2 hL h3 k ih =>
    have hE : ∀ e ∈ es, e ∈ ahE x y :: (es1 ++ es) := fun e he => by simp [he]
    have hE1 : ∀ e ∈ es1, e ∈ ahE x y :: (es1 ++ es) := fun e he => by simp [he]
    have hbd := hL.bd (Nat.le_refl _) (Nat.le_refl _) (by omega) (by omega)
    obtain ⟨n1, n2⟩ := hL.ends (Nat.le_refl _) (Nat.le_refl _) (by omega)
    rw [show x :: (((L s).drop (p s + 1)).take g ++ res) = ((L s).drop (p s)).take (g + 1) ++ res by rw [← take_cons hx]; rfl]
    refine ch_app (ch_drop s _ _) (ih.mono fun _ _ => Nb.mono hE) fun u v hu hv => ?_
    obtain ⟨b, hb⟩ := k.head hv
    have e' : b = !s := by
      by_cases e : b = s
      · subst e
        rw [put2_same, List.getElem?_eq_none (by omega)] at hb
        cases hb
      · cases b <;> cases s <;> simp_all
    subst e'
    rw [put2_not, hy] at hb
    cases hb
    rw [getLast_take (by omega)] at hu
    by_cases e : g = 0
    · subst e
      rw [Nat.add_zero, hx] at hu
      cases hu
      exact .inr (List.mem_cons_self ..)
    · obtain ⟨o, a, c⟩ := n1 (by omega)
      rw [show p s + 1 + g - 1 = p s + g by omega, hu] at a
      cases a
      exact .inr (hE1 _ c)
theorem JN.perm {L : Bool → List Nat} {p : Bool → Nat} {last : Bool} {wins : Nat} {es : List Ent} {res : List Nat} (h : JN L p last wins es res) : res.Perm ((L false).drop (p false) ++ (L true).drop (p true)) := by
  induction h with
  | done h => exact .refl _
  | @win p last wins s x y es res hx hy h k ih =>
    refine List.Perm.trans ?_ (two_perm (fun b => (L b).drop (p b)) s).symm
    have ih' := ih.trans (two_perm (fun b => (L b).drop (put2 p s (p s + 1) b)) s)
    simp only [put2_same, put2_not] at ih'
    rw [drop_cons hx, List.cons_append]
    exact ih'.cons x
  | @leap p last wins s x y g es1 es res hx hy h h2 hL h3 k ih =>
    refine List.Perm.trans ?_ (two_perm (fun b => (L b).drop (p b)) s).symm
    have ih' := ih.trans (two_perm (fun b => (L b).drop (put2 (put2 p s (p s + 1 + g)) (!s) (p (!s) + 1) b)) s)
    simp only [put2_same, put2_not, put2_not'] at ih'
    rw [drop_cons hx, drop_cons hy, List.cons_append]
    refine List.Perm.cons x ?_
    have e : (L s).drop (p s + 1) = ((L s).drop (p s + 1)).take g ++ (L s).drop (p s + 1 + g) := by
      rw [show (L s).drop (p s + 1 + g) = ((L s).drop (p s + 1)).drop g by rw [List.drop_drop]]; exact (List.take_append_drop g _).symm
    refine List.Perm.trans ?_ (by rw [← e] : (((L s).drop (p s + 1)).take g ++ (L s).drop (p s + 1 + g) ++ y :: (L !s).drop (p (!s) + 1)).Perm ((L s).drop (p s + 1) ++ y :: (L !s).drop (p (!s) + 1)))
    rw [List.append_assoc]
    refine List.Perm.append_left _ ?_
    exact (ih'.cons y).trans List.perm_middle.symm
  | @leapA p last wins s x y g es1 es res hx hy h h2 hL h3 k ih =>
    refine List.Perm.trans ?_ (two_perm (fun b => (L b).drop (p b)) s).symm
    have ih' := ih.trans (two_perm (fun b => (L b).drop (put2 p s (p s + 1 + g) b)) s)
    simp only [put2_same, put2_not] at ih'
    rw [drop_cons hx, List.cons_append]
    refine List.Perm.cons x ?_
    have e : (L s).drop (p s + 1) = ((L s).drop (p s + 1)).take g ++ (L s).drop (p s + 1 + g) := by
      rw [show (L s).drop (p s + 1 + g) = ((L s).drop (p s + 1)).drop g by rw [List.drop_drop]]; exact (List.take_append_drop g _).symm
    refine List.Perm.trans ?_ (by rw [← e] : (((L s).drop (p s + 1)).take g ++ (L s).drop (p s + 1 + g) ++ (L !s).drop (p (!s))).Perm ((L s).drop (p s + 1) ++ (L !s).drop (p (!s))))
    rw [List.append_assoc]
    exact List.Perm.append_left _ ih'
theorem HB.gt {ord : List Nat} {place lo high r : Nat} {es : List Ent} (h : HB ord place lo high es r) (hne : ∀ o ∈ ord, o ≠ place) : ∀ e ∈ es, e.b < e.a := by
  induction h with
  | done lo => simp
  | @up lo high o es r h ho k ih => intro e he; rcases List.mem_cons.mp he with rfl | he; have := hne o (List.mem_of_getElem? ho); show min _ _ < max _ _; omega; exact ih e he
  | @down lo high o es r h ho k ih => intro e he; rcases List.mem_cons.mp he with rfl | he; have := hne o (List.mem_of_getElem? ho); show min _ _ < max _ _; omega; exact ih e he
theorem LP.gt {ord : List Nat} {place first lo step r : Nat} {es : List Ent} (h : LP ord place first lo step es r) (hne : ∀ o ∈ ord, o ≠ place) : ∀ e ∈ es, e.b < e.a := by
  induction h with
  | @more lo step o es r h ho k ih => intro e he; rcases List.mem_cons.mp he with rfl | he; have := hne o (List.mem_of_getElem? ho); show min _ _ < max _ _; omega; exact ih e he
  | @stop lo step o es r h ho k => intro e he; rcases List.mem_cons.mp he with rfl | he; have := hne o (List.mem_of_getElem? ho); show min _ _ < max _ _; omega; exact k.gt hne e he
  | over h k => exact k.gt hne
theorem JN.gt {L : Bool → List Nat} (hd : ∀ x ∈ L false, ∀ y ∈ L true, x ≠ y) {p : Bool → Nat} {last : Bool} {wins : Nat} {es : List Ent} {res : List Nat} (h : JN L p last wins es res) : ∀ e ∈ es, e.b < e.a := by
  have hds : ∀ (s : Bool) (x y : Nat), x ∈ L s → y ∈ L (!s) → x ≠ y := fun s x y hx hy => by
    cases s
    · exact hd x hx y hy
    · exact (hd y hy x hx).symm
  induction h with
  | done h => simp
  | @win p last wins s x y es res hx hy h k ih =>
    intro e he
    rcases List.mem_cons.mp he with rfl | he
    · have := hds s x y (List.mem_of_getElem? hx) (List.mem_of_getElem? hy); show min _ _ < max _ _; omega
    · exact ih e he
  | @leap p last wins s x y g es1 es res hx hy h h2 hL h3 k ih =>
    intro e he
    rcases List.mem_cons.mp he with rfl | he
    · have := hds s x y (List.mem_of_getElem? hx) (List.mem_of_getElem? hy); show min _ _ < max _ _; omega
    · rcases List.mem_append.mp he with he | he
      · exact hL.gt (fun o ho => hds s o y ho (List.mem_of_getElem? hy)) e he
      · exact ih e he
  | @leapA p last wins s x y g es1 es res hx hy h h2 hL h3 k ih =>
    intro e he
    rcases List.mem_cons.mp he with rfl | he
    · have := hds s x y (List.mem_of_getElem? hx) (List.mem_of_getElem? hy); show min _ _ < max _ _; omega
    · rcases List.mem_append.mp he with he | he
      · exact hL.gt (fun o ho => hds s o y ho (List.mem_of_getElem? hy)) e he
      · exact ih e he
/-! ### an order dealt to two sides -/
structure Split (ord : List Nat) (sl : Bool → List Nat) : Prop where
  sub : ∀ b, (sl b).Sublist ord
  perm : (sl false ++ sl true).Perm ord
theorem Split.nil : Split [] fun _ => [] := ⟨fun _ => .slnil, .refl _⟩
theorem Split.snoc {ord blk : List Nat} {sl : Bool → List Nat} (h : Split ord sl) (s : Bool) : Split (ord ++ blk) (put2 sl s (sl s ++ blk)) := by
  refine ⟨fun b => ?_, ?_⟩
  · by_cases e : b = s
    · subst e; rw [put2_same]; exact (h.sub b).append (List.Sublist.refl _)
    · have : put2 sl s (sl s ++ blk) b = sl b := by simp [put2, e]
      rw [this]; exact (h.sub b).trans (List.sublist_append_left _ _)
  · refine (two_perm (put2 sl s (sl s ++ blk)) s).trans ?_
    rw [put2_same, put2_not]
    have h1 : (sl s ++ blk ++ sl (!s)).Perm (sl s ++ sl (!s) ++ blk) := by rw [List.append_assoc, List.append_assoc]; exact List.Perm.append_left _ List.perm_append_comm
    exact h1.trans (((two_perm sl s).symm.trans h.perm).append_right blk)
theorem Split.len {ord : List Nat} {sl : Bool → List Nat} (h : Split ord sl) : (sl false).length + (sl true).length = ord.length := by
  have := h.perm.length_eq; rwa [List.length_append] at this
theorem Split.lenb {ord : List Nat} {sl : Bool → List Nat} (h : Split ord sl) (b : Bool) : (sl b).length ≤ ord.length := (h.sub b).length_le
theorem Split.mem {ord : List Nat} {sl : Bool → List Nat} (h : Split ord sl) {b : Bool} {o : Nat} (ho : o ∈ sl b) : o ∈ ord := (h.sub b).subset ho
theorem Split.dis {ord : List Nat} {sl : Bool → List Nat} (h : Split ord sl) (hn : ord.Nodup) : ∀ x ∈ sl false, ∀ y ∈ sl true, x ≠ y := by
  have : (sl false ++ sl true).Nodup := h.perm.nodup_iff.mpr hn
  exact (List.nodup_append.mp this).2.2
theorem bool_of_mod2 {c : Int} : ∃ s : Bool, c % 2 = (s.toNat : Nat) := by
  by_cases h : c % 2 = 0
  · exact ⟨false, h⟩
  · exact ⟨true, by show c % 2 = 1; omega⟩
theorem v_ixNeg {K : PySem.W.Frag} {H : Hp} {Q : VK} {p : Addr} {ms : List Int} {k : Nat} {i : Int} (h : SqL K H p (ms.map V.int)) (e : i = -1 - (k : Int)) (hk : k < ms.length) (q : ∀ m : Int, Q (.int m) H) : aIx K (.ref p) (.int i) H Q := by
  have hl : ms.length - 1 - k < ms.length := by omega
  refine v_ixL (v := .int ms[ms.length - 1 - k]) h ?_ (q _)
  subst e
  unfold atI
  have : ixN (ms.map V.int).length (-1 - (k : Int)) = some (ms.length - 1 - k) := by
    unfold ixN
    rw [List.length_map, if_neg (by omega), if_pos (by omega)]
    congr 1
    omega
  rw [this]
  show (ms.map V.int)[ms.length - 1 - k]? = _
  rw [List.getElem?_map, List.getElem?_eq_getElem hl]
  rfl
def sp__law_cell_at (K : PySem.W.Frag) (A : Ad) : Sp := fun vs H Q _ => ∃ (a : Addr) (ns : List Int) (k : Nat), vs = [.ref a, .int k] ∧ SqL K H a (ns.map V.int) ∧ ∀ c : Int, Q (.int c) H
theorem ok__law_cell_at {P : Program} {w : World} {K : PySem.W.Frag} {mg : Str → Option Value} {base : Heap} {A : Ad} {f : Addr} {fd : FuncData} (F : Fun K "_law_cell_at" "_law_cell_at" s__law_cell_at f fd) (T : Txt K mg A)  : FnOk P w K mg base CX0 1 f fd ["_law_script", "_law_k"] (sp__law_cell_at K A) := by
  refine F.ok sc__law_cell_at (fun vs H Q E h => by obtain ⟨_, _, _, rfl, _⟩ := h; rfl) (fun cdv A' outer s H vs Q E hr h => ?_)
  obtain ⟨a, ns, i, rfl, hS, k⟩ := h
  refine ⟨_, (pss_cons (ps_if (pt_cmpR (SH.oLt hr.units0) (pv 1) (pe_callB SH.cLen (by rfl) T.z_len (by decide +kernel) (pa_cons (pv 0) pa_nil)) (nomark _)) (pss_one (ps_ret (pe_ix SH.ixA (pv 0) (pv 1) (fun _ _ => rfl)))) pss_nil)
        (pss_one (ps_ret pe_int))), ?_⟩
  walk_at "begin"
  walk_at "rd"
  refine r_w (fun hc => ?_) fun hc => ?_
  · walk_at "rd"
    refine v_ixE (n := i) (by walk_at "sq") rfl (by omega) ?_
    walk_at "rd"
    exact k _
  · walk_at "rd"
    exact k _
def sp__law_sides (K : PySem.W.Frag) (A : Ad) : Sp := fun vs H Q _ => ∃ (oa na : Addr) (ord : List Nat) (ms : List Int) (kind : Int), vs = [.ref oa, .ref na, .int kind] ∧ (SqL K H oa (nv ord) ∧ SqL K H na (ms.map V.int) ∧ ms.length = ord.length ∧ ord.length ≤ 300) ∧
  ∀ (q : Addr) (ad : Bool → Addr) (sl : Bool → List Nat) (H' : Hp), H q = none → (∀ b, H (ad b) = none) → Stp [] H H' → H' q = some (.lst [.ref (ad false), .ref (ad true)]) → (∀ b, H' (ad b) = some (.lst (nv (sl b)))) → ad false ≠ ad true → Split ord sl → Q (.ref q) H'
theorem ok__law_sides {P : Program} {w : World} {K : PySem.W.Frag} {mg : Str → Option Value} {base : Heap} {A : Ad} {f : Addr} {fd : FuncData} (F : Fun K "_law_sides" "_law_sides" s__law_sides f fd) (T : Txt K mg A)  : FnOk P w K mg base CX0 1 f fd ["_law_order", "_law_numbers_here", "_law_kind"] (sp__law_sides K A) := by
  refine F.ok sc__law_sides (fun vs H Q E h => by obtain ⟨_, _, _, _, _, rfl, _⟩ := h; rfl) (fun cdv A' outer s H vs Q E hr h => ?_)
  obtain ⟨oa, na, ord, ms, kind, rfl, ⟨hO, hN, hml, hol⟩, k⟩ := h
  refine ⟨_, (pss_cons (ps_set (i := 3) sc__law_sides.nd rfl (Or.inl rfl) (pe_ix SH.ixA (pe_lst (pa_cons pe_int (pa_cons pe_int (pa_cons pe_int (pa_cons pe_int (pa_cons pe_int pa_nil)))))) (pe_op SH.oMod (pe_op SH.oDiv (pv 2) pe_int) pe_int) (fun _ _ => rfl)))
        (pss_cons (ps_set (i := 4) sc__law_sides.nd rfl (Or.inl rfl) (pe_op SH.oMod (pe_op SH.oDiv (pv 2) pe_int) pe_int))
        (pss_cons (ps_set (i := 5) sc__law_sides.nd rfl (Or.inl rfl) (pe_lst (pa_cons (pe_lst pa_nil) (pa_cons (pe_lst pa_nil) pa_nil))))
        (pss_cons (ps_set (i := 6) sc__law_sides.nd rfl (Or.inl rfl) pe_int)
        (pss_cons (ps_set (i := 7) sc__law_sides.nd rfl (Or.inl rfl) pe_int)
        (pss_cons (ps_while PassesOwn.never (pt_cmpR (SH.oLt hr.units0) (pv 6) (pe_callB SH.cLen (by rfl) T.z_len (by decide +kernel) (pa_cons (pv 0) pa_nil)) (nomark _)) (pss_cons (ps_set (i := 8) sc__law_sides.nd rfl (Or.inl rfl) (pe_op SH.oAdd pe_int (pe_op SH.oMod (pe_op SH.oMod (pe_op SH.oMul (pe_op SH.oMod (pe_ix SH.ixA (pv 1) (pe_op SH.oSub (pe_un un_neg pe_int) (pv 7)) (fun _ _ => rfl)) pe_int) pe_int) pe_int) (pv 3))))
        (pss_cons (ps_expr (pe_bm PySem.F.plainAttrs_list PySem.F.slot_list_extend PySem.F.type_list_extend mt_extend (pe_ix SH.ixA (pv 5) (pv 4) (fun _ _ => rfl)) (pa_cons (pe_slice sl_list (pv 0) (po_some (pv 6)) (po_some (pe_op SH.oAdd (pv 6) (pv 8)))) pa_nil)))
        (pss_cons (ps_set (i := 6) sc__law_sides.nd rfl (Or.inl rfl) (pe_op SH.oAdd (pv 6) (pv 8)))
        (pss_cons (ps_set (i := 4) sc__law_sides.nd rfl (Or.inl rfl) (pe_op SH.oSub pe_int (pv 4)))
        (pss_one (ps_set (i := 7) sc__law_sides.nd rfl (Or.inl rfl) (pe_op SH.oAdd (pv 7) pe_int))))))))
        (pss_one (ps_ret (pv 5))))))))), ?_⟩
  walk_at "begin"
  walk_at "rd"
  refine v_lst (by simp) fun wl hwl => ?_
  walk_at "rd"
  refine v_ixMod (m := 5) (by walk_at "sq") rfl (by decide) fun v hv => ?_
  have hv' : ∃ m : Int, v = .int m ∧ 0 < m ∧ m ≤ 300 := by
    simp only [List.mem_cons, List.not_mem_nil, or_false] at hv
    rcases hv with rfl | rfl | rfl | rfl | rfl <;> exact ⟨_, rfl, by decide, by decide⟩
  obtain ⟨wide, rfl, hw0, hw1⟩ := hv'
  clear hv
  walk_at "rd"
  obtain ⟨s0, hs0⟩ := bool_of_mod2 (c := kind / 80)
  rw [hs0]
  clear hs0
  intro a0 ha0
  walk_at "rd"
  intro a1 ha1
  walk_at "rd"
  intro q hq
  have S1 : Stp [] H (upd (upd (upd (upd H wl (.lst [.int 1, .int 3, .int 12, .int 45, .int 300])) a0 (.lst [])) a1 (.lst [])) q (.lst [.ref a0, .ref a1])) := (((Stp.refl [] H).new hwl).new ha0).new ha1 |>.new hq
  have hq1 : (upd (upd (upd (upd H wl (.lst [.int 1, .int 3, .int 12, .int 45, .int 300])) a0 (.lst [])) a1 (.lst [])) q (.lst [.ref a0, .ref a1])) q = some (.lst [.ref a0, .ref a1]) := upd_same
  have h01 : a0 ≠ a1 := ne_of_none upd_same ha1
  have h0q : a0 ≠ q := ne_of_none (upd_old upd_same ha1) hq
  have h1q : a1 ≠ q := ne_of_none upd_same hq
  have ha01 : (upd (upd (upd (upd H wl (.lst [.int 1, .int 3, .int 12, .int 45, .int 300])) a0 (.lst [])) a1 (.lst [])) q (.lst [.ref a0, .ref a1])) a0 = some (.lst []) := upd_old (upd_old upd_same ha1) hq
  have ha11 : (upd (upd (upd (upd H wl (.lst [.int 1, .int 3, .int 12, .int 45, .int 300])) a0 (.lst [])) a1 (.lst [])) q (.lst [.ref a0, .ref a1])) a1 = some (.lst []) := upd_old upd_same hq
  have f0 : H a0 = none := (upd_free ha0).1
  have f1 : H a1 = none := (upd_free (upd_free ha1).1).1
  have fq : H q = none := (upd_free (upd_free (upd_free hq).1).1).1
  generalize (upd (upd (upd (upd H wl (.lst [.int 1, .int 3, .int 12, .int 45, .int 300])) a0 (.lst [])) a1 (.lst [])) q (.lst [.ref a0, .ref a1])) = H1 at S1 hq1 ha01 ha11 ⊢
  obtain ⟨ad, had⟩ : ∃ ad : Bool → Addr, ad = fun b => if b then a1 else a0 := ⟨_, rfl⟩
  have hadf : ∀ b, H (ad b) = none := fun b => by cases b <;> rw [had] <;> assumption
  have hadq : ∀ b, ad b ≠ q := fun b => by cases b <;> rw [had] <;> assumption
  have had2 : ∀ b c, b ≠ c → ad b ≠ ad c := fun b c h => by cases b <;> cases c <;> rw [had] <;> first | exact (h rfl).elim | exact h01 | exact h01.symm
  have hq1' : H1 q = some (.lst [.ref (ad false), .ref (ad true)]) := by rw [had]; exact hq1
  have hads : ∀ b, H1 (ad b) = some (.lst (nv [])) := fun b => by cases b <;> rw [had] <;> assumption
  have hO1 := S1.sql0 hO
  have hN1 := S1.sql0 hN
  walk_at "rd"
  refine r_while (fun m σ H' => ∃ (at_ k : Nat) (s : Bool) (sl : Bool → List Nat) (v8 : Option V), m = ord.length - at_ ∧ k ≤ at_ ∧ Split (ord.take at_) sl ∧ (∀ b o, H b = some o → H' b = some o) ∧ (∀ b, H' b = none → H b = none) ∧ H' q = some (.lst [.ref (ad false), .ref (ad true)]) ∧ (∀ b, H' (ad b) = some (.lst (nv (sl b)))) ∧ σ = [some (.ref oa), some (.ref na), some (.int kind), some (.int wide), some (.int (s.toNat : Nat)), some (.ref q), some (.int (at_ : Nat)), some (.int (k : Nat)), v8])
    ⟨_, 0, 0, s0, fun _ => [], _, rfl, by omega, by rw [List.take_zero]; exact Split.nil, fun b o e => S1.keep0 e, S1.dom, hq1', hads, rfl⟩ ?_
  rintro m σ H2 ⟨at_, kk, s, sl, v8, rfl, hk, hsp, hx, hd, hq2, ha2, rfl⟩
  have S2 : Stp [] H H2 := ⟨fun b o e _ => hx b o e, hd⟩
  have hO2 := S2.sql0 hO
  have hN2 := S2.sql0 hN
  walk_at "rd"
  refine r_w (fun hlt => ?_) fun hlt => ?_
  · refine r_next_turn ?_
    walk_at "rd"
    refine v_ixNeg hN2 rfl (by omega) fun mm => ?_
    walk_at "rd"
    obtain ⟨sz, hsz⟩ : ∃ sz : Nat, 1 + mm % 65521 * 48271 % 65519 % wide = (sz : Nat) ∧ 1 ≤ sz ∧ sz ≤ 300 := by
      have g0 := Int.emod_nonneg (mm % 65521 * 48271 % 65519) (show wide ≠ 0 by omega)
      have g1 := Int.emod_lt_of_pos (mm % 65521 * 48271 % 65519) hw0
      exact ⟨(1 + mm % 65521 * 48271 % 65519 % wide).toNat, by omega, by omega, by omega⟩
    rw [hsz.1]
    refine v_ixLn (n := s.toNat) (SqL.of hq2) rfl (two_at (fun b => V.ref (ad b)) s) ?_
    walk_at "rd"
    refine ⟨ty_list (ha2 s), ?_⟩
    walk_at "rd"
    intro t ht
    have e1 : ((at_ : Nat) : Int) + (sz : Nat) = ((at_ + sz : Nat) : Int) := by omega
    rw [cut_map, e1, cutL_span, Nat.add_sub_cancel_left]
    walk_at "rd"
    have hl := hsp.lenb s
    rw [List.length_take] at hl
    refine v_ext (upd_old (ha2 s) ht) upd_same (by simp only [List.length_map, List.length_take, List.length_drop]; omega) ?_
    rw [← List.map_append]
    walk_at "rd"
    rw [nots]
    have e2 : ((kk : Nat) : Int) + 1 = ((kk + 1 : Nat) : Int) := by omega
    rw [e1, e2]
    have hsp' := hsp.snoc (blk := (ord.drop at_).take sz) s
    rw [← List.take_add] at hsp'
    refine ⟨_, ?_, at_ + sz, kk + 1, !s, put2 sl s (sl s ++ (ord.drop at_).take sz), _, rfl, by omega, hsp', fun b o e => ?_, fun b e => ?_, ?_, fun b => ?_, rfl⟩
    · omega
    · rw [upd_ne (fun z => by subst z; rw [hadf] at e; cases e), upd_ne (ne_of_none (hx b o e) ht)]; exact hx b o e
    · exact hd b (upd_free (upd_free e).1).1
    · rw [upd_ne (hadq s).symm, upd_ne (ne_of_none hq2 ht)]; exact hq2
    · by_cases e : b = s
      · subst e; rw [put2_same, upd_same]
      · rw [upd_ne (had2 _ _ e), upd_ne (ne_of_none (ha2 b) ht), ha2 b]
        simp [put2, e]
  · walk_at "rd"
    rw [List.take_of_length_le (by omega)] at hsp
    exact k q ad sl H2 fq hadf S2 hq2 ha2 (had2 _ _ (by decide)) hsp
/-! ### rows of pairs (key, place), any keys -/
def sp__law_stream (K : PySem.W.Frag) (A : Ad) : Sp := fun vs H Q _ => ∃ (c : Int) (n : Nat), vs = [.int c, .int n] ∧ n ≤ 1000 ∧
  ∀ (q : Addr) (H' : Hp) (ms : List Int), H q = none → Stp [] H H' → H' q = some (.lst (ms.map V.int)) → ms.length = n → Q (.ref q) H'
theorem ok__law_stream {P : Program} {w : World} {K : PySem.W.Frag} {mg : Str → Option Value} {base : Heap} {A : Ad} {f : Addr} {fd : FuncData} (F : Fun K "_law_stream" "_law_stream" s__law_stream f fd) (T : Txt K mg A)  : FnOk P w K mg base CX0 1 f fd ["_law_seed", "_law_many"] (sp__law_stream K A) := by
  refine F.ok sc__law_stream (fun vs H Q E h => by obtain ⟨_, _, rfl, _⟩ := h; rfl) (fun cdv A' outer s H vs Q E hr h => ?_)
  obtain ⟨c, n, rfl, hn, k⟩ := h
  refine ⟨_, (pss_cons (ps_set (i := 2) sc__law_stream.nd rfl (Or.inl rfl) (pe_lst pa_nil))
        (pss_cons (ps_set (i := 3) sc__law_stream.nd rfl (Or.inl rfl) (pe_op SH.oAdd (pe_op SH.oMod (pv 0) pe_int) pe_int))
        (pss_cons (ps_for PassesOwn.never rfl (pi_range1 (by rfl) T.z_range (pa_cons (pv 1) pa_nil)) (pg_name (i := 4) sc__law_stream.nd rfl (Or.inl rfl)) (pss_cons (ps_set (i := 3) sc__law_stream.nd rfl (Or.inl rfl) (pe_op SH.oMod (pe_op SH.oAdd (pe_op SH.oAdd (pe_op SH.oMul (pv 3) (pv 3)) (pe_op SH.oMul pe_int (pv 4))) pe_int) pe_int))
        (pss_one (ps_expr (pe_bm PySem.F.plainAttrs_list PySem.F.slot_list_append PySem.F.type_list_append mt_append (pv 2) (pa_cons (pv 3) pa_nil))))))
        (pss_one (ps_ret (pv 2)))))), ?_⟩
  walk_at "begin"
  walk_at "rd"
  intro q hq
  walk_at "rd"
  refine for_it walk_range (fun j σ H' => (∃ ms : List Int, ms.length = j ∧ H' = upd H q (.lst (ms.map V.int))) ∧ ∃ (x : Int) (v4 : Option V), (0 ≤ x ∧ x < 4294967296) ∧ σ = [some (.int c), some (.int n), some (.ref q), some (.int x), v4]) ⟨⟨[], rfl, rfl⟩, _, _, ⟨by omega, by omega⟩, rfl⟩ (fun _ _ _ _ _ => True.intro) ?_ ?_
  · rintro j x σ H2 H3 hj ⟨⟨ms, hl', rfl⟩, x', v4, ⟨h0, h1⟩, rfl⟩ ⟨rfl, rfl⟩
    walk_at "rd"
    refine v_app (xs := ms.map V.int) upd_same (by rw [List.length_map]; omega) ?_
    walk_at "rd"
    refine ⟨⟨ms ++ [_], by simp [hl'], by rw [upd_upd, List.map_append]; rfl⟩, _, _, ⟨by omega, by omega⟩, rfl⟩
  · rintro σ H2 ⟨⟨ms, hl', rfl⟩, x', v4, _, rfl⟩
    walk_at "rd"
    exact k q _ ms hq ((Stp.refl _ _).new hq) upd_same (by omega)

def sp__law_numbers (K : PySem.W.Frag) (A : Ad) : Sp := fun vs H Q _ => ∃ (a : Addr) (ns : List Int), vs = [.ref a] ∧ (SqL K H a (ns.map V.int) ∧ ns.length ≤ 63) ∧
  ∀ (q : Addr) (H' : Hp) (ms : List Int), H q = none → Stp [] H H' → H' q = some (.lst (ms.map V.int)) → ms.length ≤ 250 → Q (.ref q) H'
theorem ok__law_numbers {P : Program} {w : World} {K : PySem.W.Frag} {mg : Str → Option Value} {base : Heap} {A : Ad} {f : Addr} {fd : FuncData} (F : Fun K "_law_numbers" "_law_numbers" s__law_numbers f fd) (T : Txt K mg A) (C__law_cell_at : SH.Cal P w K mg base CX0 1 "_law_cell_at" [] (sp__law_cell_at K A)) (C__law_stream : SH.Cal P w K mg base CX0 1 "_law_stream" [] (sp__law_stream K A)) : FnOk P w K mg base CX0 2 f fd ["_law_script"] (sp__law_numbers K A) := by
  refine F.ok sc__law_numbers (fun vs H Q E h => by obtain ⟨_, _, rfl, _⟩ := h; rfl) (fun cdv A' outer s H vs Q E hr h => ?_)
  obtain ⟨a, ns, rfl, ⟨hS, hl⟩, k⟩ := h
  refine ⟨_, (pss_cons (ps_if (pt_cmpR (SH.oEq hr.units) (pe_op SH.oMod (SH.pe_callF C__law_cell_at hr (by rfl) pass0 (pa_cons (pv 0) (pa_cons pe_int pa_nil))) pe_int) pe_int (nomark _)) (pss_one (ps_ret (SH.pe_callF C__law_stream hr (by rfl) pass0 (pa_cons (SH.pe_callF C__law_cell_at hr (by rfl) pass0 (pa_cons (pv 0) (pa_cons pe_int pa_nil))) (pa_cons (pe_op SH.oMod (pe_op SH.oDiv (SH.pe_callF C__law_cell_at hr (by rfl) pass0 (pa_cons (pv 0) (pa_cons pe_int pa_nil))) pe_int) pe_int) pa_nil))))) pss_nil)
        (pss_one (ps_ret (pe_slice sl_list (pv 0) (po_some pe_int) (po_some pe_int))))), ?_⟩
  walk_at "begin"
  walk_at "rd"
  refine ⟨a, ns, 0, rfl, hS, fun c0 => ?_⟩
  walk_at "rd"
  refine r_w (fun hc => ?_) fun hc => ?_
  · walk_at "rd"
    refine ⟨a, ns, 1, rfl, hS, fun c1 => ?_⟩
    walk_at "rd"
    refine ⟨a, ns, 0, rfl, hS, fun c2 => ?_⟩
    walk_at "rd"
    obtain ⟨m, hm⟩ : ∃ m : Nat, c2 / 4 % 251 = m := ⟨(c2 / 4 % 251).toNat, by omega⟩
    rw [hm]
    refine ⟨c1, m, rfl, by omega, fun q H1 ms hq S1 hQ hml => ?_⟩
    exact k q H1 ms hq S1 hQ (by omega)
  · walk_at "rd"
    intro q hq
    rw [cut_map]
    exact k q _ _ hq ((Stp.refl _ _).new hq) upd_same (Nat.le_trans (cutL_len _ _ _) (by omega))

def sp__law_row (K : PySem.W.Frag) (A : Ad) : Sp := fun vs H Q _ => ∃ (a : Addr) (ns : List Int) (c : Int), vs = [.ref a, .int c] ∧ (SqL K H a (ns.map V.int) ∧ ns.length ≤ 300) ∧
  ∀ (q : Addr) (H' : Hp) (row : List V) (ks : List Int), H q = none → Stp [] H H' → H' q = some (.lst row) → RowP H' row ks → ks.length = ns.length → Q (.ref q) H'
theorem ok__law_row {P : Program} {w : World} {K : PySem.W.Frag} {mg : Str → Option Value} {base : Heap} {A : Ad} {f : Addr} {fd : FuncData} (F : Fun K "_law_row" "_law_row" s__law_row f fd) (T : Txt K mg A)  : FnOk P w K mg base CX0 1 f fd ["_law_numbers_here", "_law_kind"] (sp__law_row K A) := by
  refine F.ok sc__law_row (fun vs H Q E h => by obtain ⟨_, _, _, rfl, _⟩ := h; rfl) (fun cdv A' outer s H vs Q E hr h => ?_)
  obtain ⟨a, ns, c, rfl, ⟨hS, hl⟩, k⟩ := h
  refine ⟨_, (pss_cons (ps_set (i := 2) sc__law_row.nd rfl (Or.inr rfl) (pe_ix SH.ixA (pe_lst (pa_cons pe_int (pa_cons pe_int (pa_cons pe_int (pa_cons (pe_op SH.oPow pe_int pe_int) pa_nil))))) (pe_op SH.oMod (pv 1) pe_int) (fun _ _ => rfl)))
        (pss_cons (ps_set (i := 3) sc__law_row.nd rfl (Or.inr rfl) (pe_lc (own := [("_law_number", 4)]) (g := (gName 4)) (tt := tYes) (by rfl) sc__law_row.nd (pi_list (pv 0)) (blkOk_by (own := [("_law_number", 4)]) (N := ["_law_numbers_here", "_law_kind", "_law_base", "_law_keys", "_law_number", "_law_k"]) (sc := defScope s__law_row) (by decide +kernel)) (fun _ _ _ _ _ => (pg_name (i := 4) sc__law_row.nd rfl (Or.inl rfl))) (fun _ _ _ _ _ => pts_nil) (fun _ _ _ _ _ => (pe_op SH.oSub (pe_op SH.oMod (pv 4) (pv 2)) (pe_op SH.oDiv (pv 2) pe_int)))))
        (pss_cons (ps_if (pt_cmpR (SH.oEq hr.units) (pe_op SH.oMod (pe_op SH.oDiv (pv 1) pe_int) pe_int) pe_int (nomark _)) (pss_one (ps_set (i := 3) sc__law_row.nd rfl (Or.inr rfl) (pe_callB cr_sortedI (by rfl) T.z_sorted (by decide +kernel) (pa_cons (pv 3) pa_nil)))) pss_nil)
        (pss_cons (ps_if (pt_cmpR (SH.oEq hr.units) (pe_op SH.oMod (pe_op SH.oDiv (pv 1) pe_int) pe_int) pe_int (nomark _)) (pss_one (ps_set (i := 3) sc__law_row.nd rfl (Or.inr rfl) (pe_callBK (cr_sortedRev (b := true)) (by rfl) T.z_sorted (by decide +kernel) (pa_cons (pv 3) pa_nil) (pk_cons pe_bl pk_nil)))) pss_nil)
        (pss_one (ps_ret (pe_lc (own := [("_law_k", 5)]) (g := (gName 5)) (tt := tYes) (by rfl) sc__law_row.nd (pi_range1 (by rfl) T.z_range (pa_cons (pe_callB SH.cLen (by rfl) T.z_len (by decide +kernel) (pa_cons (pv 3) pa_nil)) pa_nil)) (blkOk_by (own := [("_law_k", 5)]) (N := ["_law_numbers_here", "_law_kind", "_law_base", "_law_keys", "_law_number", "_law_k"]) (sc := defScope s__law_row) (by decide +kernel)) (fun _ _ _ _ _ => (pg_name (i := 5) sc__law_row.nd rfl (Or.inl rfl))) (fun _ _ _ _ _ => pts_nil) (fun _ _ _ _ _ => (pe_tup (pa_cons (pe_ix (SH.ixK SH.aIx K SH.ixA) (pv 3) (pv 5) (fun _ _ => rfl)) (pa_cons (pv 5) pa_nil))))))))))), ?_⟩
  walk_at "begin"
  walk_at "rd"
  intro wl hwl
  walk_at "rd"
  refine v_ixMod (m := 4) (by walk_at "sq") rfl (by decide) fun v hv => ?_
  have hv' : ∃ m : Int, v = .int m ∧ 0 < m := by
    rcases List.mem_cons.mp hv with rfl | hv
    · exact ⟨_, rfl, by decide⟩
    rcases List.mem_cons.mp hv with rfl | hv
    · exact ⟨_, rfl, by decide⟩
    rcases List.mem_cons.mp hv with rfl | hv
    · exact ⟨_, rfl, by decide⟩
    rw [List.mem_singleton] at hv
    exact ⟨_, hv, big60_pos⟩
  obtain ⟨base, rfl, hw⟩ := hv'
  clear hv
  walk_at "rd"
  intro D hD
  have hS1 : SqL K (upd H wl (.lst [.int 2, .int 7, .int 300, .int big60])) a (ns.map V.int) := sql_upd hS hwl
  have hD0 : H D = none := (upd_free hD).1
  refine lc_it (walk_list (xs := ns.map V.int)) (fun j H' => Stp [] H H' ∧ SqL K H' a (ns.map V.int) ∧ ∃ ms : List Int, ms.length = j ∧ H' D = some (.lst (ms.map V.int))) ⟨((Stp.refl [] H).new hwl).new hD, sql_upd hS1 hD, [], rfl, upd_same⟩ (fun j H' _ z => z.2.1) ?_ ?_
  · rintro j x H2 H3 hj ⟨S, hq, ms, hml, hL⟩ ⟨rfl, hx⟩
    obtain ⟨n, hn, rfl⟩ := map_at hx
    walk_at "rd"
    have S2 := S.putN (o := .lst (ms.map V.int ++ [.int (n % base - base / 2)])) hD0
    exact ⟨_, hL, Nat.lt_of_le_of_lt (m := 300) (by rw [List.length_map] at hj ⊢; omega) (by decide), S2, S2.sql0 hS, ms ++ [_], by simp [hml], by rw [upd_same, List.map_append]; rfl⟩
  rintro H1 ⟨S1, _, ks, hkl, hL⟩
  rw [List.length_map] at hkl
  clear hD hwl hS1
  walk_at "rd"
  refine r_wJ (W := fun σ H' => Stp [] H H' ∧ ∃ (D : Addr) (ks : List Int), ks.length = ns.length ∧ H' D = some (.lst (ks.map V.int)) ∧ σ = [some (.ref a), some (.int c), some (.int base), some (.ref D), none, none]) ?_ (fun hc N hN => ?_) (fun hc N hN => ?_)
  · clear hkl hL S1 hD0 ks D
    rintro σ H2 ⟨S2, D, ks, hkl, hL, rfl⟩
    dsimp only
    walk_at "rd"
    refine r_wJ (W := fun σ H' => Stp [] H H' ∧ ∃ (D : Addr) (ks : List Int), ks.length = ns.length ∧ H' D = some (.lst (ks.map V.int)) ∧ σ = [some (.ref a), some (.int c), some (.int base), some (.ref D), none, none]) ?_ (fun hc N hN => ?_) (fun hc N hN => ?_)
    · clear hkl hL S2 ks D
      rintro σ H3 ⟨S3, D, ks, hkl, hL, rfl⟩
      dsimp only
      walk_at "rd"
      intro E1 hE1
      refine lc_it walk_range (fun j H' => Stp [] H3 H' ∧ ∃ row, row.length = j ∧ RowP H' row (ks.take j) ∧ H' E1 = some (.lst row)) ⟨(Stp.refl _ _).new hE1, [], rfl, ⟨rfl, fun i v e => by cases e⟩, upd_same⟩ (fun j H' _ z => True.intro) ?_ ?_
      · rintro j x H4 H5 hj ⟨S, row, hrl, hrow, hL4⟩ ⟨rfl, rfl⟩
        have hj' : j < ks.length := by omega
        have hK5 := S.keep0 hL
        walk_at "rd"
        refine v_ixE (n := j) (SqL.of hK5) (by omega) hj' ?_
        walk_at "rd"
        simp only [Int.zero_add]
        intro t ht
        have htD : t ≠ E1 := (ne_of_none hL4 ht).symm
        have S6 : Stp [E1] H5 (upd (upd H5 t (.tup [.int (getE ks j), .int (j : Nat)])) E1 (.lst (row ++ [.ref t]))) := ((Stp.refl [E1] H5).new ht).putL (by simp) (upd_old hL4 ht)
        refine ⟨_, upd_old hL4 ht, Nat.lt_of_le_of_lt (m := 300) (by omega) (by decide), (S.new ht).putN hE1, row ++ [.ref t], by simp [hrl], ?_, upd_same⟩
        have e : ks.take (j + 1) = ks.take j ++ [getE ks j] := by rw [List.take_succ, List.getElem?_eq_getElem hj']; simp [getE, hj']
        rw [e]
        refine RowP.app (hrow.stp S6) ?_
        rw [upd_ne htD, upd_same, hrl]
      rintro H4 ⟨S4, row, hrl, hrow, hL4⟩
      have hn : (ks.length : Int).toNat = ks.length := by omega
      rw [hn, List.take_length] at hrow
      walk_at "rd"
      exact k E1 _ row ks (S3.dom _ hE1) (S3.trans S4) hL4 hrow hkl
    · walk_at "rd"
      refine ⟨D, ks, rfl, rfl, SqL.of hL, fun ps q hpp _ hq => ?_⟩
      walk_at "rd"
      exact hN _ _ ⟨S2.new hq, q, ps, by rw [hpp.length_eq]; exact hkl, upd_same, rfl⟩
    · walk_at "rd"
      exact hN _ _ ⟨S2, D, ks, hkl, hL, rfl⟩
  · walk_at "rd"
    refine v_sortI (SqL.of hL) fun ps q hpp _ hq => ?_
    walk_at "rd"
    exact hN _ _ ⟨S1.new hq, q, ps, by rw [hpp.length_eq]; exact hkl, upd_same, rfl⟩
  · walk_at "rd"
    exact hN _ _ ⟨S1, D, ks, hkl, hL, rfl⟩
/-! ### orders by keys -/
/-- o stands ahead of p -/
def Ahd (ks : List Int) (o p : Nat) : Prop := getE ks o < getE ks p ∨ (getE ks o = getE ks p ∧ o < p)
instance (ks : List Int) (o p : Nat) : Decidable (Ahd ks o p) := inferInstanceAs (Decidable (_ ∨ _))
theorem ahd_told {ks : List Int} {o p : Nat} (h : o ≠ p) : (decide (getE ks (max o p) < getE ks (min o p)) = decide (p < o)) ↔ Ahd ks o p := by
  unfold Ahd
  by_cases e : p < o
  · rw [Nat.max_eq_left (by omega), Nat.min_eq_right (by omega), decide_eq_true e]
    simp only [decide_eq_true_eq]
    omega
  · rw [Nat.max_eq_right (by omega), Nat.min_eq_left (by omega), decide_eq_false e]
    simp only [decide_eq_false_iff_not]
    omega
theorem Ahd.trans {ks : List Int} {a b c : Nat} (h : Ahd ks a b) (k : Ahd ks b c) : Ahd ks a c := by unfold Ahd at *; omega
theorem Ahd.asym {ks : List Int} {a b : Nat} (h : Ahd ks a b) : ¬ Ahd ks b a := by unfold Ahd at *; omega
theorem Ahd.tot {ks : List Int} {a b : Nat} (h : a ≠ b) : Ahd ks a b ∨ Ahd ks b a := by unfold Ahd; omega
theorem not_eq_ite {a b : Bool} (h : a = !b) : ¬ a = b := by cases a <;> cases b <;> simp_all
/-! ### odds and ends of laws with pairs -/
theorem tabs_stp {T : List NTab} {H H' : Hp} (h : TabsN T H) (S : Stp [] H H') : TabsN T H' := fun p hp => (h p hp).ext fun b o e => S.keep0 e
theorem ext_lst {H H' : Hp} {b : Addr} {xs : List V} (e : ExtN H H') (h : H b = some (.lst xs)) : H' b = some (.lst xs) := e _ _ h (by intro ps z; cases z)
theorem ext_tup {H H' : Hp} {b : Addr} {xs : List V} (e : ExtN H H') (h : H b = some (.tup xs)) : H' b = some (.tup xs) := e _ _ h (by intro ps z; cases z)
theorem RowP.ext {H H' : Hp} {row : List V} {ks : List Int} (h : RowP H row ks) (e : ExtN H H') : RowP H' row ks := ⟨h.1, fun i v z => by obtain ⟨t, h1, h2⟩ := h.2 i v z; exact ⟨t, h1, ext_tup e h2⟩⟩
def kOf (H : Hp) (x : V) : Int × Int := match x with
  | .ref t => (match H t with
    | some (.tup [.int a, .int b]) => (a, b)
    | _ => (0, 0))
  | _ => (0, 0)
theorem kOf_at {H : Hp} {t : Addr} {a b : Int} (h : H t = some (.tup [.int a, .int b])) : kOf H (.ref t) = (a, b) := by simp [kOf, h]
theorem lexB_false {a b c d : Int} (h : SrtO.lexB (a, b) (c, d) = false) : c < a ∨ (c = a ∧ d ≤ b) := by
  have : ¬ (a < c ∨ (a = c ∧ b < d)) := fun z => by
    rw [SrtO.lexB_iff.mpr z] at h
    cases h
  omega
/-- an order that was sorted: what stands ahead of a place is what stands ahead in it -/
theorem sorted_mono {ks : List Int} {H : Hp} {zs : List V} {ord : List Nat} {place : Nat} (hs : SrtO.Srtd (ltP (kOf H)) zs) (ho : ∀ (i o : Nat), ord[i]? = some o → ∃ t, zs[i]? = some (.ref t) ∧ H t = some (.tup [.int (getE ks o), .int (o : Nat)])) :
    ∀ (i j : Nat) (a b : Nat), i < j → ord[i]? = some a → ord[j]? = some b → Ahd ks b place → Ahd ks a place := by
  intro i j a b hij ha hb h
  obtain ⟨t, e1, h1⟩ := ho i a ha
  obtain ⟨u, e2, h2⟩ := ho j b hb
  obtain ⟨hi, e1⟩ := List.getElem?_eq_some_iff.mp e1
  obtain ⟨hj, e2⟩ := List.getElem?_eq_some_iff.mp e2
  have := List.pairwise_iff_getElem.mp hs i j hi hj hij
  rw [e1, e2] at this
  unfold ltP at this
  rw [kOf_at h1, kOf_at h2] at this
  have := lexB_false this
  unfold Ahd at h ⊢
  omega
theorem lexLt2 {a b c d : Int} : HT.lexLt [a, b] [c, d] = decide (a < c ∨ (a = c ∧ b < d)) := by
  simp only [HT.lexLt]
  by_cases e : a = c
  · rw [if_pos e]
    by_cases e2 : b = d
    · rw [if_pos e2]; simp [e, e2]
    · rw [if_neg e2]; simp [e]
  · rw [if_neg e]; simp [e]
theorem rd_extN {H H' : Hp} {a : Addr} {u : HO} (s : ExtN H H') (h : Rd H a u) (n : ∀ ps, u ≠ .tbl ps) : Rd H' a u := by
  rcases h with h | ⟨o, h⟩
  · exact .inl (s _ _ h n)
  · exact .inr ⟨o, s _ _ h (by intro ps z; cases z)⟩
theorem sql_extN {K : PySem.W.Frag} {H H' : Hp} {a : Addr} {xs : List V} (s : ExtN H H') (h : SqL K H a xs) : SqL K H' a xs := by
  rcases h with h | h
  · exact .inl (rd_extN s h (by intro ps z; cases z))
  · exact .inr h
theorem sqt_extN {K : PySem.W.Frag} {H H' : Hp} {a : Addr} {xs : List V} (s : ExtN H H') (h : SqT K H a xs) : SqT K H' a xs := by
  rcases h with h | h
  · exact .inl (rd_extN s h (by intro ps z; cases z))
  · exact .inr h
mutual
theorem dp_extN {K : PySem.W.Frag} {H H' : Hp} (S : ExtN H H') : ∀ (d : PyData) (v : V), Dp K H v d → Dp K H' v d
  | .none, _, h => by cases h; exact .non
  | .bool _, _, h => by cases h; exact .bl _
  | .int _, _, h => by cases h; exact .int _
  | .str _, _, h => by cases h; exact .str _
  | .list ds, _, h => by
    cases h with
    | lst hs ha => exact .lst (sql_extN S hs) (dp_extNs S ds _ ha)
  | .tuple ds, _, h => by
    cases h with
    | tup hs ha => exact .tup (sqt_extN S hs) (dp_extNs S ds _ ha)
  | .dict _, _, h => by cases h
theorem dp_extNs {K : PySem.W.Frag} {H H' : Hp} (S : ExtN H H') : ∀ (ds : List PyData) (vs : List V), DpAll K H vs ds → DpAll K H' vs ds
  | [], _, h => by cases h; exact .nil
  | d :: ds, _, h => by
    cases h with
    | cons h1 h2 => exact .cons (dp_extN S d _ h1) (dp_extNs S ds _ h2)
end
theorem isl_extN {K : PySem.W.Frag} {H H' : Hp} {α : Type} [Enc α] {vs : List V} {xs : List α} (S : ExtN H H') (h : IsL K H vs xs) : IsL K H' vs xs := dp_extNs S _ _ h
theorem sql_or {K : PySem.W.Frag} {H : Hp} {a : Addr} {xs : List V} (h : SqL K H a xs) : ∃ ax : List Addr, (∀ x ∈ ax, H x ≠ none) ∧ (a ∈ ax ∨ ∀ H', SqL K H' a xs) := by
  rcases h with (h | ⟨o, h⟩) | h
  · exact ⟨[a], fun x hx => by rw [List.mem_singleton] at hx; subst hx; rw [h]; simp, .inl (by simp)⟩
  · exact ⟨[a], fun x hx => by rw [List.mem_singleton] at hx; subst hx; rw [h]; simp, .inl (by simp)⟩
  · exact ⟨[], by simp, .inr fun H' => .inr h⟩
/-! ### a row of pairs, sorted: its places in order -/
/-- ord is all places, each one ahead of the next ones -/
structure OrdOf (ks : List Int) (ord : List Nat) : Prop where
  perm : ord.Perm (List.range ks.length)
  pw : ord.Pairwise (Ahd ks)
theorem OrdOf.len {ks : List Int} {ord : List Nat} (h : OrdOf ks ord) : ord.length = ks.length := by simpa using h.perm.length_eq
theorem OrdOf.lt {ks : List Int} {ord : List Nat} (h : OrdOf ks ord) {o : Nat} (ho : o ∈ ord) : o < ks.length := by simpa using h.perm.mem_iff.mp ho
theorem OrdOf.nodup {ks : List Int} {ord : List Nat} (h : OrdOf ks ord) : ord.Nodup := h.perm.nodup_iff.mpr List.nodup_range
theorem sorted_ord {ks : List Int} {H : Hp} {row zs : List V} {ord : List Nat} (hr : RowP H row ks) (hs : SrtO.Srtd (ltP (kOf H)) zs) (hp : zs.Perm row) (hl : ord.length = zs.length)
    (ho : ∀ (i o : Nat), ord[i]? = some o → ∃ t, zs[i]? = some (.ref t) ∧ H t = some (.tup [.int (getE ks o), .int (o : Nat)])) : OrdOf ks ord := by
  let g : V → Nat := fun x => (kOf H x).2.toNat
  have e1 : ord = zs.map g := by
    apply List.ext_getElem? ; intro i
    by_cases hi : i < ord.length
    · obtain ⟨t, h1, h2⟩ := ho i _ (List.getElem?_eq_getElem hi)
      rw [List.getElem?_eq_getElem hi, List.getElem?_map, h1, Option.map_some]
      show some _ = some (kOf H (.ref t)).2.toNat
      rw [kOf_at h2]
      simp
    · rw [List.getElem?_eq_none (by omega), List.getElem?_eq_none (by rw [List.length_map]; omega)]
  have e2 : row.map g = List.range ks.length := by
    apply List.ext_getElem? ; intro i
    by_cases hi : i < row.length
    · obtain ⟨t, h1, h2⟩ := hr.2 i _ (List.getElem?_eq_getElem hi)
      rw [List.getElem?_map, List.getElem?_eq_getElem hi, Option.map_some, h1, List.getElem?_range (by rw [← hr.1]; exact hi)]
      show some (kOf H (.ref t)).2.toNat = some i
      rw [kOf_at h2]
      simp
    · rw [List.getElem?_eq_none (by rw [List.length_map]; omega), List.getElem?_eq_none (by rw [List.length_range, ← hr.1]; omega)]
  have hpm : ord.Perm (List.range ks.length) := by rw [e1, ← e2]; exact hp.map g
  refine ⟨hpm, ?_⟩
  have hnd : ord.Nodup := hpm.nodup_iff.mpr List.nodup_range
  refine List.pairwise_iff_getElem.mpr fun i j hi hj hij => ?_
  obtain ⟨t, h1, h2⟩ := ho i _ (List.getElem?_eq_getElem hi)
  obtain ⟨u, h3, h4⟩ := ho j _ (List.getElem?_eq_getElem hj)
  obtain ⟨hi', h1⟩ := List.getElem?_eq_some_iff.mp h1
  obtain ⟨hj', h3⟩ := List.getElem?_eq_some_iff.mp h3
  have := List.pairwise_iff_getElem.mp hs i j hi' hj' hij
  rw [h1, h3] at this
  unfold ltP at this
  rw [kOf_at h2, kOf_at h4] at this
  have hb := lexB_false this
  have hne : ord[i] ≠ ord[j] := List.pairwise_iff_getElem.mp hnd i j hi hj hij
  unfold Ahd
  omega
theorem OrdOf.others {ks : List Int} {ord : List Nat} {spot place : Nat} (h : OrdOf ks ord) (hp : ord[spot]? = some place) :
    (ord.take spot ++ ord.drop (spot + 1)).length + 1 = ks.length ∧ (∀ o ∈ ord.take spot ++ ord.drop (spot + 1), o < ks.length ∧ o ≠ place) ∧ (∀ (i o : Nat), (ord.take spot ++ ord.drop (spot + 1))[i]? = some o → (Ahd ks o place ↔ i < spot)) := by
  have hl := h.len
  obtain ⟨hs, hp'⟩ := List.getElem?_eq_some_iff.mp hp
  have hlen : (ord.take spot ++ ord.drop (spot + 1)).length + 1 = ks.length := by rw [List.length_append, List.length_take, List.length_drop]; omega
  have key : ∀ (i o : Nat), (ord.take spot ++ ord.drop (spot + 1))[i]? = some o → (i < spot ∧ ord[i]? = some o) ∨ (spot ≤ i ∧ ord[i + 1]? = some o) := fun i o e => by
    by_cases hi : i < spot
    · rw [List.getElem?_append_left (by rw [List.length_take]; omega), List.getElem?_take_of_lt hi] at e
      exact .inl ⟨hi, e⟩
    · rw [List.getElem?_append_right (by rw [List.length_take]; omega), List.length_take, Nat.min_eq_left (by omega), List.getElem?_drop] at e
      exact .inr ⟨by omega, by rw [← e]; congr 1; omega⟩
  have key2 : ∀ (i o : Nat), (ord.take spot ++ ord.drop (spot + 1))[i]? = some o → (i < spot ∧ Ahd ks o place) ∨ (spot ≤ i ∧ Ahd ks place o) := fun i o e => by
    rcases key i o e with ⟨a, b⟩ | ⟨a, b⟩
    · obtain ⟨hi, b'⟩ := List.getElem?_eq_some_iff.mp b
      have := List.pairwise_iff_getElem.mp h.pw i spot hi hs a
      rw [b', hp'] at this
      exact .inl ⟨a, this⟩
    · obtain ⟨hi, b'⟩ := List.getElem?_eq_some_iff.mp b
      have := List.pairwise_iff_getElem.mp h.pw spot (i + 1) hs hi (by omega)
      rw [b', hp'] at this
      exact .inr ⟨a, this⟩
  refine ⟨hlen, fun o ho => ?_, fun i o e => ?_⟩
  · obtain ⟨i, hi, e⟩ := List.getElem_of_mem ho
    have e' : (ord.take spot ++ ord.drop (spot + 1))[i]? = some o := by rw [← e]; exact List.getElem?_eq_getElem hi
    refine ⟨?_, ?_⟩
    · rcases key i o e' with ⟨_, b⟩ | ⟨_, b⟩
      · exact h.lt (List.mem_of_getElem? b)
      · exact h.lt (List.mem_of_getElem? b)
    · rintro rfl
      rcases key2 i o e' with ⟨_, b⟩ | ⟨_, b⟩
      · exact b.asym b
      · exact b.asym b
  · rcases key2 i o e with ⟨a, b⟩ | ⟨a, b⟩
    · exact ⟨fun _ => a, fun _ => b⟩
    · exact ⟨fun z => (b.asym z).elim, fun z => by omega⟩
theorem ahE_ahd {ks : List Int} {u v : Nat} (hne : u ≠ v) (h : (ahE u v).c = decide (getE ks (ahE u v).a < getE ks (ahE u v).b)) : Ahd ks u v := (ahd_told hne).mp h.symm
theorem ahd_ahE {ks : List Int} {u v : Nat} (hne : u ≠ v) (h : Ahd ks u v) : decide (getE ks (max u v) < getE ks (min u v)) = decide (v < u) := (ahd_told hne).mpr h
theorem Ahd.ne {ks : List Int} {u v : Nat} (h : Ahd ks u v) : u ≠ v := by rintro rfl; exact h.asym h
/-! ### joined by keys: the order -/
theorem ahd_pw_uniq {ks : List Int} {a b : List Nat} (ha : a.Pairwise (Ahd ks)) (hb : b.Pairwise (Ahd ks)) (h : a.Perm b) : a = b := List.Perm.eq_of_pairwise (fun _ _ _ _ x y => (x.asym y).elim) ha hb h
theorem JN.sorted {ks : List Int} {L : Bool → List Nat} (hd : ∀ x ∈ L false, ∀ y ∈ L true, x ≠ y) (hs : ∀ b, (L b).Pairwise (Ahd ks)) {p : Bool → Nat} {last : Bool} {wins : Nat} {es : List Ent} {res : List Nat} (h : JN L p last wins es res)
    (hT : ∀ e ∈ es, e.c = decide (getE ks e.a < getE ks e.b)) : res.Pairwise (Ahd ks) := by
  refine ch_pw (R := Ahd ks) (fun a b c h1 h2 => Ahd.trans h1 h2) ((h.chain hd).mono fun u v hn => ?_)
  rcases hn with ⟨b, i, hu, hv⟩ | he
  · exact ch_at (pw_ch (hs b)) i u v hu hv
  · have hg : min u v < max u v := h.gt hd _ he
    exact ahE_ahd (by omega) (hT _ he)
theorem Split.swap {ord : List Nat} {sl : Bool → List Nat} (h : Split ord sl) : Split ord fun b => sl !b := ⟨fun b => h.sub _, List.perm_append_comm.trans h.perm⟩
theorem LR_eq {sl : Bool → List Nat} : LR (sl false) (sl true) = sl := by funext b; cases b <;> rfl
theorem JN.order {ks : List Int} {ord : List Nat} {sl : Bool → List Nat} (hO : OrdOf ks ord) (hsp : Split ord sl) {last : Bool} {wins : Nat} {es : List Ent} {res : List Nat} (h : JN sl (fun _ => 0) last wins es res)
    (hT : ∀ e ∈ es, e.c = decide (getE ks e.a < getE ks e.b)) : res = ord :=
  ahd_pw_uniq (h.sorted (hsp.dis hO.nodup) (fun b => hO.pw.sublist (hsp.sub b)) hT) hO.pw (h.perm.trans hsp.perm)
/-- each two neighbours were asked about -/
theorem JN.shown {ks : List Int} {ord : List Nat} {sl : Bool → List Nat} (hO : OrdOf ks ord) (hsp : Split ord sl) {last : Bool} {wins : Nat} {es : List Ent} {res : List Nat} (h : JN sl (fun _ => 0) last wins es res)
    (hT : ∀ e ∈ es, e.c = decide (getE ks e.a < getE ks e.b)) {log : List Ent} (hlog : ∀ (b : Bool) (i u v : Nat), (sl b)[i]? = some u → (sl b)[i + 1]? = some v → ahE u v ∈ log) (i u v : Nat) (hu : ord[i]? = some u) (hv : ord[i + 1]? = some v) :
    (∃ e ∈ log ++ es, e.a = max u v ∧ e.b = min u v) ∧ decide (getE ks (max u v) < getE ks (min u v)) = decide (v < u) := by
  have e := h.order hO hsp hT
  have hA : Ahd ks u v := ch_at (pw_ch hO.pw) i u v hu hv
  subst e
  refine ⟨?_, ahd_ahE hA.ne hA⟩
  rcases ch_at (h.chain (hsp.dis hO.nodup)) i u v hu hv with ⟨b, j, h1, h2⟩ | he
  · exact ⟨ahE u v, by simp [hlog b j u v h1 h2], rfl, rfl⟩
  · exact ⟨ahE u v, by simp [he], rfl, rfl⟩
def Out (L : Bool → List Nat) (p : Bool → Nat) : Prop := (L false).length ≤ p false ∨ (L true).length ≤ p true
theorem Out.of {L : Bool → List Nat} {p : Bool → Nat} (s : Bool) (h : (L s).length ≤ p s) : Out L p := by cases s; exact .inl h; exact .inr h
theorem Out.side {L : Bool → List Nat} {p : Bool → Nat} (h : Out L p) (s : Bool) (hs : p s < (L s).length) : (L !s).length ≤ p !s := by
  cases s
  · exact h.resolve_left (by omega)
  · exact h.resolve_right (by omega)
theorem JN.out {L : Bool → List Nat} {p : Bool → Nat} {last : Bool} {wins : Nat} {es : List Ent} {res : List Nat} (h : JN L p last wins es res) (ho : Out L p) : es = [] ∧ res = (L false).drop (p false) ++ (L true).drop (p true) := by
  have key : ∀ (s : Bool) (x y : Nat), (L s)[p s]? = some x → (L !s)[p !s]? = some y → False := fun s x y hx hy => by
    have h1 := (List.getElem?_eq_some_iff.mp hx).1
    have h2 := (List.getElem?_eq_some_iff.mp hy).1
    have := ho.side s h1
    omega
  cases h with
  | done h => exact ⟨rfl, rfl⟩
  | win s hx hy h k => exact (key s _ _ hx hy).elim
  | leap s hx hy h h2 hL h3 k => exact (key s _ _ hx hy).elim
  | leapA s hx hy h h2 hL h3 k => exact (key s _ _ hx hy).elim
/-! ### by a function that doesn't look at the log, the asks are what they are -/
theorem HB.uniq {f : Nat → Nat → Bool} {ord : List Nat} {place lo high r r' : Nat} {es es' : List Ent} (h : HB ord place lo high es r) (h' : HB ord place lo high es' r') (hT : ∀ e ∈ es, e.c = f e.a e.b) (hT' : ∀ e ∈ es', e.c = f e.a e.b) : es = es' ∧ r = r' := by
  induction h generalizing es' with
  | done low =>
    cases h' with
    | done => exact ⟨rfl, rfl⟩
    | up h _ _ => omega
    | down h _ _ => omega
  | up h ho k ih =>
    have t1 := hT _ (List.mem_cons_self ..)
    cases h' with
    | done => omega
    | up h2 ho2 k2 =>
      rw [ho] at ho2; cases ho2
      obtain ⟨rfl, rfl⟩ := ih k2 (fun e he => hT e (List.mem_cons_of_mem _ he)) fun e he => hT' e (List.mem_cons_of_mem _ he)
      exact ⟨rfl, rfl⟩
    | down h2 ho2 k2 =>
      rw [ho] at ho2; cases ho2
      have t2 := hT' _ (List.mem_cons_self ..)
      have : (!(_ : Bool)) = _ := t2.trans t1.symm
      exact absurd this (by simp)
  | down h ho k ih =>
    have t1 := hT _ (List.mem_cons_self ..)
    cases h' with
    | done => omega
    | down h2 ho2 k2 =>
      rw [ho] at ho2; cases ho2
      obtain ⟨rfl, rfl⟩ := ih k2 (fun e he => hT e (List.mem_cons_of_mem _ he)) fun e he => hT' e (List.mem_cons_of_mem _ he)
      exact ⟨rfl, rfl⟩
    | up h2 ho2 k2 =>
      rw [ho] at ho2; cases ho2
      have t2 := hT' _ (List.mem_cons_self ..)
      have : (!(_ : Bool)) = _ := t1.trans t2.symm
      exact absurd this (by simp)
theorem LP.uniq {f : Nat → Nat → Bool} {ord : List Nat} {place first lo step r r' : Nat} {es es' : List Ent} (h : LP ord place first lo step es r) (h' : LP ord place first lo step es' r') (hT : ∀ e ∈ es, e.c = f e.a e.b) (hT' : ∀ e ∈ es', e.c = f e.a e.b) : es = es' ∧ r = r' := by
  induction h generalizing es' r' with
  | more h ho k ih =>
    have t1 := hT _ (List.mem_cons_self ..)
    cases h' with
    | more h2 ho2 k2 =>
      rw [ho] at ho2; cases ho2
      obtain ⟨rfl, rfl⟩ := ih k2 (fun e he => hT e (List.mem_cons_of_mem _ he)) fun e he => hT' e (List.mem_cons_of_mem _ he)
      exact ⟨rfl, rfl⟩
    | stop h2 ho2 k2 =>
      rw [ho] at ho2; cases ho2
      have t2 := hT' _ (List.mem_cons_self ..)
      have : (!(_ : Bool)) = _ := t2.trans t1.symm
      exact absurd this (by simp)
    | over h2 _ => omega
  | stop h ho k =>
    have t1 := hT _ (List.mem_cons_self ..)
    cases h' with
    | more h2 ho2 k2 =>
      rw [ho] at ho2; cases ho2
      have t2 := hT' _ (List.mem_cons_self ..)
      have : (!(_ : Bool)) = _ := t1.trans t2.symm
      exact absurd this (by simp)
    | stop h2 ho2 k2 =>
      rw [ho] at ho2; cases ho2
      obtain ⟨rfl, rfl⟩ := k.uniq k2 (fun e he => hT e (List.mem_cons_of_mem _ he)) fun e he => hT' e (List.mem_cons_of_mem _ he)
      exact ⟨rfl, rfl⟩
    | over h2 _ => omega
  | over h k =>
    cases h' with
    | more h2 _ _ => omega
    | stop h2 _ _ => omega
    | over _ k2 =>
      obtain ⟨rfl, rfl⟩ := k.uniq k2 hT hT'
      exact ⟨rfl, rfl⟩
theorem side_uniq {f : Nat → Nat → Bool} {L : Bool → List Nat} (hd : ∀ x ∈ L false, ∀ y ∈ L true, x ≠ y) {p : Bool → Nat} {s s' : Bool} {x y x' y' : Nat} (hx : (L s)[p s]? = some x) (hy : (L !s)[p !s]? = some y) (hx' : (L s')[p s']? = some x') (hy' : (L !s')[p !s']? = some y')
    (e1 : (ahE x y).c = f (ahE x y).a (ahE x y).b) (e2 : (ahE x' y').c = f (ahE x' y').a (ahE x' y').b) : s = s' ∧ x = x' ∧ y = y' := by
  by_cases h : s = s'
  · subst h
    rw [hx] at hx'; rw [hy] at hy'
    cases hx'; cases hy'
    exact ⟨rfl, rfl, rfl⟩
  · exfalso
    obtain rfl : s' = !s := by cases s <;> cases s' <;> simp_all
    rw [Bool.not_not] at hy'
    rw [hx] at hy'; rw [hy] at hx'
    cases hy'; cases hx'
    have hne : x ≠ y := by
      cases s
      · exact hd x (List.mem_of_getElem? hx) y (List.mem_of_getElem? hy)
      · exact (hd y (List.mem_of_getElem? hy) x (List.mem_of_getElem? hx)).symm
    simp only [ahE] at e1 e2
    rw [Nat.max_comm, Nat.min_comm] at e2
    have e3 := e1.trans e2.symm
    have e4 := decide_eq_decide.mp e3
    omega
theorem not_out {L : Bool → List Nat} {p : Bool → Nat} {s : Bool} {x y : Nat} (hx : (L s)[p s]? = some x) (hy : (L !s)[p !s]? = some y) : ¬ ((L false).length ≤ p false ∨ (L true).length ≤ p true) := fun h => by
  have h1 := (List.getElem?_eq_some_iff.mp hx).1
  have h2 := (List.getElem?_eq_some_iff.mp hy).1
  cases s
  · simp only [Bool.not_false] at h2; omega
  · simp only [Bool.not_true] at h2; omega
theorem JN.uniq {f : Nat → Nat → Bool} {L : Bool → List Nat} (hd : ∀ x ∈ L false, ∀ y ∈ L true, x ≠ y) {p : Bool → Nat} {last : Bool} {wins : Nat} {es es' : List Ent} {res res' : List Nat} (h : JN L p last wins es res) (h' : JN L p last wins es' res') (hT : ∀ e ∈ es, e.c = f e.a e.b) (hT' : ∀ e ∈ es', e.c = f e.a e.b) : es = es' ∧ res = res' := by
  induction h generalizing es' res' with
  | done h =>
    obtain ⟨rfl, rfl⟩ := h'.out h
    exact ⟨rfl, rfl⟩
  | win s hx hy h k ih =>
    have t1 := hT _ (List.mem_cons_self ..)
    generalize hp : p = p' at h'
    cases h' with
    | done h2 => subst hp; exact absurd h2 (not_out hx hy)
    | win s' hx' hy' h2 k2 =>
      subst hp
      obtain ⟨rfl, rfl, rfl⟩ := side_uniq hd hx hy hx' hy' t1 (hT' _ (List.mem_cons_self ..))
      obtain ⟨rfl, rfl⟩ := ih k2 (fun e he => hT e (List.mem_cons_of_mem _ he)) fun e he => hT' e (List.mem_cons_of_mem _ he)
      exact ⟨rfl, rfl⟩
    | leap s' hx' hy' h2 h3 hL h4 k2 =>
      subst hp
      obtain ⟨rfl, rfl, rfl⟩ := side_uniq hd hx hy hx' hy' t1 (hT' _ (List.mem_cons_self ..))
      exact absurd ⟨h2, h3⟩ h
    | leapA s' hx' hy' h2 h3 hL h4 k2 =>
      subst hp
      obtain ⟨rfl, rfl, rfl⟩ := side_uniq hd hx hy hx' hy' t1 (hT' _ (List.mem_cons_self ..))
      exact absurd ⟨h2, h3⟩ h
  | leap s hx hy h h2 hL h3 k ih =>
    have t1 := hT _ (List.mem_cons_self ..)
    generalize hp : p = p' at h'
    cases h' with
    | done h2 => subst hp; exact absurd h2 (not_out hx hy)
    | win s' hx' hy' h4 k2 =>
      subst hp
      obtain ⟨rfl, rfl, rfl⟩ := side_uniq hd hx hy hx' hy' t1 (hT' _ (List.mem_cons_self ..))
      exact absurd ⟨h, h2⟩ h4
    | leap s' hx' hy' h4 h5 hL' h6 k2 =>
      subst hp
      obtain ⟨rfl, rfl, rfl⟩ := side_uniq hd hx hy hx' hy' t1 (hT' _ (List.mem_cons_self ..))
      obtain ⟨rfl, rfl⟩ := hL.uniq hL' (fun e he => hT e (by simp [he])) fun e he => hT' e (by simp [he])
      obtain ⟨rfl, rfl⟩ := ih k2 (fun e he => hT e (by simp [he])) fun e he => hT' e (by simp [he])
      exact ⟨rfl, rfl⟩
    | leapA s' hx' hy' h4 h5 hL' h6 k2 =>
      subst hp
      obtain ⟨rfl, rfl, rfl⟩ := side_uniq hd hx hy hx' hy' t1 (hT' _ (List.mem_cons_self ..))
      obtain ⟨rfl, rfl⟩ := hL.uniq hL' (fun e he => hT e (by simp [he])) fun e he => hT' e (by simp [he])
      exact absurd h3 h6
  | leapA s hx hy h h2 hL h3 k ih =>
    have t1 := hT _ (List.mem_cons_self ..)
    generalize hp : p = p' at h'
    cases h' with
    | done h2 => subst hp; exact absurd h2 (not_out hx hy)
    | win s' hx' hy' h4 k2 =>
      subst hp
      obtain ⟨rfl, rfl, rfl⟩ := side_uniq hd hx hy hx' hy' t1 (hT' _ (List.mem_cons_self ..))
      exact absurd ⟨h, h2⟩ h4
    | leap s' hx' hy' h4 h5 hL' h6 k2 =>
      subst hp
      obtain ⟨rfl, rfl, rfl⟩ := side_uniq hd hx hy hx' hy' t1 (hT' _ (List.mem_cons_self ..))
      obtain ⟨rfl, rfl⟩ := hL.uniq hL' (fun e he => hT e (by simp [he])) fun e he => hT' e (by simp [he])
      exact absurd h6 h3
    | leapA s' hx' hy' h4 h5 hL' h6 k2 =>
      subst hp
      obtain ⟨rfl, rfl, rfl⟩ := side_uniq hd hx hy hx' hy' t1 (hT' _ (List.mem_cons_self ..))
      obtain ⟨rfl, rfl⟩ := hL.uniq hL' (fun e he => hT e (by simp [he])) fun e he => hT' e (by simp [he])
      obtain ⟨rfl, rfl⟩ := ih k2 (fun e he => hT e (by simp [he])) fun e he => hT' e (by simp [he])
      exact ⟨rfl, rfl⟩
theorem tabs_M {A : Ad} {M : List Addr} {H H' : Hp} (h : TabsN (Tb A) H) (S : Stp M H H') (hM : A.P ∉ M) : TabsN (Tb A) H' := fun p hp => by
  rw [List.mem_singleton] at hp
  subst hp
  obtain ⟨ps, h1, h2, h3⟩ := h _ (List.mem_singleton.mpr rfl)
  exact ⟨ps, S.keep h1 hM, h2, fun pos cv hc => by obtain ⟨c, e, q⟩ := h3 pos cv hc; exact ⟨c, e, S.fix q True.intro⟩⟩
theorem tabs_at {A : Ad} {H : Hp} (h : TabsN (Tb A) H) : ∃ ps, H A.P = some (.tbl ps) := by
  obtain ⟨ps, h1, _⟩ := h _ (List.mem_singleton.mpr rfl)
  exact ⟨ps, h1⟩
theorem tabs_ask {I : Ask} {K : PySem.W.Frag} {A : Ad} {H H' : Hp} {log : List Ent} (h : TabsN (Tb A) H) (hA : I.At K A H log) (S : Stp I.M H H') : TabsN (Tb A) H' := by
  refine tabs_M h S fun z => ?_
  obtain ⟨ps, hp⟩ := tabs_at h
  obtain ⟨evs, h2, _⟩ := hA.hl
  obtain ⟨tvs, h3, _⟩ := hA.ht
  simp only [Ask.M, List.mem_cons, List.not_mem_nil, or_false] at z
  rcases z with z | z | z
  · rw [z, hA.hs] at hp; cases hp
  · rw [z, h2] at hp; cases hp
  · rw [z, h3] at hp; cases hp
theorem clo_ext {H H' : Hp} {f : Addr} {ws : List V} {cl : List (Str × Addr)} {c' : Addr} (c : Clo1 H f ws cl c') (e : ExtN H H') : Clo1 H' f ws cl c' := by
  have nt : ∀ {q : Heap → Prop} (ps : Array Value), HO.ext q ≠ HO.tbl ps := fun ps z => by cases z
  refine ⟨e _ _ c.fn (fun ps z => by cases z), e _ _ c.code (fun ps z => by cases z), c.len, fun y a h => ?_, c.inj, fun i y h => ?_⟩
  · obtain ⟨v, hv⟩ := c.cells y a h
    exact ⟨v, e _ _ hv (fun ps z => by cases z)⟩
  · obtain ⟨a, v, h1, h2, h3⟩ := c.has i y h
    exact ⟨a, v, h1, h2, e _ _ h3 (fun ps z => by cases z)⟩
theorem Ask.At.ext {I : Ask} {K : PySem.W.Frag} {A : Ad} {H H' : Hp} {log : List Ent} (h : I.At K A H log) (e : ExtN H H') : I.At K A H' log := by
  obtain ⟨evs, h1, h2⟩ := h.hl
  obtain ⟨tvs, h3, h4⟩ := h.ht
  exact ⟨e _ _ h.hs (fun ps z => by cases z), ext_lst e h.hr, ⟨evs, ext_lst e h1, isl_extN e h2⟩, e _ _ h.hu (fun ps z => by cases z), ⟨tvs, ext_lst e h3, isl_extN e h4⟩, clo_ext h.hf e, h.rk.ext e, h.d1, h.d2, h.d3, h.d4, h.few, h.rows, h.bd⟩
/-! ### an asker made: Asker(row, AskedRule(_law_teller(said))) -/
structure Mk (K : PySem.W.Frag) (A : Ad) (H : Hp) (row : List V) (ks : List Int) (tl : Addr) (pre : List Ent) (m : Option Nat) (I : Ask) (H' : Hp) : Prop where
  at_ : I.At K A H' []
  e1 : I.tl = tl
  e2 : I.ks = ks
  e3 : I.pre = pre
  e4 : I.row = row
  e5 : I.m = m
  ext : ExtN H H'
  dom : ∀ b, H' b = none → H b = none
  tab : TabsN (Tb A) H'
  far : ∀ b o, H b = some o → b ≠ tl → b ∉ I.M
theorem Mk.n {K : PySem.W.Frag} {A : Ad} {H : Hp} {row : List V} {ks : List Int} {tl : Addr} {pre : List Ent} {m : Option Nat} {I : Ask} {H' : Hp} (h : Mk K A H row ks tl pre m I H') : I.n = ks.length := by unfold Ask.n; rw [h.e2]
theorem Mk.lt {K : PySem.W.Frag} {A : Ad} {H : Hp} {row : List V} {ks : List Int} {tl : Addr} {pre : List Ent} {m : Option Nat} {I : Ask} {H' : Hp} (h : Mk K A H row ks tl pre m I H') : I.or = fun _ p q => decide (getE ks p < getE ks q) := by unfold Ask.or Ask.lt; rw [h.e2]
theorem askmake {K : PySem.W.Frag} {A : Ad} {σ : L2.St} {H : Hp} {Q : VK} {i j : Nat} {rq tl : Addr} {row : List V} {ks : List Int} {pre : List Ent} {tvs : List V} {m : Option Nat} {us dvs : List V} {ta : TA}
    (hi : σ[i]? = some (some (.ref rq))) (hj : σ[j]? = some (some (.ref tl))) (hR : H rq = some (.lst row)) (hrow : RowP H row ks) (hTb : TabsN (Tb A) H) (htl : H tl = some (.lst tvs)) (htv : IsL K H tvs pre) (few : row.length ≤ 100000) (fewp : pre.length ≤ 100000) (hta : ∀ (H : Hp) (Q : List V → Hp → Prop), Q us H → ta σ H Q) (e : us ++ dvs = [mV m])
    (k : ∀ H' I, Mk K A H row ks tl pre m I H' → Q (.ref I.s) H') :
    tMake A.Asker (sp_Asker___init__ K A) dvs L2.E0 (tCons (tVar i) (tCons (tMake A.AskedRule (sp_AskedRule___init__ K A) [] L2.E0 (tCons (tCall (sp__law_teller K A) [] L2.E0 (tCons (tVar j) tNil)) tNil)) ta)) σ H Q := by
  walk_at "rd"
  refine SH.r_var hi ?_
  walk_at "rd"
  refine SH.r_var hj ?_
  walk_at "rd"
  refine ⟨.ref tl, rfl, hTb, fun f' H6 cl c' hE hdom hTb6 hf6 hC => ?_⟩
  have hR6 := ext_lst hE hR
  have htl6 := ext_lst hE htl
  have hrow6 := hrow.ext hE
  walk_at "rd"
  intro u du hu hdu hne
  refine ⟨u, .ref f', rfl, ⟨du, upd_same⟩, fun dx => ⟨rfl, ?_⟩⟩
  rw [upd_upd]
  have S7 : Stp [] H6 (upd (upd H6 du (.own u)) u (.ins A.AskedRule dx [("teller", .ref f')])) := ((Stp.refl [] H6).new hdu).putN hu
  have hu7 : upd (upd H6 du (.own u)) u (.ins A.AskedRule dx [("teller", .ref f')]) u = some (.ins A.AskedRule dx [("teller", .ref f')]) := upd_same
  generalize upd (upd H6 du (.own u)) u (.ins A.AskedRule dx [("teller", .ref f')]) = H7 at S7 hu7 ⊢
  have hR7 := S7.keep0 hR6
  have htl7 := S7.keep0 htl6
  have hrow7 := hrow6.stp S7
  have hC7 := hC.step S7
  walk_at "rd"
  refine hta _ _ ?_
  intro s dx' hs hdx hne
  have S8 : Stp [] H7 (upd (upd H7 dx' (.own s)) s (.ins A.Asker dx' [])) := ((Stp.refl [] H7).new hdx).new (by rw [upd_ne hne.symm]; exact hs)
  refine ⟨s, rq, .ref u, row, m, by rw [← e]; rfl, ⟨dx', upd_same⟩, ⟨S8.sql0 (SqL.of hR7), few⟩, fun dx2 r l H9 hr hl hlr hsr hsl S9 hs9 hr9 hl9 => ⟨rfl, ?_⟩⟩
  have S79 : Stp [] H7 H9 := S8.then S9 (by simp; exact hs)
  have hl0 : H7 l = none := S8.dom l hl
  have hr0 : H7 r = none := S8.dom r hr
  have hE2 : ExtN H H9 := hE.trans (ExtN.of fun b o e => S79.keep0 (S7.keep0 e))
  have d0 : ∀ b, H9 b = none → H b = none := fun b e => hdom b (S7.dom b (S79.dom b e))
  have ht9 : IsL K H9 tvs pre := by
    have : ∀ (vs : List V) (ps : List Ent), IsL K H vs ps → IsL K H9 vs ps := fun vs ps h => isl_extN hE2 h
    exact this _ _ htv
  have hA : Ask.At ⟨s, r, l, dx2, u, dx, f', tl, cl, c', ks, row, pre, m⟩ K A H9 [] :=
    ⟨hs9, hr9, ⟨[], hl9, isl_nil⟩, S79.keep0 hu7, ⟨tvs, S79.keep0 htl7, by rw [List.append_nil]; exact ht9⟩, hC7.step S79, hrow7.stp S79, (ne_of_none hu7 hs).symm, hlr, ne_of_none htl7 hr0, (ne_of_none htl7 hl0).symm, by simp; omega, few, fun _ _ => Nat.zero_le _⟩
  refine k H9 ⟨s, r, l, dx2, u, dx, f', tl, cl, c', ks, row, pre, m⟩ ⟨hA, rfl, rfl, rfl, rfl, rfl, hE2, d0, tabs_stp (tabs_stp hTb6 S7) S79, fun b o e n => ?_⟩
  have hb6 : H b ≠ none := by rw [e]; simp
  have n1 : ∀ c, H7 c = none → b ≠ c := fun c hc z => hb6 (by subst z; exact hdom b (S7.dom b hc))
  simp only [Ask.M, List.mem_cons, List.not_mem_nil, or_false, not_or]
  exact ⟨n1 _ hs, n1 _ hl0, n⟩
theorem isl_gather {α : Type} [Enc α] {K : PySem.W.Frag} {D : Addr} {H1 H2 : Hp} {us : List V} {xs : List α} {v : V} {x : α} {o : HO} (S : Stp [] H1 H2) (h : IsL K (wo D H1) us xs) (k : Is K (wo D H2) v x) : IsL K (wo D (upd H2 D o)) (us ++ [v]) (xs ++ [x]) := by
  unfold SH.IsL
  rw [List.map_append]
  exact dp_gather S h k
theorem q_true {Q : VK} {H : Hp} {b : Bool} (h : b = true) (k : Q (.bl true) H) : Q (.bl b) H := h ▸ k
/-- a def that joins and says whether it was stopped -/
def sp__law_tried (K : PySem.W.Frag) (A : Ad) : Sp := fun vs H Q _ => ∃ (I : Ask) (log : List Ent) (sq : Addr) (ad : Bool → Addr) (sl : Bool → List Nat), vs = [.ref I.s, .ref sq] ∧
  (I.At K A H log ∧ H sq = some (.lst [.ref (ad false), .ref (ad true)]) ∧ (∀ b, H (ad b) = some (.lst (nv (sl b)))) ∧ (∀ b, ∀ o ∈ sl b, o < I.n) ∧ (∀ x ∈ sl false, ∀ y ∈ sl true, x ≠ y) ∧ (∀ b, (sl b).length ≤ 1000) ∧ log.length + I.pre.length < 80000) ∧
  (∀ H' t q kq es res, JN sl (fun _ => 0) false 0 es res → Told I.or log es → Stp I.M H H' → I.At K A H' (log ++ es) → H' t = some (.tup [.ref q, .ref kq]) → H' q = some (.lst (nv res)) → H' kq = some (.lst []) → Q (.ref t) H') ∧
  (∀ H' t kq es es', (∃ res, JN sl (fun _ => 0) false 0 (es ++ es') res) → es' ≠ [] → Told I.or log (es ++ es') → I.m = some (log.length + es.length) → Stp I.M H H' → I.At K A H' (log ++ es) → H' t = some (.tup [.non, .ref kq]) → H' kq = some (.lst [.bl true, .bl false, .int ((log.length + es.length : Nat) : Int)]) → Q (.ref t) H')
theorem ok__law_tried {P : Program} {w : World} {K : PySem.W.Frag} {mg : Str → Option Value} {base : Heap} {A : Ad} {f : Addr} {fd : FuncData} (F : Fun K "_law_tried" "_law_tried" s__law_tried f fd) (T : Txt K mg A) (C_joined : SH.Cal P w K mg base (L2N.CX P w) 7 "joined" [] (sp_joined K A)) : FnOk P w K mg base CX0 8 f fd ["_law_asker", "_law_sides_here"] (sp__law_tried K A) := by
  refine F.ok sc__law_tried (fun vs H Q E h => by obtain ⟨_, _, _, _, _, rfl, _⟩ := h; rfl) (fun cdv A' outer s H vs Q E hr h => ?_)
  obtain ⟨I, log, sq, ad, sl, rfl, ⟨hA, hsq, had, hin, hdis, hll, hlog⟩, k1, k2⟩ := h
  refine ⟨_, (pss_cons (ps_set (i := 2) sc__law_tried.nd rfl (Or.inl rfl) (pe_lst pa_nil))
        (pss_cons (ps_set (i := 3) sc__law_tried.nd rfl (Or.inl rfl) pe_non)
        (pss_cons (L2N.ps_try_as (i := 4) rfl rfl sc__law_tried.nd rfl rfl ⟨rfl, by decide, .inl T.g_HallError⟩ SH.takes0N (fun W pn xe tk po => (pss_one (ps_set (i := 3) sc__law_tried.nd rfl (Or.inl rfl) (SH.pe_callX C_joined hr (by rfl) (fun σ => L2N.passAt tk σ) (pa_cons (pv 0) (pa_cons (pe_callTy (SH.crK SH.rListOf K SH.cListOf) (by rfl) T.z_list (by decide +kernel) (pa_cons (pe_ix (SH.ixK SH.aIx K SH.ixA) (pv 1) pe_int (fun _ _ => rfl)) pa_nil)) (pa_cons (pe_callTy (SH.crK SH.rListOf K SH.cListOf) (by rfl) T.z_list (by decide +kernel) (pa_cons (pe_ix (SH.ixK SH.aIx K SH.ixA) (pv 1) pe_int (fun _ _ => rfl)) pa_nil)) pa_nil))))))) (fun a oe cls d pn hz hf => (pss_cons (ps_set (i := 2) sc__law_tried.nd rfl (Or.inl rfl) (pe_lst (pa_cons (pe_callB (SH.crK (fun K => SH.rIsY K cls d a) K (SH.call_isY (L2N.Zn.zc hz) hf)) (by rfl) T.z_isinstance (by decide +kernel) (pa_cons (pv 4) (pa_cons (pe_glob (v := .ref A.Spent) (by rfl) T.g_Spent rfl) pa_nil))) (pa_cons (pe_callB (SH.crK (fun K => SH.rIsY K cls d a) K (SH.call_isY (L2N.Zn.zc hz) hf)) (by rfl) T.z_isinstance (by decide +kernel) (pa_cons (pv 4) (pa_cons (pe_glob (v := .ref A.NoPlace) (by rfl) T.g_NoPlace rfl) pa_nil))) pa_nil))))
        (pss_one (ps_if (pt_val (pe_callB (SH.crK (fun K => SH.rIsY K cls d a) K (SH.call_isY (L2N.Zn.zc hz) hf)) (by rfl) T.z_isinstance (by decide +kernel) (pa_cons (pv 4) (pa_cons (pe_glob (v := .ref A.Spent) (by rfl) T.g_Spent rfl) pa_nil)))) (pss_one (ps_expr (SH.pe_bmK K PySem.F.plainAttrs_list PySem.F.slot_list_append PySem.F.type_list_append mt_append (pv 2) (pa_cons (L2.pe_xf (SH.xfOf T.ec_Spent) T.na_Spent_asked (L2N.Zn.zc hz) hf (pv 4)) pa_nil)))) pss_nil)))))
        (pss_one (ps_ret (pe_tup (pa_cons (pv 3) (pa_cons (pv 2) pa_nil)))))))), ?_⟩
  walk_at "begin"
  walk_at "rd"
  intro kq hkq
  walk_at "rd"
  have S1 := (Stp.refl [] H).new (o := .lst []) hkq
  have hkq1 := upd_same (H := H) (a := kq) (o := .lst [])
  have hA1 := hA.stp S1 (by simp)
  have hsq1 := S1.keep0 hsq
  have had1 : ∀ b, upd H kq (.lst []) (ad b) = some (.lst (nv (sl b))) := fun b => S1.keep0 (had b)
  have hkM := hA.fresh hkq
  generalize upd H kq (.lst []) = H1 at S1 hkq1 hA1 hsq1 had1 ⊢
  refine v_ixLn (n := 0) (SqL.of hsq1) rfl rfl ?_
  walk_at "rd"
  refine w_listL (SqL.of (had1 _)) fun h0 hh0 => ?_
  walk_at "rd"
  refine v_ixLn (n := 1) (SqL.of (upd_old hsq1 hh0)) rfl rfl ?_
  walk_at "rd"
  refine w_listL (SqL.of (upd_old (had1 _) hh0)) fun h1 hh1 => ?_
  walk_at "rd"
  have S2 := ((Stp.refl [] H1).new (o := .lst (nv (sl false))) hh0).new (o := .lst (nv (sl true))) hh1
  have i0 := upd_old (u := .lst (nv (sl true))) (upd_same (H := H1) (a := h0) (o := .lst (nv (sl false)))) hh1
  have i1 := upd_same (H := upd H1 h0 (.lst (nv (sl false)))) (a := h1) (o := .lst (nv (sl true)))
  have hA2 := hA1.stp S2 (by simp)
  have m0 := hA1.fresh hh0
  have m1 := hA1.fresh (upd_free hh1).1
  have hkq2 := S2.keep0 hkq1
  have S12 := S1.trans S2
  generalize upd (upd H1 h0 (.lst (nv (sl false)))) h1 (.lst (nv (sl true))) = H2 at S12 i0 i1 hA2 hkq2 ⊢
  clear S2 S1 hh0 hh1
  refine ⟨I, log, h0, h1, sl false, sl true, rfl, ⟨hA2, i0, i1, m0, m1, hin false, hin true, hdis, hll false, hll true, by omega⟩, fun H' d es es' hR hne hT hm S hA' hd hx => ?_, fun H' q es res hq hesl hT hJ S hA' hq' => ?_⟩
  · rw [LR_eq] at hR
    have hkq3 := S.keep hkq2 hkM
    have ndk : d ≠ kq := (ne_of_none hkq2 hd).symm
    refine SH.r_catch T.exm_Spent_HallError fun e he => ?_
    simp only [List.set_cons_succ, List.set_cons_zero]
    walk_at "rd"
    refine v_isY (adict hx) T.ec_Spent T.kits_Spent_Spent ?_
    walk_at "rd"
    refine v_isY (adict hx) T.ec_Spent T.kits_Spent_NoPlace ?_
    walk_at "rd"
    intro k2' hk2
    have S3 := (Stp.refl [] H').new (o := .lst [.bl true, .bl false]) hk2
    have hx3 := S3.keep0 hx
    walk_at "rd"
    refine v_isY (adict hx3) T.ec_Spent T.kits_Spent_Spent ?_
    walk_at "rd"
    refine v_app upd_same (by decide) ?_
    have S4 := ((Stp.refl [] H').new (o := .lst [.bl true, .bl false]) hk2).putN (o := .lst ([.bl true, .bl false] ++ [.int ((log.length + es.length : Nat) : Int)])) hk2
    have hk4 := upd_same (H := upd H' k2' (.lst [.bl true, .bl false])) (a := k2') (o := .lst ([.bl true, .bl false] ++ [.int ((log.length + es.length : Nat) : Int)]))
    generalize upd (upd H' k2' (.lst [.bl true, .bl false])) k2' (.lst ([.bl true, .bl false] ++ [.int ((log.length + es.length : Nat) : Int)])) = H4 at S4 hk4 ⊢
    simp only [List.set_cons_succ, List.set_cons_zero]
    walk_at "rd"
    intro t ht
    have S5 := (Stp.refl [] H4).new (o := .tup [.non, .ref k2']) ht
    have S45 := S4.trans S5
    exact k2 _ t k2' es es' hR hne hT hm ((S12.mono (by simp)).trans (S.trans (S45.mono (by simp)))) (hA'.stp S45 (by simp)) upd_same (S5.keep0 hk4)
  · rw [LR_eq] at hJ
    have hkq3 := S.keep hkq2 hkM
    walk_at "rd"
    intro t ht
    have S4 := (Stp.refl [] H').new (o := .tup [.ref q, .ref kq]) ht
    exact k1 _ t q kq es res hJ hT ((S12.mono (by simp)).trans (S.trans (S4.mono (by simp)))) (hA'.stp S4 (by simp)) upd_same (S4.keep0 hq') (S4.keep0 hkq3)

def sp__law_refused (K : PySem.W.Frag) (A : Ad) : Sp := fun vs H Q _ => ∃ (I : Ask) (log : List Ent), vs = [.ref I.s] ∧ (I.At K A H log ∧ 1 < I.n ∧ I.m = some log.length ∧ log.length + I.pre.length < 100000) ∧
  ∀ H', Stp I.M H H' → I.At K A H' log → Q (.bl true) H'
theorem ok__law_refused {P : Program} {w : World} {K : PySem.W.Frag} {mg : Str → Option Value} {base : Heap} {A : Ad} {f : Addr} {fd : FuncData} (F : Fun K "_law_refused" "_law_refused" s__law_refused f fd) (T : Txt K mg A) (M_Asker_ahead : SH.CalM P w K mg base (L2N.CX P w) 3 A.Asker "ahead" [] (sp_Asker_ahead K A)) : FnOk P w K mg base CX0 4 f fd ["_law_asker"] (sp__law_refused K A) := by
  refine F.ok sc__law_refused (fun vs H Q E h => by obtain ⟨_, _, rfl, _⟩ := h; rfl) (fun cdv A' outer s H vs Q E hr h => ?_)
  obtain ⟨I, log, rfl, ⟨hA, hn, hm, hlog⟩, k⟩ := h
  refine ⟨_, (pss_cons (L2N.ps_try_many rfl rfl SH.takes0N (fun W pn xe tk po => (pss_one (ps_expr (SH.pe_methX (pv 0) M_Asker_ahead hr (fun σ => L2N.passAt tk σ) (pa_cons pe_int (pa_cons pe_int pa_nil)))))) (.cons ⟨rfl, by decide, .inl T.g_Spent⟩ (fun a oe cls d pn hz hf => (pss_one (ps_ret pe_bl))) .nil))
        (pss_one (ps_ret pe_bl))), ?_⟩
  walk_at "begin"
  have hs := hA.hs
  unfold AskM at hs
  walk_at "rd"
  refine ⟨I, log, 0, 1, rfl, ⟨hA, by omega, hn, by decide, hlog⟩, fun H' d es es' hR hne hT hm' S hA' hd hx => ?_, fun H' said hs' S hA' => ?_⟩
  · obtain ⟨said, e⟩ := hR
    have : es = [] := by
      have := congrArg List.length e
      simp at this
      cases es' with
      | nil => exact (hne rfl).elim
      | cons a b => simp at this; exact List.length_eq_zero_iff.mp (by omega)
    subst this
    rw [List.append_nil] at hA'
    refine SH.r_catchM T.exm_Spent_Spent fun a ha => ?_
    walk_at "rd"
    exact k H' S hA'
  · have := hA'.bd _ hm
    rw [List.length_append, List.length_singleton] at this
    omega

/-- partial asks are the first of the full ones -/
theorem jn_same {f : Nat → Nat → Bool} {sl : Bool → List Nat} (hd : ∀ x ∈ sl false, ∀ y ∈ sl true, x ≠ y) {es es' es0 : List Ent} {res res0 : List Nat} {log : List Ent} (h : JN sl (fun _ => 0) false 0 (es ++ es') res) (h0 : JN sl (fun _ => 0) false 0 es0 res0)
    (hT : Told (fun _ => f) log (es ++ es')) (hT0 : ∀ e ∈ es0, e.c = f e.a e.b) : es ++ es' = es0 ∧ res = res0 := h.uniq hd h0 (Told.all hT) hT0
def sp__law_stopped (K : PySem.W.Frag) (A : Ad) : Sp := fun vs H Q _ => ∃ (rq sq oq : Addr) (ad : Bool → Addr) (sl : Bool → List Nat) (row : List V) (ks : List Int) (ord : List Nat) (es0 : List Ent) (most : Nat), vs = [.ref rq, .ref sq, .ref oq, .int es0.length, .int most] ∧
  ((H rq = some (.lst row) ∧ RowP H row ks ∧ row.length ≤ 300 ∧ TabsN (Tb A) H ∧ H sq = some (.lst [.ref (ad false), .ref (ad true)]) ∧ (∀ b, H (ad b) = some (.lst (nv (sl b)))) ∧ H oq = some (.lst (nv ord))) ∧ (OrdOf ks ord ∧ Split ord sl ∧ JN sl (fun _ => 0) false 0 es0 ord ∧ (∀ e ∈ es0, e.c = decide (getE ks e.a < getE ks e.b)) ∧ es0.length ≤ 2000 ∧ most ≤ es0.length ∧ (es0 ≠ [] → 1 < ks.length))) ∧
  ∀ H', ExtN H H' → TabsN (Tb A) H' → Q (.bl true) H'
theorem ok__law_stopped {P : Program} {w : World} {K : PySem.W.Frag} {mg : Str → Option Value} {base : Heap} {A : Ad} {f : Addr} {fd : FuncData} (F : Fun K "_law_stopped" "_law_stopped" s__law_stopped f fd) (T : Txt K mg A) (M_Asker_widen : SH.CalM P w K mg base CX0 1 A.Asker "widen" [] (sp_Asker_widen K A)) (C__law_refused : SH.Cal P w K mg base CX0 4 "_law_refused" [] (sp__law_refused K A)) (C__law_teller : SH.Cal P w K mg base CX0 1 "_law_teller" [] (sp__law_teller K A)) (C__law_tried : SH.Cal P w K mg base CX0 8 "_law_tried" [] (sp__law_tried K A)) (N_AskedRule : SH.CalC P w K mg base CX0 1 "AskedRule" A.AskedRule [] (sp_AskedRule___init__ K A)) (N_Asker : SH.CalC P w K mg base CX0 1 "Asker" A.Asker [] (sp_Asker___init__ K A)) : FnOk P w K mg base CX0 9 f fd ["_law_row_here", "_law_sides_here", "_law_order", "_law_needed", "_law_most"] (sp__law_stopped K A) := by
  refine F.ok sc__law_stopped (fun vs H Q E h => by obtain ⟨_, _, _, _, _, _, _, _, _, _, rfl, _⟩ := h; rfl) (fun cdv A' outer s H vs Q E hr h => ?_)
  obtain ⟨rq, sq, oq, ad, sl, row, ks, ord, es0, most, rfl, ⟨⟨hR, hrow, hrl, hTb, hsq, had, hO⟩, hOrd, hsp, hJ0, hT0, hel, hmost, hbig⟩, k⟩ := h
  refine ⟨_, (pss_cons (ps_set (i := 5) sc__law_stopped.nd rfl (Or.inl rfl) (pe_lst pa_nil))
        (pss_cons (ps_set (i := 6) sc__law_stopped.nd rfl (Or.inl rfl) (SH.pe_makeF N_Asker hr (by rfl) pass0 (pa_cons (pv 0) (pa_cons (SH.pe_makeF N_AskedRule hr (by rfl) pass0 (pa_cons (SH.pe_callF C__law_teller hr (by rfl) pass0 (pa_cons (pv 5) pa_nil)) pa_nil)) (pa_cons (pv 4) pa_nil)))))
        (pss_cons (ps_asg (SH.pe_callF C__law_tried hr (by rfl) pass0 (pa_cons (pv 6) (pa_cons (pv 1) pa_nil))) (pg_tup (by rfl) (pgs_cons (pg_name (i := 7) sc__law_stopped.nd rfl (Or.inl rfl)) (pgs_cons (pg_name (i := 8) sc__law_stopped.nd rfl (Or.inl rfl)) pgs_nil))))
        (pss_cons (ps_if (pt_cmpR (SH.oEq hr.units) (pv 4) (pv 3) (nomark _)) (pss_one (ps_ret (pe_and (pe_cmpR (SH.oEq hr.units) (pv 8) (pe_lst pa_nil) (nomark _)) (pe_and (pe_cmpR (SH.oEq hr.units) (pv 7) (pv 2) (nomark _)) (pe_and (pe_cmpR (SH.oEq hr.units) (pe_callB SH.cLen (by rfl) T.z_len (by decide +kernel) (pa_cons (pv 5) pa_nil)) (pv 3) (nomark _)) (pe_one (pe_cmpR (SH.oEq hr.units) (SH.pe_fldF T.cl_Asker T.na_Asker_asked (pv 6)) (pv 3) (nomark _)))))))) pss_nil)
        (pss_cons (ps_if (PW.pt (pw_or (pt_cmpR SH.oNotN (pv 7) pe_non (nomark _)) (pw_or (pt_cmpR (SH.oNe hr.units) (pv 8) (pe_lst (pa_cons pe_bl (pa_cons pe_bl (pa_cons (pv 4) pa_nil)))) (nomark _)) (pw_or (pt_cmpR (SH.oNe hr.units) (pe_callB SH.cLen (by rfl) T.z_len (by decide +kernel) (pa_cons (pv 5) pa_nil)) (pv 4) (nomark _)) (pw_or1 (pt_cmpR (SH.oNe hr.units) (SH.pe_fldF T.cl_Asker T.na_Asker_asked (pv 6)) (pv 4) (nomark _))))))) (pss_one (ps_ret pe_bl)) pss_nil)
        (pss_cons (ps_expr (SH.pe_methF (pv 6) M_Asker_widen hr pass0 (pa_cons (pv 3) pa_nil)))
        (pss_cons (ps_asg (SH.pe_callF C__law_tried hr (by rfl) pass0 (pa_cons (pv 6) (pa_cons (pv 1) pa_nil))) (pg_tup (by rfl) (pgs_cons (pg_name (i := 7) sc__law_stopped.nd rfl (Or.inl rfl)) (pgs_cons (pg_name (i := 8) sc__law_stopped.nd rfl (Or.inl rfl)) pgs_nil))))
        (pss_cons (ps_if (PW.pt (pw_or (pt_cmpR (SH.oNe hr.units) (pv 8) (pe_lst pa_nil) (nomark _)) (pw_or (pt_cmpR (SH.oNe hr.units) (pv 7) (pv 2) (nomark _)) (pw_or (pt_cmpR (SH.oNe hr.units) (pe_callB SH.cLen (by rfl) T.z_len (by decide +kernel) (pa_cons (pv 5) pa_nil)) (pe_op SH.oAdd (pv 4) (pv 3)) (nomark _)) (pw_or1 (pt_cmpR (SH.oNe hr.units) (SH.pe_fldF T.cl_Asker T.na_Asker_asked (pv 6)) (pe_op SH.oAdd (pv 4) (pv 3)) (nomark _))))))) (pss_one (ps_ret pe_bl)) pss_nil)
        (pss_one (ps_ret (pe_and (SH.pe_callF C__law_refused hr (by rfl) pass0 (pa_cons (pv 6) pa_nil)) (pe_one (pe_cmpR (SH.oEq hr.units) (pe_callB SH.cLen (by rfl) T.z_len (by decide +kernel) (pa_cons (pv 5) pa_nil)) (pe_op SH.oAdd (pv 4) (pv 3)) (nomark _)))))))))))))), ?_⟩
  walk_at "begin"
  walk_at "rd"
  intro tl htl
  have S1 := (Stp.refl [] H).new (o := .lst []) htl
  have htl1 := upd_same (H := H) (a := tl) (o := .lst [])
  have hR1 := S1.keep0 hR
  have hsq1 := S1.keep0 hsq
  have had1 : ∀ b, upd H tl (.lst []) (ad b) = some (.lst (nv (sl b))) := fun b => S1.keep0 (had b)
  have hO1 := S1.keep0 hO
  walk_at "rq"
  refine askmake (m := some most) (us := [.int most]) rfl rfl hR1 (hrow.stp S1) (tabs_stp hTb S1) htl1 isl_nil (by omega) (by simp) (fun H Q h => by walk_at "rd"; exact h) rfl fun H2 I hM => ?_
  have hA := hM.at_
  have hn := hM.n
  have hpre := hM.e3
  have hlt := hM.lt
  have hdis := hsp.dis hOrd.nodup
  have holn := hOrd.len
  have hrl2 := hrow.1
  have hll : ∀ b, (sl b).length ≤ 1000 := fun b => by have := hsp.lenb b; omega
  have hin : ∀ b, ∀ o ∈ sl b, o < I.n := fun b o ho => by rw [hn]; exact hOrd.lt (hsp.mem ho)
  have hsq2 := ext_lst hM.ext hsq1
  have had2 : ∀ b, H2 (ad b) = some (.lst (nv (sl b))) := fun b => ext_lst hM.ext (had1 b)
  have hO2 := ext_lst hM.ext hO1
  have sqM := hM.far _ _ hsq1 (ne_of_none hsq htl)
  have adM : ∀ b, ad b ∉ I.M := fun b => hM.far _ _ (had1 b) (ne_of_none (had b) htl)
  have oM := hM.far _ _ hO1 (ne_of_none hO htl)
  have tab2 := hM.tab
  have etl := hM.e1
  have em := hM.e5
  have ext2 : ∀ H', Stp I.M H2 H' → ExtN H H' ∧ TabsN (Tb A) H' := fun H' S => ⟨fun b o hb nt => S.keep (hM.ext _ _ (S1.keep0 hb) nt) (hM.far _ _ (S1.keep0 hb) (ne_of_none hb htl)), tabs_ask tab2 hA S⟩
  clear hM S1 htl1 hR1 hsq1 had1 hO1 hTb htl hR hsq had hO hrow
  walk_at "rd"
  refine ⟨I, [], sq, ad, sl, rfl, ⟨hA, hsq2, had2, hin, hdis, hll, by rw [hpre]; simp⟩, fun H3 t q kq es res hJ hT S3 hA3 ht hq hk => ?_, fun H3 t kq es es' hJ hne hT hm S3 hA3 ht hk => ?_⟩
  · rw [List.nil_append] at hA3
    obtain ⟨e1, rfl⟩ := jn_same hdis (es' := []) (by rw [List.append_nil]; exact hJ) hJ0 (by rw [← hlt, List.append_nil]; exact hT) hT0
    rw [List.append_nil] at e1
    subst e1
    have hb := hA3.bd most em
    obtain rfl : most = es.length := by omega
    obtain ⟨x1, x2⟩ := ext2 _ S3
    have hO3 := S3.keep hO2 oM
    have hs3 := hA3.hs
    unfold AskM at hs3
    obtain ⟨tvs, htl3, htv3⟩ := hA3.ht
    rw [hpre, List.nil_append] at htv3
    rw [etl] at htl3
    have htvl := isl_len htv3
    walk_at "rd"
    rw [if_pos (decide_eq_true rfl)]
    walk_at "rd"
    intro z hz
    have S4 := (Stp.refl [] H3).new (o := .lst []) hz
    have hz4 := upd_same (H := H3) (a := z) (o := .lst [])
    have hk4 := S4.keep0 hk
    have hq4 := S4.keep0 hq
    have hO4 := S4.keep0 hO3
    have hs4 := S4.keep0 hs3
    have htl4 := S4.keep0 htl3
    have x14 : ExtN H (upd H3 z (.lst [])) := x1.trans (ExtN.of fun b o e => S4.keep0 e)
    have x24 := tabs_stp x2 S4
    generalize upd H3 z (.lst []) = H4 at S4 hz4 hk4 hq4 hO4 hs4 htl4 x14 x24 ⊢
    refine v_eqE (α := List Int) (x := []) (y := []) (is_lst (SqL.of hk4) isl_nil) (is_lst (SqL.of hz4) isl_nil) ?_
    rw [decide_eq_true rfl]
    walk_at "rd"
    refine v_eqE (is_lst (SqL.of hq4) isl_nats) (is_lst (SqL.of hO4) isl_nats) ?_
    rw [decide_eq_true rfl]
    walk_at "rd"
    rw [htvl, decide_eq_true rfl]
    walk_at "rd"
    exact q_true (by simp) (k _ x14 x24)
  · rw [List.nil_append] at hA3
    obtain ⟨res, hJ⟩ := hJ
    obtain ⟨e1, e2⟩ := jn_same hdis hJ hJ0 (by rw [← hlt]; exact hT) hT0
    subst e2
    rw [em] at hm
    have hm' : most = es.length := by simp at hm; exact hm
    subst hm'
    have hlt2 : es.length < es0.length := by
      rw [← e1, List.length_append]
      have := List.length_pos_iff.mpr hne
      omega
    obtain ⟨x1, x2⟩ := ext2 _ S3
    have SX : Stp I.M H2 H3 := S3
    have hO3 := S3.keep hO2 oM
    have hsq3 := S3.keep hsq2 sqM
    have had3 : ∀ b, H3 (ad b) = some (.lst (nv (sl b))) := fun b => S3.keep (had2 b) (adM b)
    have hs3 := hA3.hs
    unfold AskM at hs3
    obtain ⟨tvs, htl3, htv3⟩ := hA3.ht
    rw [hpre, List.nil_append] at htv3
    rw [etl] at htl3
    have htvl := isl_len htv3
    clear S3 hsq2 had2 hO2 hA
    walk_at "rd"
    rw [if_neg (by rw [decide_eq_true_eq]; omega)]
    walk_at "rd"
    rw [if_neg (by simp)]
    walk_at "rd"
    intro z hz
    have hk' : H3 kq = some (.lst [.bl true, .bl false, .int (es.length : Nat)]) := by simpa using hk
    have S4 := (Stp.refl [] H3).new (o := .lst [.bl true, .bl false, .int (es.length : Nat)]) hz
    have hz4 := upd_same (H := H3) (a := z) (o := .lst [.bl true, .bl false, .int (es.length : Nat)])
    have hk4 := S4.keep0 hk'
    have hO4 := S4.keep0 hO3
    have hsq4 := S4.keep0 hsq3
    have had4 : ∀ b, upd H3 z (.lst [.bl true, .bl false, .int (es.length : Nat)]) (ad b) = some (.lst (nv (sl b))) := fun b => S4.keep0 (had3 b)
    have hs4 := S4.keep0 hs3
    have htl4 := S4.keep0 htl3
    have hA4 := hA3.stp S4 (by simp)
    have x14 : ExtN H (upd H3 z (.lst [.bl true, .bl false, .int (es.length : Nat)])) := x1.trans (ExtN.of fun b o e => S4.keep0 e)
    have x24 := tabs_stp x2 S4
    replace SX := SX.trans (S4.mono (by simp))
    generalize upd H3 z (.lst [.bl true, .bl false, .int (es.length : Nat)]) = H4 at SX S4 hz4 hk4 hsq4 had4 hO4 hs4 htl4 hA4 x14 x24 ⊢
    have hd3 : ∀ {p : Addr}, H4 p = some (.lst [.bl true, .bl false, .int (es.length : Nat)]) → Dp K H4 (.ref p) (.list [.bool true, .bool false, .int (es.length : Nat)]) := fun {p} e => .lst (SqL.of e) (.cons (.bl _) (.cons (.bl _) (.cons (.int _) .nil)))
    refine v_neR (hd3 hk4) (hd3 hz4) rfl ?_
    clear S4 hsq3 had3 hO3 hs3 htl3 hA3 x1 x2 hz4 hk4 hk hk' hz ht hd3
    walk_at "rd"
    rw [htvl]
    rw [if_neg (by simp)]
    walk_at "rd"
    rw [if_neg (by simp)]
    walk_at "rd"
    refine ⟨I, es, es0.length, rfl, hA4, fun H5 S5 hA5 => ?_⟩
    have ms5 : ∀ m ∈ [I.s], m ∈ I.M := fun m hm => by rw [List.mem_singleton] at hm; subst hm; simp [Ask.M]
    have S5' : Stp I.M H4 H5 := S5.mono ms5
    have hsq5 := S5'.keep hsq4 sqM
    have had5 : ∀ b, H5 (ad b) = some (.lst (nv (sl b))) := fun b => S5'.keep (had4 b) (adM b)
    have hO5 := S5'.keep hO4 oM
    obtain ⟨y1, y2⟩ : ExtN H H5 ∧ TabsN (Tb A) H5 := ext2 H5 (SX.trans S5')
    have em5 : (I.wide es0.length).m = some (es.length + es0.length) := wide_some em
    clear hsq4 had4 hO4 hs4 htl4 hA4 x14 x24 S5
    walk_at "rd"
    refine ⟨I.wide es0.length, es, sq, ad, sl, rfl, ⟨hA5, hsq5, had5, hin, hdis, hll, by show _ + I.pre.length < _; rw [hpre]; simp; omega⟩, fun H6 t q kq es1 res1 hJ1 hT1 S6 hA6 ht hq hk => ?_, fun H6 t kq es1 es1' hJ1 hne1 hT1 hm1 S6 hA6 ht hk => ?_⟩
    · obtain ⟨e3, rfl⟩ := jn_same hdis (es' := []) (by rw [List.append_nil]; exact hJ1) hJ0 (by rw [List.append_nil]; rw [show (I.wide es0.length).or = I.or from rfl, hlt] at hT1; exact hT1) hT0
      rw [List.append_nil] at e3
      subst e3
      have hO6 := S6.keep hO5 oM
      have hs6 := hA6.hs
      unfold AskM at hs6
      obtain ⟨tvs6, htl6, htv6⟩ := hA6.ht
      rw [show (I.wide es1.length).pre = [] from hpre, List.nil_append] at htv6
      rw [show (I.wide es1.length).tl = tl from etl] at htl6
      have htvl6 := isl_len htv6
      rw [List.length_append] at htvl6
      walk_at "rd"
      intro z hz
      have S7 := (Stp.refl [] H6).new (o := .lst []) hz
      have hz7 := upd_same (H := H6) (a := z) (o := .lst [])
      have hk7 := S7.keep0 hk
      have hq7 := S7.keep0 hq
      have hO7 := S7.keep0 hO6
      have hA7 := hA6.stp S7 (by simp)
      have htl7 := S7.keep0 htl6
      have hs7 := S7.keep0 hs6
      have S47 := (S5'.trans S6).trans (S7.mono (by simp))
      generalize upd H6 z (.lst []) = H7 at S7 hz7 hk7 hq7 hO7 hA7 htl7 hs7 S47 ⊢
      refine v_neE (α := List Int) (x := []) (y := []) (is_lst (SqL.of hk7) isl_nil) (is_lst (SqL.of hz7) isl_nil) ?_
      rw [decide_eq_true rfl]
      walk_at "rd"
      refine v_neE (is_lst (SqL.of hq7) isl_nats) (is_lst (SqL.of hO7) isl_nats) ?_
      rw [decide_eq_true rfl]
      walk_at "rd"
      rw [if_neg (by simp; omega)]
      have hs7' : H7 I.s = some (.ins A.Asker I.dx [("row", .ref I.r), ("rule", .ref I.u), ("most", mV (I.wide es1.length).m), ("asked", .int (es ++ es1).length), ("log", .ref I.l)]) := hs7
      rw [List.length_append] at hs7'
      clear hs7
      walk_at "rd"
      rw [if_neg (by simp)]
      walk_at "rd"
      have hne1 : es1 ≠ [] := fun z => by subst z; simp at hlt2
      refine ⟨I.wide es1.length, es ++ es1, rfl, ⟨hA7, by show 1 < I.n; rw [hn]; exact hbig hne1, by rw [em5, List.length_append], by show _ + I.pre.length < _; rw [hpre, List.length_append]; simp; omega⟩, fun H8 S8 hA8 => ?_⟩
      obtain ⟨tvs8, htl8, htv8⟩ := hA8.ht
      rw [show (I.wide es1.length).pre = [] from hpre, List.nil_append] at htv8
      rw [show (I.wide es1.length).tl = tl from etl] at htl8
      have htvl8 := isl_len htv8
      rw [List.length_append] at htvl8
      obtain ⟨z1, z2⟩ := ext2 H8 (SX.trans (S47.trans S8))
      walk_at "rd"
      exact q_true (by simp; omega) (k _ z1 z2)
    · exfalso
      obtain ⟨res1, hJ1⟩ := hJ1
      obtain ⟨e3, e4⟩ := jn_same hdis hJ1 hJ0 (by rw [← hlt]; exact hT1) hT0
      rw [em5] at hm1
      injection hm1 with hm1
      have := congrArg List.length e3
      rw [List.length_append] at this
      have := List.length_pos_iff.mpr hne1
      omega

def sp_law (K : PySem.W.Frag) (A : Ad) : Sp := fun vs H Q _ => ∃ (a : Addr) (ns : List Int), vs = [.ref a] ∧ (SqL K H a (ns.map V.int) ∧ ns.length ≤ 63 ∧ TabsN (Tb A) H) ∧ ∀ H', Q (.bl true) H'
theorem ok_law {P : Program} {w : World} {K : PySem.W.Frag} {mg : Str → Option Value} {base : Heap} {A : Ad} {f : Addr} {fd : FuncData} (F : Fun K "law" "law" s_law f fd) (T : Txt K mg A) (C__law_cell_at : SH.Cal P w K mg base CX0 1 "_law_cell_at" [] (sp__law_cell_at K A)) (C__law_numbers : SH.Cal P w K mg base CX0 2 "_law_numbers" [] (sp__law_numbers K A)) (C__law_row : SH.Cal P w K mg base CX0 1 "_law_row" [] (sp__law_row K A)) (C__law_sides : SH.Cal P w K mg base CX0 1 "_law_sides" [] (sp__law_sides K A)) (C__law_stopped : SH.Cal P w K mg base CX0 9 "_law_stopped" [] (sp__law_stopped K A)) (C__law_teller : SH.Cal P w K mg base CX0 1 "_law_teller" [] (sp__law_teller K A)) (C_joined : SH.Cal P w K mg base (L2N.CX P w) 7 "joined" [] (sp_joined K A)) (N_AskedRule : SH.CalC P w K mg base CX0 1 "AskedRule" A.AskedRule [] (sp_AskedRule___init__ K A)) (N_Asker_d1 : SH.CalC P w K mg base CX0 1 "Asker" A.Asker [.non] (sp_Asker___init__ K A)) : FnOk P w K mg base CX0 10 f fd ["_law_script"] (sp_law K A) := by
  refine F.ok sc_law (fun vs H Q E h => by obtain ⟨_, _, rfl, _⟩ := h; rfl) (fun cdv A' outer s H vs Q E hr h => ?_)
  obtain ⟨a, ns, rfl, ⟨hS, hlen, hTb⟩, k⟩ := h
  refine ⟨_, (pss_cons (ps_set (i := 1) sc_law.nd rfl (Or.inl rfl) (SH.pe_callF C__law_numbers hr (by rfl) pass0 (pa_cons (pv 0) pa_nil)))
        (pss_cons (ps_set (i := 2) sc_law.nd rfl (Or.inl rfl) (SH.pe_callF C__law_row hr (by rfl) pass0 (pa_cons (pv 1) (pa_cons (SH.pe_callF C__law_cell_at hr (by rfl) pass0 (pa_cons (pv 0) (pa_cons pe_int pa_nil))) pa_nil))))
        (pss_cons (ps_setLc (i := 3) (own := [("_law_thing", 10)]) (g := (gName 10)) (tt := tYes) (by rfl) sc_law.nd rfl rfl (sw_true rfl rfl rfl (by decide +kernel)) (pi_list (pe_callB cr_sortedPO (by rfl) T.z_sorted (by decide +kernel) (pa_cons (pv 2) pa_nil))) (blkOk_by (own := [("_law_thing", 10)]) (N := ["_law_script", "_law_numbers_here", "_law_row_here", "_law_order", "_law_sides_here", "_law_said", "_law_asker", "_law_found", "_law_needed", "_law_most", "_law_thing"]) (sc := defScope s_law) (by decide +kernel)) (fun _ _ _ _ _ => (pg_name (i := 10) sc_law.nd rfl (Or.inl rfl))) (fun _ _ _ _ _ => pts_nil) (fun _ _ _ _ _ => (pe_ix (SH.ixK SH.aIx K SH.ixA) (pv 10) pe_int (fun _ _ => rfl))))
        (pss_cons (ps_set (i := 4) sc_law.nd rfl (Or.inl rfl) (SH.pe_callF C__law_sides hr (by rfl) pass0 (pa_cons (pv 3) (pa_cons (pv 1) (pa_cons (SH.pe_callF C__law_cell_at hr (by rfl) pass0 (pa_cons (pv 0) (pa_cons pe_int pa_nil))) pa_nil)))))
        (pss_cons (ps_set (i := 5) sc_law.nd rfl (Or.inl rfl) (pe_lst pa_nil))
        (pss_cons (ps_set (i := 6) sc_law.nd rfl (Or.inl rfl) (SH.pe_makeF N_Asker_d1 hr (by rfl) pass0 (pa_cons (pv 2) (pa_cons (SH.pe_makeF N_AskedRule hr (by rfl) pass0 (pa_cons (SH.pe_callF C__law_teller hr (by rfl) pass0 (pa_cons (pv 5) pa_nil)) pa_nil)) pa_nil))))
        (pss_cons (ps_set (i := 7) sc_law.nd rfl (Or.inl rfl) (SH.pe_callF C_joined hr (by rfl) SH.passLN (pa_cons (pv 6) (pa_cons (pe_callTy SH.cListOf (by rfl) T.z_list (by decide +kernel) (pa_cons (pe_ix SH.ixA (pv 4) pe_int (fun _ _ => rfl)) pa_nil)) (pa_cons (pe_callTy SH.cListOf (by rfl) T.z_list (by decide +kernel) (pa_cons (pe_ix SH.ixA (pv 4) pe_int (fun _ _ => rfl)) pa_nil)) pa_nil)))))
        (pss_cons (ps_set (i := 8) sc_law.nd rfl (Or.inl rfl) (pe_callB SH.cLen (by rfl) T.z_len (by decide +kernel) (pa_cons (pv 5) pa_nil)))
        (pss_cons (ps_if (PW.pt (pw_or (pt_cmpR (SH.oNe hr.units) (pv 7) (pv 3) (nomark _)) (pw_or1 (pt_cmpR (SH.oNe hr.units) (SH.pe_fldF T.cl_Asker T.na_Asker_asked (pv 6)) (pv 8) (nomark _))))) (pss_one (ps_ret pe_bl)) pss_nil)
        (pss_cons (ps_for PassesOwn.never rfl (pi_list (pe_lst (pa_cons (pv 8) (pa_cons (pe_op SH.oSub (pv 8) pe_int) (pa_cons pe_int (pa_cons (pe_op SH.oMod (SH.pe_callF C__law_cell_at hr (by rfl) pass0 (pa_cons (pv 0) (pa_cons pe_int pa_nil))) (pe_op SH.oAdd (pv 8) pe_int)) pa_nil)))))) (pg_name (i := 9) sc_law.nd rfl (Or.inl rfl)) (pss_one (ps_if (PW.pt (pw_and (pt_cmpR SH.oGe (pv 9) pe_int (nomark _)) (pw_and1 (pt_not (pt_val (SH.pe_callF C__law_stopped hr (by rfl) pass0 (pa_cons (pv 2) (pa_cons (pv 4) (pa_cons (pv 3) (pa_cons (pv 8) (pa_cons (pv 9) pa_nil))))))))))) (pss_one (ps_ret pe_bl)) pss_nil)))
        (pss_one (ps_ret pe_bl)))))))))))), ?_⟩
  walk_at "begin"
  walk_at "rd"
  refine ⟨a, ns, rfl, ⟨hS, hlen⟩, fun ql H1 ms hql S1 hQ hms => ?_⟩
  have hS1 := S1.sql0 hS
  walk_at "rd"
  refine ⟨a, ns, 2, rfl, hS1, fun c2 => ?_⟩
  walk_at "rd"
  refine ⟨ql, ms, c2, rfl, ⟨SqL.of hQ, by omega⟩, fun rq H2 row ks hrq S2 hR hrow hkl => ?_⟩
  have hrl := hrow.1
  walk_at "rd"
  refine ⟨rq, row, kOf H2, rfl, SqL.of hR, fun x hx => ?_, fun zs zl hsrt hstb hzl => ?_⟩
  · obtain ⟨i, hi, e⟩ := List.getElem_of_mem hx
    obtain ⟨t, h1, h2⟩ := hrow.2 i x (by rw [← e]; exact List.getElem?_eq_getElem hi)
    exact ⟨t, h1, by rw [h1, kOf_at h2]; exact h2⟩
  have hzs : ∀ x ∈ zs, ∃ (t : Addr) (p : Nat), x = .ref t ∧ H2 t = some (.tup [.int (getE ks p), .int (p : Nat)]) ∧ p < ks.length := fun x hx => by
    obtain ⟨i, hi, e⟩ := List.getElem_of_mem (hstb.perm.mem_iff.mp hx)
    obtain ⟨t, h1, h2⟩ := hrow.2 i x (by rw [← e]; exact List.getElem?_eq_getElem hi)
    exact ⟨t, i, h1, h2, by omega⟩
  have hzl2 := hstb.len
  walk_at "rd"
  intro D2 hD2
  refine lc_it (walk_list (xs := zs)) (fun j H' => Stp [] (upd H2 zl (.lst zs)) H' ∧ ∃ ord : List Nat, ord.length = j ∧ (∀ (i o : Nat), ord[i]? = some o → ∃ t, zs[i]? = some (.ref t) ∧ H2 t = some (.tup [.int (getE ks o), .int (o : Nat)])) ∧ H' D2 = some (.lst (nv ord))) ⟨(Stp.refl _ _).new hD2, [], rfl, (by intro i o e; simp at e), upd_same⟩ (fun j H' _ z => z.1.sql0 (SqL.of upd_same)) ?_ ?_
  · rintro j x H4 H5 hj ⟨S, ord, hol, hord, hL⟩ ⟨rfl, hx⟩
    obtain ⟨t, p, rfl, ht, hp1⟩ := hzs x (List.mem_of_getElem? hx)
    have ht5 := S.tup (upd_old (u := .lst zs) ht hzl)
    walk_at "rd"
    refine v_ixTn (n := 1) (SqT.of ht5) rfl rfl ?_
    refine ⟨_, hL, Nat.lt_of_le_of_lt (m := 1000) (by rw [List.length_map]; omega) (by decide), S.putN hD2, ord ++ [p], by simp [hol], fun i o e => ?_, by rw [upd_same, nv_app]⟩
    by_cases hi : i < ord.length
    · rw [List.getElem?_append_left hi] at e; exact hord i o e
    · rw [List.getElem?_append_right (by omega)] at e
      have hz : i = ord.length := by
        have := (List.getElem?_eq_some_iff.mp e).1
        simp at this; omega
      subst hz
      simp at e
      subst e
      exact ⟨t, by rw [hol]; exact hx, ht⟩
  rintro H4 ⟨S4, ord, hol, hord, hO4⟩
  have hOrd := sorted_ord hrow hsrt hstb.perm hol hord
  have S24 : Stp [] H2 H4 := (Stp.refl _ _ |>.new hzl).trans S4
  have hR4 := S24.keep0 hR
  have hrow4 := hrow.stp S24
  have holn := hOrd.len
  clear S4 hD2 hzl hsrt hstb hzl2 hord hol hzs
  walk_at "rd"
  have S04 : Stp [] H H4 := S1.trans (S2.trans S24)
  have hTb4 := tabs_stp hTb S04
  have hS4 := S04.sql0 hS
  have hQ4 := (S2.trans S24).keep0 hQ
  refine ⟨a, ns, 2, rfl, hS4, fun c2' => ?_⟩
  walk_at "rd"
  refine ⟨D2, ql, ord, ms, c2', rfl, ⟨SqL.of hO4, SqL.of hQ4, by omega, by omega⟩, fun sq ad sl H5 hsq hadf S5 hsq5 had5 had2 hsp => ?_⟩
  have hTb5 := tabs_stp hTb4 S5
  have hS5 := S5.sql0 hS4
  have hR5 := S5.keep0 hR4
  have hrow5 := hrow4.stp S5
  have hO5 := S5.keep0 hO4
  clear S5 hTb4 hR4 hrow4 hO4 S1 S2 S24 S04 hQ4 hR hQ hrow hTb hS hS1 hrq hql
  walk_at "rd"
  intro tl htl
  have S6 : Stp [] H5 (upd H5 tl (.lst [])) := (Stp.refl _ _).new htl
  have hS6 := S6.sql0 hS5
  have hO6 := S6.keep0 hO5
  have hsq6 := S6.keep0 hsq5
  have had6 : ∀ b, upd H5 tl (.lst []) (ad b) = some (.lst (nv (sl b))) := fun b => S6.keep0 (had5 b)
  walk_at "rq"
  refine askmake (m := none) (us := []) rfl rfl (S6.keep0 hR5) (hrow5.stp S6) (tabs_stp hTb5 S6) upd_same isl_nil (by omega) (by simp) (fun H Q h => h) rfl fun H8 I hM => ?_
  have hA := hM.at_
  have hS8 := sql_extN hM.ext hS6
  have hR8 := ext_lst hM.ext (S6.keep0 hR5)
  have hrow8 := (hrow5.stp S6).ext hM.ext
  have hO8 := ext_lst hM.ext hO6
  have hsq8 := ext_lst hM.ext hsq6
  have had8 : ∀ b, H8 (ad b) = some (.lst (nv (sl b))) := fun b => ext_lst hM.ext (had6 b)
  have hOM := hM.far _ _ hO6 (ne_of_none hO5 htl)
  have hRM := hM.far _ _ (S6.keep0 hR5) (ne_of_none hR5 htl)
  have hsqM := hM.far _ _ hsq6 (ne_of_none hsq5 htl)
  have hadM : ∀ b, ad b ∉ I.M := fun b => hM.far _ _ (had6 b) (ne_of_none (had5 b) htl)
  have hlt := hM.lt
  have hn := hM.n
  have hpre := hM.e3
  have htlI := hM.e1
  have em := hM.e5
  have hTb8 := hM.tab
  have hSS : ∀ H', Stp I.M H8 H' → SqL K H' a (ns.map V.int) := by
    rcases sql_or hS5 with ⟨ax5, g1, g2 | g2⟩
    · intro H' S
      obtain ⟨o, ho⟩ := Option.ne_none_iff_exists'.mp (g1 _ g2)
      exact S.sql hS8 (hM.far a o (S6.keep0 ho) (ne_of_none ho htl))
    · exact fun H' _ => g2 H'
  clear S6 hsq6 had6 hO6 hR5 hrow5 hTb5 hO5 hsq5 had5 hM htl hadf hsq hS6 hS5 hS4
  walk_at "rd"
  refine v_ixLn (n := 0) (SqL.of hsq8) rfl rfl ?_
  walk_at "rd"
  refine w_listL (SqL.of (had8 _)) fun h0 hh0 => ?_
  walk_at "rd"
  refine v_ixLn (n := 1) (SqL.of (upd_old hsq8 hh0)) rfl rfl ?_
  walk_at "rd"
  refine w_listL (SqL.of (upd_old (had8 _) hh0)) fun h1 hh1 => ?_
  walk_at "rd"
  have S10 := ((Stp.refl [] H8).new (o := .lst (nv (sl false))) hh0).new (o := .lst (nv (sl true))) hh1
  have i0 := upd_old (u := .lst (nv (sl true))) (upd_same (H := H8) (a := h0) (o := .lst (nv (sl false)))) hh1
  have i1 := upd_same (H := upd H8 h0 (.lst (nv (sl false)))) (a := h1) (o := .lst (nv (sl true)))
  have hA10 := hA.stp S10 (by simp)
  have m0 := hA.fresh hh0
  have m1 := hA.fresh (upd_free hh1).1
  generalize upd (upd H8 h0 (.lst (nv (sl false)))) h1 (.lst (nv (sl true))) = H10 at S10 i0 i1 hA10 ⊢
  have h0l := hsp.lenb false
  have h1l := hsp.lenb true
  have hoI : ∀ b, ∀ o ∈ sl b, o < I.n := fun b o ho => by rw [hn]; exact hOrd.lt (hsp.mem ho)
  refine ⟨I, [], h0, h1, sl false, sl true, rfl, ⟨hA10, i0, i1, m0, m1, hoI false, hoI true, hsp.dis hOrd.nodup, by omega, by omega, by rw [hpre]; simp⟩, Stop.free em, fun H11 q es res hq hesl hT hJ S11 hA11 hq11 => ?_⟩
  rw [LR_eq] at hJ
  rw [List.nil_append] at hA11
  have hTe : ∀ e ∈ es, e.c = decide (getE ks e.a < getE ks e.b) := Told.all (by rw [hlt] at hT; exact hT)
  obtain rfl := hJ.order hOrd hsp hTe
  have S811 : Stp I.M H8 H11 := (S10.mono (by simp)).trans S11
  have hO11 := S811.keep hO8 hOM
  have hsq11 := S811.keep hsq8 hsqM
  have had11 : ∀ b, H11 (ad b) = some (.lst (nv (sl b))) := fun b => S811.keep (had8 b) (hadM b)
  have hR11 := S811.keep hR8 hRM
  have hrow11 := hrow8.stp S811
  have hTb11 := tabs_ask hTb8 hA S811
  have hs11 := hA11.hs
  unfold AskM at hs11
  obtain ⟨tvs, htl11, htv11⟩ := hA11.ht
  rw [hpre, List.nil_append] at htv11
  rw [htlI] at htl11
  have htvl := isl_len htv11
  walk_at "rd"
  refine v_neE (is_lst (SqL.of hq11) isl_nats) (is_lst (SqL.of hO11) isl_nats) ?_
  rw [decide_eq_true rfl]
  walk_at "rd"
  rw [if_neg (by simp; omega)]
  walk_at "rd"
  refine ⟨a, ns, 3, rfl, hSS _ S811, fun c3 => ?_⟩
  walk_at "rd"
  intro zl hzl
  have f0 := Int.emod_nonneg c3 (show ((es.length : Int) + 1) ≠ 0 by omega)
  have f1 := Int.emod_lt_of_pos c3 (show (0 : Int) < ((es.length : Int) + 1) by omega)
  obtain ⟨last, hlast⟩ : ∃ m : Nat, c3 % ((es.length : Int) + 1) = m := ⟨(c3 % ((es.length : Int) + 1)).toNat, by omega⟩
  rw [htvl] at *
  rw [hlast] at f0 f1 ⊢
  clear hlast
  have S12 := (Stp.refl [] H11).new (o := .lst [.int es.length, .int ((es.length : Int) - 1), .int 0, .int last]) hzl
  have hz12 := upd_same (H := H11) (a := zl) (o := .lst [.int es.length, .int ((es.length : Int) - 1), .int 0, .int last])
  have hO12 := S12.keep0 hO11
  have hsq12 := S12.keep0 hsq11
  have had12 : ∀ b, upd H11 zl (.lst [.int es.length, .int ((es.length : Int) - 1), .int 0, .int last]) (ad b) = some (.lst (nv (sl b))) := fun b => S12.keep0 (had11 b)
  have hR12 := S12.keep0 hR11
  have hrow12 := hrow11.stp S12
  have hTb12 := tabs_stp hTb11 S12
  generalize upd H11 zl (.lst [.int es.length, .int ((es.length : Int) - 1), .int 0, .int last]) = H12 at hz12 hO12 hsq12 had12 hR12 hrow12 hTb12 ⊢
  have hrow8l := hrow8.1
  clear S12 hO11 hsq11 had11 hR11 hrow11 hTb11 hs11 htl11 htv11 hq11 S811 S11 hA11 hA10 S10 i0 i1 m0 m1 hSS hS8 hR8 hrow8 hO8 hsq8 had8 hA hzl hTb8
  walk_at "rd"
  refine for_it (walk_list (xs := [V.int es.length, .int ((es.length : Int) - 1), .int 0, .int last])) (fun j σ H' => (ExtN H12 H' ∧ TabsN (Tb A) H') ∧ ∃ v9, σ = [some (.ref a), some (.ref ql), some (.ref rq), some (.ref D2), some (.ref sq), some (.ref tl), some (.ref I.s), some (.ref q), some (.int es.length), v9, none])
    ⟨⟨fun b o h _ => h, hTb12⟩, _, rfl⟩ (fun j σ H' _ z => sql_extN z.1.1 (SqL.of hz12)) ?_ ?_
  · rintro j x σ H13 H14 hj ⟨⟨hE, hT13⟩, v9, rfl⟩ ⟨rfl, hx⟩
    obtain ⟨m, rfl, hm⟩ : ∃ m : Int, x = .int m ∧ m ≤ es.length := by
      match j, hx with
      | 0, hx => cases hx; exact ⟨_, rfl, by omega⟩
      | 1, hx => cases hx; exact ⟨_, rfl, by omega⟩
      | 2, hx => cases hx; exact ⟨_, rfl, by omega⟩
      | 3, hx => cases hx; exact ⟨_, rfl, by omega⟩
      | j + 4, hx => simp at hx
    walk_at "rd"
    by_cases h0 : 0 ≤ m
    · obtain ⟨m', rfl⟩ := Int.eq_ofNat_of_zero_le h0
      rw [if_pos (decide_eq_true h0)]
      walk_at "rd"
      refine ⟨rq, sq, D2, ad, sl, row, ks, _, es, m', rfl, ⟨⟨ext_lst hE hR12, hrow12.ext hE, by omega, hT13, ext_lst hE hsq12, fun b => ext_lst hE (had12 b), ext_lst hE hO12⟩, ⟨hOrd, hsp, hJ, hTe, by omega, by omega, fun hne => ?_⟩⟩, fun H15 x1 x2 => ?_⟩
      · by_cases h1 : 1 < ks.length
        · exact h1
        · exfalso
          have := hsp.len
          have := hOrd.len
          exact hne (hJ.out (show (sl false).length ≤ 0 ∨ (sl true).length ≤ 0 by omega)).1
      · walk_at "rd"
        exact ⟨⟨hE.trans x1, x2⟩, _, rfl⟩
    · rw [if_neg (by simpa using h0)]
      walk_at "rd"
      exact ⟨⟨hE, hT13⟩, _, rfl⟩
  rintro σ H13 ⟨⟨hE, hT13⟩, v9, rfl⟩
  walk_at "rd"
  exact k _
theorem all_mk {l : PySem.W.OpenLaw} {w : World} {K : PySem.W.Frag} {h : Heap} {mg : Str → Option Value} {fa : Addr} (X : K.In h) (G : h.Ns mainGlobals mg) (hfa : mg "law" = some (.ref fa))
    {f1 f2 f3 f4 f5 f6 f7 f8 f9 f10 f11 f12 f13 f14 f15 f16 f17 f18 f19 f20 f21 c_HallError c_NoPlace c_Spent c_Asker c_Rule c_AskedRule : Addr} {od1 an1 od2 an2 od3 an3 od4 an4 od5 an5 od6 an6 od7 an7 od8 an8 od9 an9 od10 an10 od11 an11 od12 an12 od13 an13 od14 an14 od15 an15 od16 an16 od17 an17 od18 an18 od19 an19 od20 an20 od21 an21 : Option Addr} {sl1 sl2 sl3 sl4 sl5 sl6 sl7 sl8 sl9 sl10 sl11 sl12 sl13 sl14 sl15 sl16 sl17 sl18 sl19 sl20 sl21 : Array (Option Value)} {oc1 kV1 dc1 pm1 ct1 oc2 kV2 dc2 pm2 cd2 ct2 oc3 kV3 dc3 pm3 cd3 ct3 oc4 kV4 dc4 pm4 cd4 ct4 oc5 kV5 dc5 pm5 cd5 ct5 oc6 kV6 dc6 pm6 cd6 ct6 oc7 kV7 dc7 pm7 cd7 ct7 oc8 kV8 dc8 pm8 cd8 ct8 oc9 kV9 dc9 pm9 cd9 ct9 oc10 kV10 dc10 pm10 cd10 ct10 oc11 kV11 dc11 pm11 cd11 ct11 oc12 kV12 dc12 pm12 cd12 ct12 oc13 kV13 dc13 pm13 cd13 ct13 oc14 kV14 dc14 pm14 cd14 ct14 oc15 kV15 dc15 pm15 cd15 ct15 oc16 kV16 dc16 pm16 cd16 ct16 oc17 kV17 dc17 pm17 cd17 ct17 oc18 kV18 dc18 pm18 cd18 ct18 oc19 kV19 dc19 pm19 cd19 ct19 oc20 kV20 dc20 pm20 cd20 ct20 oc21 kV21 dc21 pm21 cd21 ct21 : Value} {nm_Spent q_Spent : Str} {N_Spent : Addr} {bs_Spent : List Value} {sn_Spent : List Str} {su_Spent : List Value} {ab_Spent : Bool} {co_Spent : Option Bool} {dd_Spent : Option Addr} {m0_Spent m1_Spent m2_Spent m3_Spent m5_Spent : Option Value} {cc1 : Addr} {oK1 : Value} {uK1 : Option Addr} {vs1 : Array Value} {sK1 : Array (Option Value)} {P1 : Addr} {dT8 : Addr} {oT8 : Value} {oU8 : Option Addr} {tsl8 : Array (Option Value)} {nT8 : Nat} {t_WINS : Tok}
    (aC_HallError : PySem.W.nsIn K mainGlobals "HallError" = some (some (.ref c_HallError)))
    (xn_HallError : PySem.W.excIn K c_HallError [.type "ValueError", .type "Exception", .type "BaseException", .type "object"] "ValueError.__new__" = true)
    (kp_HallError : PySem.W.keepIn K (.ref c_HallError) = true)
    (sb_HallError : PySem.W.subIn K (.ref c_HallError) (.type "BaseException") = some true)
    (ty_HallError : PySem.W.typeIn K (.ref c_HallError) = some (.type "type"))
    (e0_HallError : PySem.W.findIn K (.ref c_HallError) "__getattribute__" = some (some (.builtin "BaseException.__getattribute__")))
    (e1_HallError : PySem.W.findIn K (.ref c_HallError) "__getattr__" = some none)
    (e2_HallError : PySem.W.subIn K (.ref c_HallError) (.type "BaseException") = some true)
    (e3_HallError : PySem.W.hasDictIn K c_HallError = true)
    (e4_HallError : PySem.W.findIn K (.ref c_HallError) "__class__" = some (some (.builtin "object.__class__")))
    (e5_HallError : PySem.W.specialIn K (.builtin "object.__class__") "__get__" = some (some (.builtin "getset_descriptor.__get__")))
    (e6_HallError : PySem.W.takesIn K (.builtin "object.__class__") = some true)
    (e7_HallError : PySem.W.mroIn K c_HallError (.type "object") = some true)
    (aC_NoPlace : PySem.W.nsIn K mainGlobals "NoPlace" = some (some (.ref c_NoPlace)))
    (aC_Spent : PySem.W.nsIn K mainGlobals "Spent" = some (some (.ref c_Spent)))
    (xL_Spent : K.lookup c_Spent = some (excClassObj nm_Spent q_Spent c_Spent N_Spent bs_Spent [.ref c_HallError, .type "ValueError", .type "Exception", .type "BaseException", .type "object"] true sn_Spent su_Spent ab_Spent co_Spent dd_Spent m0_Spent m1_Spent m2_Spent m3_Spent m5_Spent "ValueError.__new__"))
    (sa_Spent : PySem.W.findIn K (.ref c_Spent) "__setattr__" = some (some (.builtin "object.__setattr__")))
    (in_Spent : PySem.W.findIn K (.ref c_Spent) "__init__" = some (some (.ref f2)))
    (tI_Spent : PySem.W.typeIn K (.ref f2) = some (.type "function"))
    (na_Spent_asked : PySem.W.findIn K (.ref c_Spent) "asked" = some none)
    (kp_Spent : PySem.W.keepIn K (.ref c_Spent) = true)
    (sb_Spent : PySem.W.subIn K (.ref c_Spent) (.type "BaseException") = some true)
    (ty_Spent : PySem.W.typeIn K (.ref c_Spent) = some (.type "type"))
    (e0_Spent : PySem.W.findIn K (.ref c_Spent) "__getattribute__" = some (some (.builtin "BaseException.__getattribute__")))
    (e1_Spent : PySem.W.findIn K (.ref c_Spent) "__getattr__" = some none)
    (e2_Spent : PySem.W.subIn K (.ref c_Spent) (.type "BaseException") = some true)
    (e3_Spent : PySem.W.hasDictIn K c_Spent = true)
    (e4_Spent : PySem.W.findIn K (.ref c_Spent) "__class__" = some (some (.builtin "object.__class__")))
    (e5_Spent : PySem.W.specialIn K (.builtin "object.__class__") "__get__" = some (some (.builtin "getset_descriptor.__get__")))
    (e6_Spent : PySem.W.takesIn K (.builtin "object.__class__") = some true)
    (e7_Spent : PySem.W.mroIn K c_Spent (.type "object") = some true)
    (aC_Asker : PySem.W.nsIn K mainGlobals "Asker" = some (some (.ref c_Asker)))
    (pg_Asker : PySem.W.plainGet K c_Asker Str.empty = true)
    (hd_Asker : PySem.W.hasDictIn K c_Asker = true)
    (po_Asker : PySem.W.plainOver K c_Asker = true)
    (sa_Asker : PySem.W.findIn K (.ref c_Asker) "__setattr__" = some (some (.builtin "object.__setattr__")))
    (mk_Asker : PySem.W.makesIn K c_Asker = true)
    (kc_Asker : PySem.W.keepIn K (.ref c_Asker) = true)
    (na_Asker_row : PySem.W.findIn K (.ref c_Asker) "row" = some none)
    (na_Asker_rule : PySem.W.findIn K (.ref c_Asker) "rule" = some none)
    (na_Asker_most : PySem.W.findIn K (.ref c_Asker) "most" = some none)
    (na_Asker_asked : PySem.W.findIn K (.ref c_Asker) "asked" = some none)
    (na_Asker_log : PySem.W.findIn K (.ref c_Asker) "log" = some none)
    (aC_Rule : PySem.W.nsIn K mainGlobals "Rule" = some (some (.ref c_Rule)))
    (pg_Rule : PySem.W.plainGet K c_Rule Str.empty = true)
    (hd_Rule : PySem.W.hasDictIn K c_Rule = true)
    (po_Rule : PySem.W.plainOver K c_Rule = true)
    (sa_Rule : PySem.W.findIn K (.ref c_Rule) "__setattr__" = some (some (.builtin "object.__setattr__")))
    (mk_Rule : PySem.W.makesIn K c_Rule = true)
    (kc_Rule : PySem.W.keepIn K (.ref c_Rule) = true)
    (aC_AskedRule : PySem.W.nsIn K mainGlobals "AskedRule" = some (some (.ref c_AskedRule)))
    (pg_AskedRule : PySem.W.plainGet K c_AskedRule Str.empty = true)
    (hd_AskedRule : PySem.W.hasDictIn K c_AskedRule = true)
    (po_AskedRule : PySem.W.plainOver K c_AskedRule = true)
    (sa_AskedRule : PySem.W.findIn K (.ref c_AskedRule) "__setattr__" = some (some (.builtin "object.__setattr__")))
    (mk_AskedRule : PySem.W.makesIn K c_AskedRule = true)
    (kc_AskedRule : PySem.W.keepIn K (.ref c_AskedRule) = true)
    (na_AskedRule_teller : PySem.W.findIn K (.ref c_AskedRule) "teller" = some none)
    (a1 : PySem.W.nsIn K mainGlobals "_law_teller" = some (some (.ref f1)))
    (l1 : K.lookup f1 = some ⟨oc1, od1, .func (PySem.W.fnOf "_law_teller" "_law_teller" (defArgs s__law_teller) (defBody s__law_teller) (defScope s__law_teller) .none kV1 dc1 pm1 an1 (.ref cc1) ct1), sl1⟩)
    (lc1 : K.lookup cc1 = some ⟨oK1, uK1, .fields vs1, sK1⟩)
    (lp1 : (vs1[11]? : Option Value) = some (.ref P1))
    (hh1 : PySem.W.codeHdIn K cc1 P1 = true)
    (np1 : K.lookup P1 = Option.none)
    (gp1 : mainGlobals ≠ P1)
    (tp1 : h.get? P1 = some (PySem.W.tabObj #[]))
    (c1 : PySem.W.codeIn K (.ref cc1) "_law_teller" = true)
    (k1 : PySem.W.keepIn K (.ref f1) = true)
    (i2 : PySem.W.isFn K (.ref f2) = true)
    (l2 : K.lookup f2 = some ⟨oc2, od2, .func (PySem.W.fnOf "__init__" "Spent.__init__" (defArgs s_Spent___init__) (defBody s_Spent___init__) (defScope s_Spent___init__) .none kV2 dc2 pm2 an2 cd2 ct2), sl2⟩)
    (c2 : PySem.W.codeIn K cd2 "Spent.__init__" = true)
    (k2 : PySem.W.keepIn K (.ref f2) = true)
    (a3_AskedRule : PySem.W.findIn K (.ref c_AskedRule) "__init__" = some (some (.ref f3)))
    (i3 : PySem.W.isFn K (.ref f3) = true)
    (l3 : K.lookup f3 = some ⟨oc3, od3, .func (PySem.W.fnOf "__init__" "AskedRule.__init__" (defArgs s_AskedRule___init__) (defBody s_AskedRule___init__) (defScope s_AskedRule___init__) .none kV3 dc3 pm3 an3 cd3 ct3), sl3⟩)
    (c3 : PySem.W.codeIn K cd3 "AskedRule.__init__" = true)
    (k3 : PySem.W.keepIn K (.ref f3) = true)
    (a4_AskedRule : PySem.W.findIn K (.ref c_AskedRule) "before" = some (some (.ref f4)))
    (i4 : PySem.W.isFn K (.ref f4) = true)
    (l4 : K.lookup f4 = some ⟨oc4, od4, .func (PySem.W.fnOf "before" "AskedRule.before" (defArgs s_AskedRule_before) (defBody s_AskedRule_before) (defScope s_AskedRule_before) .none kV4 dc4 pm4 an4 cd4 ct4), sl4⟩)
    (c4 : PySem.W.codeIn K cd4 "AskedRule.before" = true)
    (k4 : PySem.W.keepIn K (.ref f4) = true)
    (a5_Asker : PySem.W.findIn K (.ref c_Asker) "ahead" = some (some (.ref f5)))
    (i5 : PySem.W.isFn K (.ref f5) = true)
    (l5 : K.lookup f5 = some ⟨oc5, od5, .func (PySem.W.fnOf "ahead" "Asker.ahead" (defArgs s_Asker_ahead) (defBody s_Asker_ahead) (defScope s_Asker_ahead) .none kV5 dc5 pm5 an5 cd5 ct5), sl5⟩)
    (c5 : PySem.W.codeIn K cd5 "Asker.ahead" = true)
    (k5 : PySem.W.keepIn K (.ref f5) = true)
    (a6_Asker : PySem.W.findIn K (.ref c_Asker) "widen" = some (some (.ref f6)))
    (i6 : PySem.W.isFn K (.ref f6) = true)
    (l6 : K.lookup f6 = some ⟨oc6, od6, .func (PySem.W.fnOf "widen" "Asker.widen" (defArgs s_Asker_widen) (defBody s_Asker_widen) (defScope s_Asker_widen) .none kV6 dc6 pm6 an6 cd6 ct6), sl6⟩)
    (c6 : PySem.W.codeIn K cd6 "Asker.widen" = true)
    (k6 : PySem.W.keepIn K (.ref f6) = true)
    (a7_Asker : PySem.W.findIn K (.ref c_Asker) "many" = some (some (.ref f7)))
    (i7 : PySem.W.isFn K (.ref f7) = true)
    (l7 : K.lookup f7 = some ⟨oc7, od7, .func (PySem.W.fnOf "many" "Asker.many" (defArgs s_Asker_many) (defBody s_Asker_many) (defScope s_Asker_many) .none kV7 dc7 pm7 an7 cd7 ct7), sl7⟩)
    (c7 : PySem.W.codeIn K cd7 "Asker.many" = true)
    (k7 : PySem.W.keepIn K (.ref f7) = true)
    (a8_Asker : PySem.W.findIn K (.ref c_Asker) "__init__" = some (some (.ref f8)))
    (i8 : PySem.W.isFn K (.ref f8) = true)
    (l8 : K.lookup f8 = some ⟨oc8, od8, .func (PySem.W.fnOf "__init__" "Asker.__init__" (defArgs s_Asker___init__) (defBody s_Asker___init__) (defScope s_Asker___init__) (.ref dT8) kV8 dc8 pm8 an8 cd8 ct8), sl8⟩)
    (lt8 : K.lookup dT8 = some ⟨oT8, oU8, .seq ([Value.none] : List Value).toArray nT8, tsl8⟩)
    (c8 : PySem.W.codeIn K cd8 "Asker.__init__" = true)
    (k8 : PySem.W.keepIn K (.ref f8) = true)
    (a9 : PySem.W.nsIn K mainGlobals "halved_between" = some (some (.ref f9)))
    (l9 : K.lookup f9 = some ⟨oc9, od9, .func (PySem.W.fnOf "halved_between" "halved_between" (defArgs s_halved_between) (defBody s_halved_between) (defScope s_halved_between) .none kV9 dc9 pm9 an9 cd9 ct9), sl9⟩)
    (c9 : PySem.W.codeIn K cd9 "halved_between" = true)
    (k9 : PySem.W.keepIn K (.ref f9) = true)
    (a10 : PySem.W.nsIn K mainGlobals "leap" = some (some (.ref f10)))
    (l10 : K.lookup f10 = some ⟨oc10, od10, .func (PySem.W.fnOf "leap" "leap" (defArgs s_leap) (defBody s_leap) (defScope s_leap) .none kV10 dc10 pm10 an10 cd10 ct10), sl10⟩)
    (c10 : PySem.W.codeIn K cd10 "leap" = true)
    (k10 : PySem.W.keepIn K (.ref f10) = true)
    (a11 : PySem.W.nsIn K mainGlobals "leap_taken" = some (some (.ref f11)))
    (l11 : K.lookup f11 = some ⟨oc11, od11, .func (PySem.W.fnOf "leap_taken" "leap_taken" (defArgs s_leap_taken) (defBody s_leap_taken) (defScope s_leap_taken) .none kV11 dc11 pm11 an11 cd11 ct11), sl11⟩)
    (c11 : PySem.W.codeIn K cd11 "leap_taken" = true)
    (k11 : PySem.W.keepIn K (.ref f11) = true)
    (a12 : PySem.W.nsIn K mainGlobals "joined" = some (some (.ref f12)))
    (l12 : K.lookup f12 = some ⟨oc12, od12, .func (PySem.W.fnOf "joined" "joined" (defArgs s_joined) (defBody s_joined) (defScope s_joined) .none kV12 dc12 pm12 an12 cd12 ct12), sl12⟩)
    (c12 : PySem.W.codeIn K cd12 "joined" = true)
    (k12 : PySem.W.keepIn K (.ref f12) = true)
    (a13 : PySem.W.nsIn K mainGlobals "_law_cell_at" = some (some (.ref f13)))
    (l13 : K.lookup f13 = some ⟨oc13, od13, .func (PySem.W.fnOf "_law_cell_at" "_law_cell_at" (defArgs s__law_cell_at) (defBody s__law_cell_at) (defScope s__law_cell_at) .none kV13 dc13 pm13 an13 cd13 ct13), sl13⟩)
    (c13 : PySem.W.codeIn K cd13 "_law_cell_at" = true)
    (k13 : PySem.W.keepIn K (.ref f13) = true)
    (a14 : PySem.W.nsIn K mainGlobals "_law_sides" = some (some (.ref f14)))
    (l14 : K.lookup f14 = some ⟨oc14, od14, .func (PySem.W.fnOf "_law_sides" "_law_sides" (defArgs s__law_sides) (defBody s__law_sides) (defScope s__law_sides) .none kV14 dc14 pm14 an14 cd14 ct14), sl14⟩)
    (c14 : PySem.W.codeIn K cd14 "_law_sides" = true)
    (k14 : PySem.W.keepIn K (.ref f14) = true)
    (a15 : PySem.W.nsIn K mainGlobals "_law_stream" = some (some (.ref f15)))
    (l15 : K.lookup f15 = some ⟨oc15, od15, .func (PySem.W.fnOf "_law_stream" "_law_stream" (defArgs s__law_stream) (defBody s__law_stream) (defScope s__law_stream) .none kV15 dc15 pm15 an15 cd15 ct15), sl15⟩)
    (c15 : PySem.W.codeIn K cd15 "_law_stream" = true)
    (k15 : PySem.W.keepIn K (.ref f15) = true)
    (a16 : PySem.W.nsIn K mainGlobals "_law_numbers" = some (some (.ref f16)))
    (l16 : K.lookup f16 = some ⟨oc16, od16, .func (PySem.W.fnOf "_law_numbers" "_law_numbers" (defArgs s__law_numbers) (defBody s__law_numbers) (defScope s__law_numbers) .none kV16 dc16 pm16 an16 cd16 ct16), sl16⟩)
    (c16 : PySem.W.codeIn K cd16 "_law_numbers" = true)
    (k16 : PySem.W.keepIn K (.ref f16) = true)
    (a17 : PySem.W.nsIn K mainGlobals "_law_row" = some (some (.ref f17)))
    (l17 : K.lookup f17 = some ⟨oc17, od17, .func (PySem.W.fnOf "_law_row" "_law_row" (defArgs s__law_row) (defBody s__law_row) (defScope s__law_row) .none kV17 dc17 pm17 an17 cd17 ct17), sl17⟩)
    (c17 : PySem.W.codeIn K cd17 "_law_row" = true)
    (k17 : PySem.W.keepIn K (.ref f17) = true)
    (a18 : PySem.W.nsIn K mainGlobals "_law_tried" = some (some (.ref f18)))
    (l18 : K.lookup f18 = some ⟨oc18, od18, .func (PySem.W.fnOf "_law_tried" "_law_tried" (defArgs s__law_tried) (defBody s__law_tried) (defScope s__law_tried) .none kV18 dc18 pm18 an18 cd18 ct18), sl18⟩)
    (c18 : PySem.W.codeIn K cd18 "_law_tried" = true)
    (k18 : PySem.W.keepIn K (.ref f18) = true)
    (a19 : PySem.W.nsIn K mainGlobals "_law_refused" = some (some (.ref f19)))
    (l19 : K.lookup f19 = some ⟨oc19, od19, .func (PySem.W.fnOf "_law_refused" "_law_refused" (defArgs s__law_refused) (defBody s__law_refused) (defScope s__law_refused) .none kV19 dc19 pm19 an19 cd19 ct19), sl19⟩)
    (c19 : PySem.W.codeIn K cd19 "_law_refused" = true)
    (k19 : PySem.W.keepIn K (.ref f19) = true)
    (a20 : PySem.W.nsIn K mainGlobals "_law_stopped" = some (some (.ref f20)))
    (l20 : K.lookup f20 = some ⟨oc20, od20, .func (PySem.W.fnOf "_law_stopped" "_law_stopped" (defArgs s__law_stopped) (defBody s__law_stopped) (defScope s__law_stopped) .none kV20 dc20 pm20 an20 cd20 ct20), sl20⟩)
    (c20 : PySem.W.codeIn K cd20 "_law_stopped" = true)
    (k20 : PySem.W.keepIn K (.ref f20) = true)
    (a21 : PySem.W.nsIn K mainGlobals "law" = some (some (.ref f21)))
    (l21 : K.lookup f21 = some ⟨oc21, od21, .func (PySem.W.fnOf "law" "law" (defArgs s_law) (defBody s_law) (defScope s_law) .none kV21 dc21 pm21 an21 cd21 ct21), sl21⟩)
    (c21 : PySem.W.codeIn K cd21 "law" = true)
    (k21 : PySem.W.keepIn K (.ref f21) = true)
    (z_ValueError : PySem.W.nsIn K mainGlobals "ValueError" = some none)
    (z_range : PySem.W.nsIn K mainGlobals "range" = some none)
    (z_len : PySem.W.nsIn K mainGlobals "len" = some none)
    (z_int : PySem.W.nsIn K mainGlobals "int" = some none)
    (z_list : PySem.W.nsIn K mainGlobals "list" = some none)
    (z_max : PySem.W.nsIn K mainGlobals "max" = some none)
    (z_min : PySem.W.nsIn K mainGlobals "min" = some none)
    (z_sorted : PySem.W.nsIn K mainGlobals "sorted" = some none)
    (z_isinstance : PySem.W.nsIn K mainGlobals "isinstance" = some none)
    (xs_Spent_HallError : PySem.W.subIn K (.ref c_Spent) (.ref c_HallError) = some true)
    (xs_Spent_Spent : PySem.W.subIn K (.ref c_Spent) (.ref c_Spent) = some true)
    (kits_Spent_Spent : PySem.W.kitOne K (.ref c_Spent) (.ref c_Spent) = some true)
    (kits_Spent_NoPlace : PySem.W.kitOne K (.ref c_Spent) (.ref c_NoPlace) = some false)
    (kk_WINS : PySem.W.nsIn K mainGlobals "WINS" = some (some (.int 4 t_WINS))) :
    LamX.LawAtS l w K CX0 10 63 "_law_script" mg fa h := by
  have e := hfa.symm.trans (PySem.W.mg_of X G a21)
  cases e
  let A : Ad := ⟨c_HallError, c_NoPlace, c_Spent, c_Asker, c_Rule, c_AskedRule, P1⟩
  have T : Txt K mg A := ⟨PySem.W.mg_none_of X G z_ValueError, PySem.W.mg_none_of X G z_range, PySem.W.mg_none_of X G z_len, PySem.W.mg_none_of X G z_int, PySem.W.mg_none_of X G z_list, PySem.W.mg_none_of X G z_max, PySem.W.mg_none_of X G z_min, PySem.W.mg_none_of X G z_sorted, PySem.W.mg_none_of X G z_isinstance, PySem.W.mg_of X G aC_HallError, xn_HallError, kp_HallError, sb_HallError, ty_HallError, ⟨e0_HallError, e1_HallError, e2_HallError, e3_HallError, e4_HallError, e5_HallError, e6_HallError, e7_HallError⟩, PySem.W.mg_of X G aC_NoPlace, PySem.W.mg_of X G aC_Spent, ⟨⟨_, _, _, _, _, _, _, _, _, _, _, _, _, _, _, xL_Spent, rfl⟩, sa_Spent, sb_Spent, ty_Spent, kp_Spent⟩, na_Spent_asked, kp_Spent, sb_Spent, ty_Spent, ⟨e0_Spent, e1_Spent, e2_Spent, e3_Spent, e4_Spent, e5_Spent, e6_Spent, e7_Spent⟩, PySem.W.mg_of X G aC_Asker, ⟨pg_Asker, hd_Asker, po_Asker, sa_Asker⟩, na_Asker_row, na_Asker_rule, na_Asker_most, na_Asker_asked, na_Asker_log, PySem.W.mg_of X G aC_Rule, ⟨pg_Rule, hd_Rule, po_Rule, sa_Rule⟩, PySem.W.mg_of X G aC_AskedRule, ⟨pg_AskedRule, hd_AskedRule, po_AskedRule, sa_AskedRule⟩, na_AskedRule_teller, ⟨_, PySem.W.mg_of X G kk_WINS, _, rfl⟩, PySem.W.exm_ref sb_HallError e3_HallError ty_HallError xs_Spent_HallError, PySem.W.exm_ref sb_Spent e3_Spent ty_Spent xs_Spent_Spent, kits_Spent_Spent, kits_Spent_NoPlace⟩
  have F2 := fun_mk (st := s_Spent___init__) l2 c2 k2
  have F3 := fun_mk (st := s_AskedRule___init__) l3 c3 k3
  have F4 := fun_mk (st := s_AskedRule_before) l4 c4 k4
  have F5 := fun_mk (st := s_Asker_ahead) l5 c5 k5
  have F6 := fun_mk (st := s_Asker_widen) l6 c6 k6
  have F7 := fun_mk (st := s_Asker_many) l7 c7 k7
  have F8 := SH.funD_mk (st := s_Asker___init__) (dvs := [.non]) l8 lt8 (.cons rfl .nil) (by simp) c8 k8
  have F9 := fun_mk (st := s_halved_between) l9 c9 k9
  have F10 := fun_mk (st := s_leap) l10 c10 k10
  have F11 := fun_mk (st := s_leap_taken) l11 c11 k11
  have F12 := fun_mk (st := s_joined) l12 c12 k12
  have F13 := fun_mk (st := s__law_cell_at) l13 c13 k13
  have F14 := fun_mk (st := s__law_sides) l14 c14 k14
  have F15 := fun_mk (st := s__law_stream) l15 c15 k15
  have F16 := fun_mk (st := s__law_numbers) l16 c16 k16
  have F17 := fun_mk (st := s__law_row) l17 c17 k17
  have F18 := fun_mk (st := s__law_tried) l18 c18 k18
  have F19 := fun_mk (st := s__law_refused) l19 c19 k19
  have F20 := fun_mk (st := s__law_stopped) l20 c20 k20
  have F21 := fun_mk (st := s_law) l21 c21 k21
  refine ⟨PySem.W.fnOf "law" "law" (defArgs s_law) (defBody s_law) (defScope s_law) .none kV21 dc21 pm21 an21 cd21 ct21, [(cc1, P1)], sp_law K A, (fun p hp => by rw [List.mem_singleton] at hp; rw [hp]; exact tp1), (fun p hp => by rw [List.mem_singleton] at hp; rw [hp]; exact np1), (fun p hp => by rw [List.mem_singleton] at hp; rw [hp]; exact PySem.W.codeHd_of_K X hh1), (fun s v => .of_eq rfl), (fun H a ns hl _ hcs hS => ⟨a, ns, rfl, ⟨hS, hl, fun p hp => by rw [List.mem_singleton] at hp; rw [hp]; exact SH.tabN_empty (hcs _ (List.mem_singleton.mpr rfl))⟩, fun _ => rfl⟩), fun base _ _ hTB => ?_⟩
  have TB : LamX.TabB base mg cc1 P1 := hTB _ (List.mem_singleton.mpr rfl)
  have TEL := (cok__law_teller___law_tells (P := l.prog) (w := w) (base := base) T).tel
  have O__law_teller := ok__law_teller (P := l.prog) (w := w) (base := base) (A := A) l1 c1 TB
  have O_Spent___init__ := ok_Spent___init__ (P := l.prog) (w := w) (base := base) F2 T 
  have O_AskedRule___init__ := ok_AskedRule___init__ (P := l.prog) (w := w) (base := base) F3 T 
  have O_AskedRule_before := ok_AskedRule_before (P := l.prog) (w := w) (base := base) F4 T TEL
  have X1 : SH.CalM l.prog w K mg base CX0 _ A.AskedRule "before" [] _ := ⟨T.cl_AskedRule, f4, _, _, _, ⟨a4_AskedRule, i4, k4⟩, (F4.binds (ps := ["self", "x", "y"]) fun _ _ _ _ _ _ us hl => match us, hl with | [_, _, _], _ => rfl), .nil, O_AskedRule_before⟩
  have X2 : SH.CalE l.prog w K mg base _ "Spent" A.Spent _ := ⟨T.ox_Spent, f2, _, _, T.g_Spent, in_Spent, tI_Spent, (F2.binds (ps := ["self", "asked"]) fun _ _ _ _ _ _ us hl => match us, hl with | [_, _], _ => rfl), O_Spent___init__⟩
  have O_Asker_ahead := ok_Asker_ahead (P := l.prog) (w := w) (base := base) F5 T X1 X2
  have O_Asker_widen := ok_Asker_widen (P := l.prog) (w := w) (base := base) F6 T 
  have O_Asker_many := ok_Asker_many (P := l.prog) (w := w) (base := base) F7 T 
  have O_Asker___init__ := ok_Asker___init__ (P := l.prog) (w := w) (base := base) F8 T 
  have X3 : SH.CalM l.prog w K mg base (L2N.CX l.prog w) _ A.Asker "ahead" [] _ := ⟨T.cl_Asker, f5, _, _, _, ⟨a5_Asker, i5, k5⟩, (F5.binds (ps := ["self", "p", "q"]) fun _ _ _ _ _ _ us hl => match us, hl with | [_, _, _], _ => rfl), .nil, O_Asker_ahead⟩
  have O_halved_between := ok_halved_between (P := l.prog) (w := w) (base := base) F9 T X3
  have X4 : SH.Cal l.prog w K mg base (L2N.CX l.prog w) _ "halved_between" [] _ := ⟨f9, _, _, _, PySem.W.mg_of X G a9, k9, (F9.binds (ps := ["asker", "order", "place", "low", "high"]) fun _ _ _ _ _ _ us hl => match us, hl with | [_, _, _, _, _], _ => rfl), .nil, O_halved_between⟩
  have O_leap := ok_leap (P := l.prog) (w := w) (base := base) F10 T X3 X4
  have X5 : SH.Cal l.prog w K mg base (L2N.CX l.prog w) _ "leap" [] _ := ⟨f10, _, _, _, PySem.W.mg_of X G a10, k10, (F10.binds (ps := ["asker", "order", "first", "place"]) fun _ _ _ _ _ _ us hl => match us, hl with | [_, _, _, _], _ => rfl), .nil, O_leap⟩
  have O_leap_taken := ok_leap_taken (P := l.prog) (w := w) (base := base) F11 T X5
  have X6 : SH.Cal l.prog w K mg base (L2N.CX l.prog w) _ "leap_taken" [] _ := ⟨f11, _, _, _, PySem.W.mg_of X G a11, k11, (F11.binds (ps := ["asker", "sides", "at", "side", "told"]) fun _ _ _ _ _ _ us hl => match us, hl with | [_, _, _, _, _], _ => rfl), .nil, O_leap_taken⟩
  have O_joined := ok_joined (P := l.prog) (w := w) (base := base) F12 T X3 X6
  have O__law_cell_at := ok__law_cell_at (P := l.prog) (w := w) (base := base) F13 T 
  have O__law_sides := ok__law_sides (P := l.prog) (w := w) (base := base) F14 T 
  have O__law_stream := ok__law_stream (P := l.prog) (w := w) (base := base) F15 T 
  have X7 : SH.Cal l.prog w K mg base CX0 _ "_law_cell_at" [] _ := ⟨f13, _, _, _, PySem.W.mg_of X G a13, k13, (F13.binds (ps := ["_law_script", "_law_k"]) fun _ _ _ _ _ _ us hl => match us, hl with | [_, _], _ => rfl), .nil, O__law_cell_at⟩
  have X8 : SH.Cal l.prog w K mg base CX0 _ "_law_stream" [] _ := ⟨f15, _, _, _, PySem.W.mg_of X G a15, k15, (F15.binds (ps := ["_law_seed", "_law_many"]) fun _ _ _ _ _ _ us hl => match us, hl with | [_, _], _ => rfl), .nil, O__law_stream⟩
  have O__law_numbers := ok__law_numbers (P := l.prog) (w := w) (base := base) F16 T X7 X8
  have O__law_row := ok__law_row (P := l.prog) (w := w) (base := base) F17 T 
  have X9 : SH.Cal l.prog w K mg base (L2N.CX l.prog w) _ "joined" [] _ := ⟨f12, _, _, _, PySem.W.mg_of X G a12, k12, (F12.binds (ps := ["asker", "left", "right"]) fun _ _ _ _ _ _ us hl => match us, hl with | [_, _, _], _ => rfl), .nil, O_joined⟩
  have O__law_tried := ok__law_tried (P := l.prog) (w := w) (base := base) F18 T X9
  have O__law_refused := ok__law_refused (P := l.prog) (w := w) (base := base) F19 T X3
  have X10 : SH.CalM l.prog w K mg base CX0 _ A.Asker "widen" [] _ := ⟨T.cl_Asker, f6, _, _, _, ⟨a6_Asker, i6, k6⟩, (F6.binds (ps := ["self", "more"]) fun _ _ _ _ _ _ us hl => match us, hl with | [_, _], _ => rfl), .nil, O_Asker_widen⟩
  have X11 : SH.Cal l.prog w K mg base CX0 _ "_law_refused" [] _ := ⟨f19, _, _, _, PySem.W.mg_of X G a19, k19, (F19.binds (ps := ["_law_asker"]) fun _ _ _ _ _ _ us hl => match us, hl with | [_], _ => rfl), .nil, O__law_refused⟩
  have X12 : SH.Cal l.prog w K mg base CX0 _ "_law_teller" [] _ := ⟨f1, _, _, _, PySem.W.mg_of X G a1, k1, (.all fun us hl => match us, hl with | [_], _ => rfl), .nil, O__law_teller⟩
  have X13 : SH.Cal l.prog w K mg base CX0 _ "_law_tried" [] _ := ⟨f18, _, _, _, PySem.W.mg_of X G a18, k18, (F18.binds (ps := ["_law_asker", "_law_sides_here"]) fun _ _ _ _ _ _ us hl => match us, hl with | [_, _], _ => rfl), .nil, O__law_tried⟩
  have X14 : SH.CalC l.prog w K mg base CX0 _ "AskedRule" A.AskedRule [] _ := ⟨f3, _, _, _, T.g_AskedRule, ⟨mk_AskedRule, a3_AskedRule, i3, kc_AskedRule⟩, (F3.binds (ps := ["self", "teller"]) fun _ _ _ _ _ _ us hl => match us, hl with | [_, _], _ => rfl), .nil, O_AskedRule___init__⟩
  obtain ⟨dsX15, vdX15, bdX15⟩ := F8.binds1 (ps := ["self", "row", "rule", "most"]) 4 1 (by simp) rfl (fun _ _ _ _ _ _ _ us its hu hi => match us, its, hu, hi with | [_, _, _, _], [_], _, _ => ⟨_, rfl, rfl⟩)
  have X15 : SH.CalC l.prog w K mg base CX0 _ "Asker" A.Asker [] _ := ⟨f8, _, _, _, T.g_Asker, ⟨mk_Asker, a8_Asker, i8, kc_Asker⟩, bdX15, vdX15, O_Asker___init__⟩
  have O__law_stopped := ok__law_stopped (P := l.prog) (w := w) (base := base) F20 T X10 X11 X12 X13 X14 X15
  have X16 : SH.Cal l.prog w K mg base CX0 _ "_law_numbers" [] _ := ⟨f16, _, _, _, PySem.W.mg_of X G a16, k16, (F16.binds (ps := ["_law_script"]) fun _ _ _ _ _ _ us hl => match us, hl with | [_], _ => rfl), .nil, O__law_numbers⟩
  have X17 : SH.Cal l.prog w K mg base CX0 _ "_law_row" [] _ := ⟨f17, _, _, _, PySem.W.mg_of X G a17, k17, (F17.binds (ps := ["_law_numbers_here", "_law_kind"]) fun _ _ _ _ _ _ us hl => match us, hl with | [_, _], _ => rfl), .nil, O__law_row⟩
  have X18 : SH.Cal l.prog w K mg base CX0 _ "_law_sides" [] _ := ⟨f14, _, _, _, PySem.W.mg_of X G a14, k14, (F14.binds (ps := ["_law_order", "_law_numbers_here", "_law_kind"]) fun _ _ _ _ _ _ us hl => match us, hl with | [_, _, _], _ => rfl), .nil, O__law_sides⟩
  have X19 : SH.Cal l.prog w K mg base CX0 _ "_law_stopped" [] _ := ⟨f20, _, _, _, PySem.W.mg_of X G a20, k20, (F20.binds (ps := ["_law_row_here", "_law_sides_here", "_law_order", "_law_needed", "_law_most"]) fun _ _ _ _ _ _ us hl => match us, hl with | [_, _, _, _, _], _ => rfl), .nil, O__law_stopped⟩
  obtain ⟨dsX20, vdX20, bdX20⟩ := F8.binds1 (ps := ["self", "row", "rule", "most"]) 3 0 (by simp) rfl (fun _ _ _ _ _ _ _ us its hu hi => match us, its, hu, hi with | [_, _, _], [_], _, _ => ⟨_, rfl, rfl⟩)
  have X20 : SH.CalC l.prog w K mg base CX0 _ "Asker" A.Asker [.non] _ := ⟨f8, _, _, _, T.g_Asker, ⟨mk_Asker, a8_Asker, i8, kc_Asker⟩, bdX20, vdX20, O_Asker___init__⟩
  have O_law := ok_law (P := l.prog) (w := w) (base := base) F21 T X7 X16 X17 X18 X19 X12 X9 X14 X20
  exact O_law
theorem walk {l : PySem.W.OpenLaw} {q : Program} {loose : List Str} {XP : (Str → Option Value) → Heap → Prop} {YP : World → Heap → Prop} {d : DefRec} {K : Params → PySem.W.Frag} (hn : l.most = some 63) (hdf : d.params.defaults = [])
    (hY : ∀ (w : World) (h : Heap), YP w h → (K w.params).In h)
    (F : ∀ (w : World) (mg : Str → Option Value) (fa : Addr) (h : Heap), YP w h → (K w.params).In h → h.Ns mainGlobals mg → mg d.name = some (.ref fa) → LamX.LawAtS l w (K w.params) CX0 10 63 "_law_script" mg fa h) :
    PySem.W.WalkO q loose XP YP l.row.toRowW d [] (fun f vs => PySem.call f vs) :=
  LamX.walk_ofTs (n := 63) (k := 10) (x := "_law_script") (CX := fun _ => CX0) hn (by decide) hdf ⟨rfl, by decide, by decide⟩ hY F fun _ _ _ _ _ z => z
end Law

open PySem PySem.W PyProof.Rows
set_option maxRecDepth 100000 in
set_option maxHeartbeats 0 in
theorem PySem.Challenge.cw_sorthall_k45_stopped_and_asked_again_holds : PySem.Challenge.rw_sorthall_k45_stopped_and_asked_again.Holds := by
  w_on; o_law; k_head; (case hw => w_witness2)
  k_fill
  refine Law.walk (l := PySem.Challenge.rw_sorthall_k45_stopped_and_asked_again) rfl rfl (fun w h Y => PySem.W.km_in_of Y) ?F
  case F =>
    intro w mg fa h Y KX G hmg
    refine' Law.all_mk KX G hmg ?aC_HallError ?xn_HallError ?kp_HallError ?sb_HallError ?ty_HallError ?e0_HallError ?e1_HallError ?e2_HallError ?e3_HallError ?e4_HallError ?e5_HallError ?e6_HallError ?e7_HallError ?aC_NoPlace ?aC_Spent ?xL_Spent ?sa_Spent ?in_Spent ?tI_Spent ?na_Spent_asked ?kp_Spent ?sb_Spent ?ty_Spent ?e0_Spent ?e1_Spent ?e2_Spent ?e3_Spent ?e4_Spent ?e5_Spent ?e6_Spent ?e7_Spent ?aC_Asker ?pg_Asker ?hd_Asker ?po_Asker ?sa_Asker ?mk_Asker ?kc_Asker ?na_Asker_row ?na_Asker_rule ?na_Asker_most ?na_Asker_asked ?na_Asker_log ?aC_Rule ?pg_Rule ?hd_Rule ?po_Rule ?sa_Rule ?mk_Rule ?kc_Rule ?aC_AskedRule ?pg_AskedRule ?hd_AskedRule ?po_AskedRule ?sa_AskedRule ?mk_AskedRule ?kc_AskedRule ?na_AskedRule_teller ?a1 ?l1 ?lc1 ?lp1 ?hh1 ?np1 ?gp1 ?tp1 ?c1 ?k1 ?i2 ?l2 ?c2 ?k2 ?a3_AskedRule ?i3 ?l3 ?c3 ?k3 ?a4_AskedRule ?i4 ?l4 ?c4 ?k4 ?a5_Asker ?i5 ?l5 ?c5 ?k5 ?a6_Asker ?i6 ?l6 ?c6 ?k6 ?a7_Asker ?i7 ?l7 ?c7 ?k7 ?a8_Asker ?i8 ?l8 ?lt8 ?c8 ?k8 ?a9 ?l9 ?c9 ?k9 ?a10 ?l10 ?c10 ?k10 ?a11 ?l11 ?c11 ?k11 ?a12 ?l12 ?c12 ?k12 ?a13 ?l13 ?c13 ?k13 ?a14 ?l14 ?c14 ?k14 ?a15 ?l15 ?c15 ?k15 ?a16 ?l16 ?c16 ?k16 ?a17 ?l17 ?c17 ?k17 ?a18 ?l18 ?c18 ?k18 ?a19 ?l19 ?c19 ?k19 ?a20 ?l20 ?c20 ?k20 ?a21 ?l21 ?c21 ?k21 ?z_ValueError ?z_range ?z_len ?z_int ?z_list ?z_max ?z_min ?z_sorted ?z_isinstance ?xs_Spent_HallError ?xs_Spent_Spent ?kits_Spent_Spent ?kits_Spent_NoPlace ?kk_WINS
    (case aC_HallError => k_is); (case xn_HallError => (first | k_is | k_exc)); (case kp_HallError => k_is); (case sb_HallError => k_is); (case ty_HallError => k_is); (case e0_HallError => k_is); (case e1_HallError => k_is); (case e2_HallError => k_is); (case e3_HallError => k_is); (case e4_HallError => k_is); (case e5_HallError => k_is); (case e6_HallError => k_is); (case e7_HallError => k_is); (case aC_NoPlace => k_is); (case aC_Spent => k_is); (case xL_Spent => k_is); (case sa_Spent => k_is); (case in_Spent => k_is); (case tI_Spent => k_is); (case na_Spent_asked => k_is); (case kp_Spent => k_is); (case sb_Spent => k_is); (case ty_Spent => k_is); (case e0_Spent => k_is); (case e1_Spent => k_is); (case e2_Spent => k_is); (case e3_Spent => k_is); (case e4_Spent => k_is); (case e5_Spent => k_is); (case e6_Spent => k_is); (case e7_Spent => k_is); (case aC_Asker => k_is); (case pg_Asker => k_is); (case hd_Asker => k_is); (case po_Asker => k_is); (case sa_Asker => k_is); (case mk_Asker => k_is); (case kc_Asker => k_is); (case na_Asker_row => k_is); (case na_Asker_rule => k_is); (case na_Asker_most => k_is); (case na_Asker_asked => k_is); (case na_Asker_log => k_is); (case aC_Rule => k_is); (case pg_Rule => k_is); (case hd_Rule => k_is); (case po_Rule => k_is); (case sa_Rule => k_is); (case mk_Rule => k_is); (case kc_Rule => k_is); (case aC_AskedRule => k_is); (case pg_AskedRule => k_is); (case hd_AskedRule => k_is); (case po_AskedRule => k_is); (case sa_AskedRule => k_is); (case mk_AskedRule => k_is); (case kc_AskedRule => k_is); (case na_AskedRule_teller => k_is); (case a1 => k_is); (case l1 => k_is); (case lc1 => k_is); (case lp1 => rfl); (case hh1 => kernel_rfl); (case np1 => kernel_rfl); (case gp1 => decide); (case tp1 => exact PySem.W.km_tabs_of Y _ (by simp)); (case c1 => k_is); (case k1 => k_is); (case i2 => k_is); (case l2 => k_is); (case c2 => k_is); (case k2 => k_is); (case a3_AskedRule => k_is); (case i3 => k_is); (case l3 => k_is); (case c3 => k_is); (case k3 => k_is); (case a4_AskedRule => k_is); (case i4 => k_is); (case l4 => k_is); (case c4 => k_is); (case k4 => k_is); (case a5_Asker => k_is); (case i5 => k_is); (case l5 => k_is); (case c5 => k_is); (case k5 => k_is); (case a6_Asker => k_is); (case i6 => k_is); (case l6 => k_is); (case c6 => k_is); (case k6 => k_is); (case a7_Asker => k_is); (case i7 => k_is); (case l7 => k_is); (case c7 => k_is); (case k7 => k_is); (case a8_Asker => k_is); (case i8 => k_is); (case l8 => k_is); (case lt8 => k_is); (case c8 => k_is); (case k8 => k_is); (case a9 => k_is); (case l9 => k_is); (case c9 => k_is); (case k9 => k_is); (case a10 => k_is); (case l10 => k_is); (case c10 => k_is); (case k10 => k_is); (case a11 => k_is); (case l11 => k_is); (case c11 => k_is); (case k11 => k_is); (case a12 => k_is); (case l12 => k_is); (case c12 => k_is); (case k12 => k_is); (case a13 => k_is); (case l13 => k_is); (case c13 => k_is); (case k13 => k_is); (case a14 => k_is); (case l14 => k_is); (case c14 => k_is); (case k14 => k_is); (case a15 => k_is); (case l15 => k_is); (case c15 => k_is); (case k15 => k_is); (case a16 => k_is); (case l16 => k_is); (case c16 => k_is); (case k16 => k_is); (case a17 => k_is); (case l17 => k_is); (case c17 => k_is); (case k17 => k_is); (case a18 => k_is); (case l18 => k_is); (case c18 => k_is); (case k18 => k_is); (case a19 => k_is); (case l19 => k_is); (case c19 => k_is); (case k19 => k_is); (case a20 => k_is); (case l20 => k_is); (case c20 => k_is); (case k20 => k_is); (case a21 => k_is); (case l21 => k_is); (case c21 => k_is); (case k21 => k_is); (case z_ValueError => k_is); (case z_range => k_is); (case z_len => k_is); (case z_int => k_is); (case z_list => k_is); (case z_max => k_is); (case z_min => k_is); (case z_sorted => k_is); (case z_isinstance => k_is); (case xs_Spent_HallError => (first | rfl | k_is)); (case xs_Spent_Spent => (first | rfl | k_is)); (case kits_Spent_Spent => (first | k_is | kernel_rfl)); (case kits_Spent_NoPlace => (first | k_is | kernel_rfl)); (case kk_WINS => k_is)
#print axioms PySem.Challenge.cw_sorthall_k45_stopped_and_asked_again_holds

