import PyProof.Rows.All
import Wide.All
import OpenK.AllK
import Wide.FinOn
import HandS.ForMost
import HandS.ForExc
import HandS.Wide
import HandS.WideBits
import HandS.IsInst
import HandS.Conv
import HandS.Walk
import HandS.SortInts
import HandS.SortRule
import HandS.Nested
import HandS.More
import HandS.Defaults
import HandS.EndTab
import HandS.Rev
import HandS.RevTup
import HandS.SortKw
import KE.DataMinMax
import HandS.Dict
import HandS.Style
import KE.DataCmp
import KE.KDictCopyH
import HandS.MakeKw
import HandS.CallLocal
import HandS.SetFor
import HandS.Strs
import HandS.CallSlots
import HandS.ExcIs
import HandS.ExcInit
import HandS.ExcField
import KE.KExcIs
import HandS.ExcInitHot
import PySem.Challenge.RW_sorthall_k58_whole_stopped_and_given_mor
set_option Elab.async false
set_option linter.all false
set_option maxRecDepth 100000
set_option maxHeartbeats 4000000
/-! SHA: steps of the heap, rules that look at the values themselves, readings one by one -/
namespace SH
open PySem PySem.Spec PyProof.Rows L2

/-! ### what a heap becomes -/
/-- what never changes -/
def Fix : HO → Prop
  | .tup _ => True
  | .ext _ => True
  | .frz _ _ => True
  | _ => False
/-- H' has all that H has, but what stands at M may be another (no tuple, no function, no cell) -/
structure Stp (M : List Addr) (H H' : Hp) : Prop where
  same : ∀ b o, H b = some o → (b ∉ M ∨ Fix o) → H' b = some o
  dom : ∀ b, H' b = none → H b = none
theorem Stp.refl (M : List Addr) (H : Hp) : Stp M H H := ⟨fun _ _ h _ => h, fun _ h => h⟩
theorem Stp.mono {M M' : List Addr} {H H' : Hp} (s : Stp M H H') (h : ∀ b ∈ M, b ∈ M') : Stp M' H H' := ⟨fun b o e n => s.same b o e (n.imp (fun n z => n (h b z)) id), s.dom⟩
theorem Stp.trans {M : List Addr} {H H1 H2 : Hp} (a : Stp M H H1) (b : Stp M H1 H2) : Stp M H H2 := ⟨fun c o e n => b.same c o (a.same c o e n) n, fun c h => a.dom c (b.dom c h)⟩
/-- what the second changes is new, or the first one's -/
theorem Stp.then {M M' : List Addr} {H H1 H2 : Hp} (a : Stp M H H1) (b : Stp M' H1 H2) (h : ∀ m ∈ M', m ∈ M ∨ H m = none) : Stp M H H2 :=
  ⟨fun c o e n => b.same c o (a.same c o e n) (n.imp (fun n z => (h c z).elim n fun q => (by rw [q] at e; cases e)) id), fun c h => a.dom c (b.dom c h)⟩
theorem Stp.then0 {M : List Addr} {H H1 H2 : Hp} (a : Stp M H H1) (b : Stp [] H1 H2) : Stp M H H2 := a.then b (by simp)
theorem Stp.new {M : List Addr} {H H1 : Hp} {p : Addr} {o : HO} (a : Stp M H H1) (h : H1 p = none) : Stp M H (upd H1 p o) :=
  ⟨fun c u e n => by have q := a.same c u e n; rw [upd_ne (ne_of_none q h)]; exact q, fun c q => a.dom c (by
    by_cases z : c = p
    · subst z; exact h
    · rw [upd_ne z] at q; exact q)⟩
theorem Stp.putM {M : List Addr} {H H1 : Hp} {p : Addr} {o o1 : HO} (a : Stp M H H1) (h : p ∈ M) (h1 : H1 p = some o1) (nf : ¬ Fix o1) : Stp M H (upd H1 p o) :=
  ⟨fun c u e n => by
    by_cases z : c = p
    · subst z
      rcases n with n | n
      · exact (n h).elim
      · have q := a.same c u e (.inr n)
        rw [h1] at q; cases q; exact (nf n).elim
    · rw [upd_ne z]; exact a.same c u e n, fun c q => a.dom c (by
    by_cases z : c = p
    · subst z; rw [upd_same] at q; cases q
    · rw [upd_ne z] at q; exact q)⟩
theorem Stp.putN {M : List Addr} {H H1 : Hp} {p : Addr} {o : HO} (a : Stp M H H1) (h : H p = none) : Stp M H (upd H1 p o) :=
  ⟨fun c u e n => by
    rw [upd_ne (fun z => by subst z; rw [h] at e; cases e)]
    exact a.same c u e n, fun c q => a.dom c (by
    by_cases z : c = p
    · subst z; rw [upd_same] at q; cases q
    · rw [upd_ne z] at q; exact q)⟩
theorem Stp.free {M : List Addr} {H H' : Hp} {p : Addr} (s : Stp M H H') (h : H' p = none) : H p = none := s.dom p h
theorem Stp.keep {M : List Addr} {H H' : Hp} {p : Addr} {o : HO} (s : Stp M H H') (h : H p = some o) (n : p ∉ M) : H' p = some o := s.same p o h (.inl n)
theorem Stp.keep0 {H H' : Hp} {p : Addr} {o : HO} (s : Stp [] H H') (h : H p = some o) : H' p = some o := s.same p o h (.inl (by simp))
theorem Stp.fix {M : List Addr} {H H' : Hp} {p : Addr} {o : HO} (s : Stp M H H') (h : H p = some o) (n : Fix o) : H' p = some o := s.same p o h (.inr n)
theorem Stp.tup {M : List Addr} {H H' : Hp} {p : Addr} {xs : List V} (s : Stp M H H') (h : H p = some (.tup xs)) : H' p = some (.tup xs) := s.fix h True.intro
theorem Stp.keep1 {m : Addr} {H H' : Hp} {p : Addr} {o : HO} (s : Stp [m] H H') (h : H p = some o) (n : p ≠ m) : H' p = some o := s.same p o h (.inl (by simpa using n))
theorem Stp.rd {M : List Addr} {H H' : Hp} {a : Addr} {u : HO} (s : Stp M H H') (h : Rd H a u) (n : a ∉ M) : Rd H' a u := by
  rcases h with h | ⟨o, h⟩
  · exact .inl (s.same _ _ h (.inl n))
  · exact .inr ⟨o, s.same _ _ h (.inr True.intro)⟩
theorem Stp.sql {K : PySem.W.Frag} {M : List Addr} {H H' : Hp} {a : Addr} {xs : List V} (s : Stp M H H') (h : SqL K H a xs) (n : a ∉ M) : SqL K H' a xs := by
  rcases h with h | h
  · exact .inl (s.rd h n)
  · exact .inr h
theorem Stp.sqt {K : PySem.W.Frag} {M : List Addr} {H H' : Hp} {a : Addr} {xs : List V} (s : Stp M H H') (h : SqT K H a xs) (n : a ∉ M) : SqT K H' a xs := by
  rcases h with h | h
  · exact .inl (s.rd h n)
  · exact .inr h
theorem Stp.sqtM {K : PySem.W.Frag} {M : List Addr} {H H' : Hp} {a : Addr} {xs : List V} (s : Stp M H H') (h : SqT K H a xs) : SqT K H' a xs := by
  rcases h with (h | ⟨o, h⟩) | h
  · exact .inl (.inl (s.fix h True.intro))
  · exact .inl (.inr ⟨o, s.fix h True.intro⟩)
  · exact .inr h
theorem Stp.sql1 {K : PySem.W.Frag} {m : Addr} {H H' : Hp} {a : Addr} {xs : List V} (s : Stp [m] H H') (h : SqL K H a xs) (n : a ≠ m) : SqL K H' a xs := s.sql h (by simpa using n)
theorem Stp.sql0 {K : PySem.W.Frag} {H H' : Hp} {a : Addr} {xs : List V} (s : Stp [] H H') (h : SqL K H a xs) : SqL K H' a xs := s.sql h (by simp)
theorem Stp.sqt0 {K : PySem.W.Frag} {H H' : Hp} {a : Addr} {xs : List V} (s : Stp [] H H') (h : SqT K H a xs) : SqT K H' a xs := s.sqt h (by simp)
theorem Stp.not {M : List Addr} {H H' : Hp} {p : Addr} (s : Stp M H H') (h : H' p = none) (hm : ∀ m ∈ M, H m ≠ none) : p ∉ M := fun z => hm p z (s.dom p h)
theorem upd_old {H : Hp} {a p : Addr} {o u : HO} (h : H a = some o) (hp : H p = none) : upd H p u a = some o := by rw [upd_ne (ne_of_none h hp)]; exact h
theorem upd_far {H : Hp} {a p : Addr} {o : Option HO} {u : HO} (n : a ≠ p) (h : H a = o) : upd H p u a = o := by rw [upd_ne n]; exact h
theorem upd_free {H : Hp} {a p : Addr} {u : HO} (h : upd H p u a = none) : H a = none ∧ a ≠ p := by
  by_cases z : a = p
  · subst z; rw [upd_same] at h; cases h
  · rw [upd_ne z] at h; exact ⟨h, z⟩
theorem sql_upd {K : PySem.W.Frag} {H : Hp} {a p : Addr} {xs : List V} {u : HO} (h : SqL K H a xs) (hp : H p = none) : SqL K (upd H p u) a xs := (Stp.refl [] H |>.new hp).sql h (by simp)
theorem sqt_upd {K : PySem.W.Frag} {H : Hp} {a p : Addr} {xs : List V} {u : HO} (h : SqT K H a xs) (hp : H p = none) : SqT K (upd H p u) a xs := (Stp.refl [] H |>.new hp).sqt h (by simp)
theorem sql_far {K : PySem.W.Frag} {H : Hp} {a p : Addr} {xs : List V} {u : HO} (h : SqL K H a xs) (n : a ≠ p) : SqL K (upd H p u) a xs := by
  rcases h with (h | ⟨o, h⟩) | h
  · exact .inl (.inl (upd_far n h))
  · exact .inl (.inr ⟨o, upd_far n h⟩)
  · exact .inr h
theorem sqt_far {K : PySem.W.Frag} {H : Hp} {a p : Addr} {xs : List V} {u : HO} (h : SqT K H a xs) (n : a ≠ p) : SqT K (upd H p u) a xs := by
  rcases h with (h | ⟨o, h⟩) | h
  · exact .inl (.inl (upd_far n h))
  · exact .inl (.inr ⟨o, upd_far n h⟩)
  · exact .inr h

/-! ### the slots -/
theorem set_z {x y : Option V} {xs : L2.St} : (x :: xs).set 0 y = y :: xs := rfl
theorem set_s {x y : Option V} {xs ys : L2.St} {n : Nat} (h : xs.set n y = ys) : (x :: xs).set (n + 1) y = x :: ys := by subst h; rfl
theorem get_z {x : V} {xs : L2.St} : (some x :: xs)[0]? = some (some x) := rfl
theorem get_s {x : Option V} {xs : L2.St} {n : Nat} {v : V} (h : xs[n]? = some (some v)) : (x :: xs)[n + 1]? = some (some v) := h

/-! ### two-place operations by the values -/
/-- the ways of + -/
def aAdd (K : PySem.W.Frag) : R2 := fun x y H Q => match x, y with
  | .int i, .int j => Q (.int (i + j)) H
  | .str a, .str b => a.length + b.length ≤ sizeLine ∧ Q (.str (a ++ b)) H
  | .ref a, .ref b => (∃ xs ys, H a = some (.lst xs) ∧ H b = some (.lst ys) ∧ xs.length + ys.length ≤ sizeLine ∧ ∀ p, H p = none → Q (.ref p) (upd H p (.lst (xs ++ ys)))) ∨ rCatT K (.ref a) (.ref b) H Q
  | _, _ => False
def aSub : R2 := fun x y H Q => match x, y with
  | .int i, .int j => Q (.int (i - j)) H
  | _, _ => False
def aMul : R2 := fun x y H Q => match x, y with
  | .int i, .int j => IntMulOk i j ∧ Q (.int (i * j)) H
  | .ref a, .int k => ∃ xs, H a = some (.lst xs) ∧ -(2 ^ 63) ≤ k ∧ k < 2 ^ 63 ∧ xs.length * k.toNat ≤ sizeLine ∧ ∀ p, H p = none → Q (.ref p) (upd H p (.lst ((List.replicate k.toNat xs).flatten)))
  | _, _ => False
def aDiv : R2 := fun x y H Q => match x, y with
  | .int i, .int j => 0 < j ∧ Builtin.divisionGoesByPylong i j = false ∧ Q (.int (i / j)) H
  | _, _ => False
def aMod : R2 := fun x y H Q => match x, y with
  | .int i, .int j => 0 < j ∧ Q (.int (i % j)) H
  | _, _ => False
def aPow : R2 := fun x y H Q => match x, y with
  | .int i, .int j => CPow i j ∧ Q (.int (i ^ j.toNat)) H
  | _, _ => False
def aShl : R2 := fun x y H Q => match x, y with
  | .int i, .int j => CShl i j ∧ Q (.int (i * 2 ^ j.toNat)) H
  | _, _ => False
def aShr : R2 := fun x y H Q => match x, y with
  | .int i, .int j => 0 ≤ j ∧ Q (.int (i / 2 ^ j.toNat)) H
  | _, _ => False
def aAnd : R2 := fun x y H Q => match x, y with
  | .int i, .int j => Q (.int (Builtin.bitAnd i j)) H
  | _, _ => False
def aLt (K : PySem.W.Frag) : R2 := fun x y H Q => match x, y with
  | .int i, .int j => Q (.bl (decide (i < j))) H
  | .ref a, .ref b => rLtT K (.ref a) (.ref b) H Q
  | _, _ => False
def aLe : R2 := fun x y H Q => match x, y with
  | .int i, .int j => Q (.bl (decide (i ≤ j))) H
  | _, _ => False
def aGt : R2 := fun x y H Q => match x, y with
  | .int i, .int j => Q (.bl (decide (j < i))) H
  | _, _ => False
def aGe : R2 := fun x y H Q => match x, y with
  | .int i, .int j => Q (.bl (decide (j ≤ i))) H
  | _, _ => False
def aEq (K : PySem.W.Frag) : R2 := fun x y H Q => (scal x y = true ∧ Q (.bl (decide (x = y))) H) ∨ rEqD K x y H Q
def aNe (K : PySem.W.Frag) : R2 := fun x y H Q => (scal x y = true ∧ Q (.bl (!decide (x = y))) H) ∨ rNeD K x y H Q
def aIsN : R2 := fun x y H Q => y = .non ∧ Q (.bl (decide (x = .non))) H
def aNotN : R2 := fun x y H Q => y = .non ∧ Q (.bl (!decide (x = .non))) H

section
variable {X : Cx}
theorem oAdd : OpR X (binaryOp .Add) (aAdd X.K) := by
  intro pins s σ H x y v u Q I rx ry h
  cases x <;> cases y <;> first | exact False.elim h | skip
  · exact op_add pins s σ H _ _ v u Q I rx ry ⟨_, _, rfl, rfl, h⟩
  · exact op_add_str pins s σ H _ _ v u Q I rx ry ⟨_, _, rfl, rfl, h.1, h.2⟩
  · rcases h with ⟨xs, ys, h1, h2, h3, h4⟩ | h
    · exact op_cat pins s σ H _ _ v u Q I rx ry ⟨_, _, xs, ys, rfl, rfl, h1, h2, h3, h4⟩
    · exact op_catT pins s σ H _ _ v u Q I rx ry h
theorem oSub : OpR X (binaryOp .Sub) aSub := by
  intro pins s σ H x y v u Q I rx ry h
  cases x <;> cases y <;> first | exact False.elim h | skip
  exact op_sub pins s σ H _ _ v u Q I rx ry ⟨_, _, rfl, rfl, h⟩
theorem oMul : OpR X (binaryOp .Mult) aMul := by
  intro pins s σ H x y v u Q I rx ry h
  cases x <;> cases y <;> first | exact False.elim h | skip
  · obtain ⟨t, rfl⟩ := rx
    obtain ⟨t', rfl⟩ := ry
    exact mul_int ⟨.int _, H, I.tok _, ⟨_, rfl⟩, h.2⟩ h.1
  · obtain ⟨xs, h1, h2, h3, h4, h5⟩ := h
    exact op_rep pins s σ H _ _ v u Q I rx ry ⟨_, _, xs, rfl, rfl, h1, h2, h3, h4, h5⟩
theorem oDiv : OpR X (binaryOp .FloorDiv) aDiv := by
  intro pins s σ H x y v u Q I rx ry h
  cases x <;> cases y <;> first | exact False.elim h | skip
  obtain ⟨t, rfl⟩ := rx
  obtain ⟨t', rfl⟩ := ry
  obtain ⟨h0, h1, q⟩ := h
  exact floordiv_int (by omega) (by rw [Int.fdiv_eq_ediv_of_nonneg _ (by omega)]; exact ⟨.int _, H, I.tok _, ⟨_, rfl⟩, q⟩) (.inl h1)
theorem oMod : OpR X (binaryOp .Mod) aMod := by
  intro pins s σ H x y v u Q I rx ry h
  cases x <;> cases y <;> first | exact False.elim h | skip
  exact op_mod pins s σ H _ _ v u Q I rx ry ⟨_, _, rfl, rfl, h⟩
theorem oPow : OpR X (binaryOp .Pow) aPow := by
  intro pins s σ H x y v u Q I rx ry h
  cases x <;> cases y <;> first | exact False.elim h | skip
  exact op_pow pins s σ H _ _ v u Q I rx ry ⟨_, _, rfl, rfl, h⟩
theorem oShl : OpR X (binaryOp .LShift) aShl := by
  intro pins s σ H x y v u Q I rx ry h
  cases x <;> cases y <;> first | exact False.elim h | skip
  exact op_shlW pins s σ H _ _ v u Q I rx ry ⟨_, _, rfl, rfl, h⟩
theorem oShr : OpR X (binaryOp .RShift) aShr := by
  intro pins s σ H x y v u Q I rx ry h
  cases x <;> cases y <;> first | exact False.elim h | skip
  exact op_shr pins s σ H _ _ v u Q I rx ry ⟨_, _, rfl, rfl, h⟩
theorem oAnd : OpR X (binaryOp .BitAnd) aAnd := by
  intro pins s σ H x y v u Q I rx ry h
  cases x <;> cases y <;> first | exact False.elim h | skip
  exact op_and pins s σ H _ _ v u Q I rx ry ⟨_, _, rfl, rfl, h⟩
theorem oLt (hu : X.A.units < cLine) : OpR X (compareOp .Lt) (aLt X.K) := by
  intro pins s σ H x y v u Q I rx ry h
  cases x <;> cases y <;> first | exact False.elim h | skip
  · exact op_lt pins s σ H _ _ v u Q I rx ry ⟨_, _, rfl, rfl, h⟩
  · exact op_ltT hu pins s σ H _ _ v u Q I rx ry h
theorem oLe : OpR X (compareOp .LtE) aLe := by
  intro pins s σ H x y v u Q I rx ry h
  cases x <;> cases y <;> first | exact False.elim h | skip
  exact op_le pins s σ H _ _ v u Q I rx ry ⟨_, _, rfl, rfl, h⟩
theorem oGt : OpR X (compareOp .Gt) aGt := by
  intro pins s σ H x y v u Q I rx ry h
  cases x <;> cases y <;> first | exact False.elim h | skip
  exact op_gt pins s σ H _ _ v u Q I rx ry ⟨_, _, rfl, rfl, h⟩
theorem oGe : OpR X (compareOp .GtE) aGe := by
  intro pins s σ H x y v u Q I rx ry h
  cases x <;> cases y <;> first | exact False.elim h | skip
  exact op_ge pins s σ H _ _ v u Q I rx ry ⟨_, _, rfl, rfl, h⟩
theorem oEq (hu : X.A.units + 64 < cLine) : OpR X (compareOp .Eq) (aEq X.K) := op_eq.or (op_eqD hu)
theorem oNe (hu : X.A.units + 64 < cLine) : OpR X (compareOp .NotEq) (aNe X.K) := op_ne.or (op_neD hu)
theorem oIsN : OpR X (compareOp .Is) aIsN := op_isN
theorem oNotN : OpR X (compareOp .IsNot) aNotN := op_notN
theorem ipAdd : PIp X .Add (fun x y H Q => match x, y with
  | .int i, .int j => Q (.int (i + j)) H
  | _, _ => False) := by
  intro pins s σ H x y v u Q I rx ry h
  cases x <;> cases y <;> first | exact False.elim h | skip
  exact ip_add pins s σ H _ _ v u Q I rx ry ⟨_, _, rfl, rfl, h⟩
theorem ipSub : PIp X .Sub (fun x y H Q => match x, y with
  | .int i, .int j => Q (.int (i - j)) H
  | _, _ => False) := by
  intro pins s σ H x y v u Q I rx ry h
  cases x <;> cases y <;> first | exact False.elim h | skip
  exact ip_sub pins s σ H _ _ v u Q I rx ry ⟨_, _, rfl, rfl, h⟩
end
end SH

set_option Elab.async false
set_option linter.all false
set_option maxRecDepth 100000
set_option maxHeartbeats 4000000
/-! SHB: readings, one lemma a word -/
namespace SH
open PySem PySem.Spec PyProof.Rows L2

section
variable {K : PySem.W.Frag} {D : Ends} {σ σ' : L2.St} {H : Hp} {Q : VK} {QA : List V → Hp → Prop} {QT : Bool → Hp → Prop} {QO : Option Int → Hp → Prop} {QG : L2.St → Hp → Prop} {i j : Nat} {v x y : V} {vs : List V} {ta tb tc te : TE} {t u tt : TT} {tr as : TA} {t1 t2 : TS} {g : TG} {gs : TGs} {r r' : R2} {b : Bool} {A B : Prop}

/-! the start -/
theorem st_c {x : Str} {N : List Str} {v : V} {vs : List V} {τ : L2.St} (h : L2.start N vs = τ) : L2.start (x :: N) (v :: vs) = some v :: τ := by
  rw [← h]; show _ :: (_ ++ List.replicate (N.length + 1 - (vs.length + 1)) none) = _; rw [Nat.add_sub_add_right]; rfl
theorem st_n {x : Str} {N : List Str} {τ : L2.St} (h : L2.start N [] = τ) : L2.start (x :: N) [] = none :: τ := by rw [← h]; rfl
theorem st_z : L2.start [] [] = [] := rfl
theorem r_start {N : List Str} {t : TS} (e : L2.start N vs = σ) (h : t D σ H) : t D (L2.start N vs) H := by rw [e]; exact h

theorem wp_z {f : Str × Nat → Nat} : wipe σ (List.map f []) = σ := rfl
theorem wp_s {a : Str} {n : Nat} {l : List (Str × Nat)} {τ τ' : L2.St} (h : wipe σ (l.map (fun x => x.2)) = τ) (e : τ.set n none = τ') : wipe σ (((a, n) :: l).map (fun x => x.2)) = τ' := by
  show (wipe σ (l.map (fun x => x.2))).set n none = τ'
  rw [h, e]
theorem r_gnw {ws : List Nat} {τ : L2.St} (e : wipe σ ws = τ) (h : gName i v τ H QG) : gName i v (wipe σ ws) H QG := by rw [e]; exact h
theorem r_gtw {ws : List Nat} {n : Nat} {τ : L2.St} (e : wipe σ ws = τ) (h : gTup K n gs v τ H QG) : gTup K n gs v (wipe σ ws) H QG := by rw [e]; exact h
theorem r_wp {ws : List Nat} {τ : L2.St} (e : wipe σ ws = wipe τ ws) (h : A) : wipe σ ws = wipe τ ws ∧ A := ⟨e, h⟩

/-! statements -/
theorem r_seq (h : t1 { D with nx := t2 D } σ H) : tSeq t1 t2 D σ H := h
theorem r_next (h : D.nx σ H) : tNext D σ H := h
theorem r_nx (e : σ.set i (some v) = σ') (h : D.nx σ' H) : D.nx (σ.set i (some v)) H := by rw [e]; exact h
theorem r_asg (h : te σ H fun x H1 => g x σ H1 D.nx) : tAsg te g D σ H := h
theorem r_gname (e : σ.set i (some v) = σ') (h : QG σ' H) : gName i v σ H QG := by subst e; exact h
theorem r_aug {rd : TIp} (hx : σ[i]? = some (some x)) (h : te σ H fun y H1 => rd x y H1 fun z H2 => D.nx (σ.set i (some z)) H2) : tAug i te rd D σ H := ⟨x, hx, h⟩
theorem r_drop (h : te σ H fun _ H1 => D.nx σ H1) : tDrop te D σ H := h
theorem r_ret (h : te σ H D.rt) : tRet te D σ H := h
theorem r_retN (h : D.rt .non H) : tRetN D σ H := h
theorem r_ifS (h : tt σ H fun b H1 => if b = true then t1 D σ H1 else t2 D σ H1) : tIfS tt t1 t2 D σ H := h
theorem r_brk (h : D.bk σ H) : tBreak D σ H := h
theorem r_cont (h : D.ct σ H) : tCont D σ H := h
theorem r_gtup {n : Nat} {a : Addr} {xs : List V} (hq : SqT K H a xs) (hl : xs.length = n) (h : gs xs σ H QG) : gTup K n gs (.ref a) σ H QG := ⟨a, xs, rfl, hq, hl, h⟩
theorem r_glst {n : Nat} {a : Addr} {xs : List V} (hq : SqL K H a xs) (hl : xs.length = n) (h : gs xs σ H QG) : gLst K n gs (.ref a) σ H QG := ⟨a, xs, rfl, hq, hl, h⟩
theorem r_gcons (h : g v σ H fun σ' H' => gs vs σ' H' QG) : gCons g gs (v :: vs) σ H QG := ⟨v, vs, rfl, h⟩
theorem r_gnil (h : QG σ H) : gNil [] σ H QG := ⟨rfl, h⟩
theorem r_gsub {to ti : TE} {ts : TSet} (h : to σ H fun o H1 => ti σ H1 fun i H2 => ts o i v H2 fun H3 => QG σ H3) : gSub to ti ts v σ H QG := h

/-! expressions -/
theorem r_var (h : σ[i]? = some (some v)) (k : Q v H) : tVar i σ H Q := ⟨v, h, k⟩
theorem r_c (k : Q v H) : tC v σ H Q := k
theorem r_op (h : ta σ H fun x H1 => tb σ H1 fun y H2 => r x y H2 Q) : tOp r ta tb σ H Q := h
theorem r_un {ru : V → Hp → VK → Prop} (h : ta σ H fun x H1 => ru x H1 Q) : tUn ru ta σ H Q := h
theorem r_neg {n : Int} (k : Q (.int (-n)) H) : rU (fun i => .int (-i)) (.int n) H Q := ⟨n, rfl, k⟩
theorem r_if (h : t σ H fun c H1 => if c = true then ta σ H1 Q else tb σ H1 Q) : tIf t ta tb σ H Q := h
theorem r_nil (h : QA [] H) : tNil σ H QA := h
theorem r_cons (h : ta σ H fun x H1 => tr σ H1 fun xs H2 => QA (x :: xs) H2) : tCons ta tr σ H QA := h
def kTup (Q : VK) : List V → Hp → Prop := fun xs H1 => xs.length ≤ sizeLine ∧ ∀ p, H1 p = none → Q (.ref p) (upd H1 p (.tup xs))
def kLst (Q : VK) : List V → Hp → Prop := fun xs H1 => xs.length ≤ sizeLine ∧ ∀ p, H1 p = none → Q (.ref p) (upd H1 p (.lst xs))
theorem r_tup (h : as σ H (kTup Q)) : tTup as σ H Q := h
theorem r_lst (h : as σ H (kLst Q)) : tLst as σ H Q := h
theorem v_tup (hl : vs.length ≤ 1000) (h : ∀ p, H p = none → Q (.ref p) (upd H p (.tup vs))) : kTup Q vs H := ⟨Nat.le_trans hl (by decide), h⟩
theorem v_lst (hl : vs.length ≤ 1000) (h : ∀ p, H p = none → Q (.ref p) (upd H p (.lst vs))) : kLst Q vs H := ⟨Nat.le_trans hl (by decide), h⟩
theorem v_tup2 (h : ∀ p, H p = none → Q (.ref p) (upd H p (.tup [x, y]))) : kTup Q [x, y] H := v_tup (by simp) h
theorem v_tup3 (h : ∀ p, H p = none → Q (.ref p) (upd H p (.tup [x, y, v]))) : kTup Q [x, y, v] H := v_tup (by simp) h
theorem v_lst0 (h : ∀ p, H p = none → Q (.ref p) (upd H p (.lst []))) : kLst Q [] H := v_lst (by simp) h
theorem v_lst1 (h : ∀ p, H p = none → Q (.ref p) (upd H p (.lst [x]))) : kLst Q [x] H := v_lst (by simp) h
theorem v_lst2 (h : ∀ p, H p = none → Q (.ref p) (upd H p (.lst [x, y]))) : kLst Q [x, y] H := v_lst (by simp) h
theorem v_lst3 (h : ∀ p, H p = none → Q (.ref p) (upd H p (.lst [x, y, v]))) : kLst Q [x, y, v] H := v_lst (by simp) h
theorem v_lst4 {z : V} (h : ∀ p, H p = none → Q (.ref p) (upd H p (.lst [x, y, v, z]))) : kLst Q [x, y, v, z] H := v_lst (by simp) h
theorem r_len0 {n : Nat} (h : n ≤ 1000) : n ≤ sizeLine := Nat.le_trans h (by decide)
theorem r_call {sp : Sp} {dvs : List V} {E : XK} (h : as σ H fun vs H1 => sp (vs ++ dvs) H1 Q E) : tCall sp dvs E as σ H Q := h
theorem r_cb {rc : List V → Hp → VK → Prop} (h : as σ H fun vs H1 => rc vs H1 Q) : tCB rc as σ H Q := h
theorem r_andV (h : ta σ H fun x H1 => ∃ c, x = .bl c ∧ if c = true then tb σ H1 Q else Q (.bl false) H1) : tAndV ta tb σ H Q := h
theorem r_orV (h : ta σ H fun x H1 => ∃ c, x = .bl c ∧ if c = true then Q (.bl true) H1 else tb σ H1 Q) : tOrV ta tb σ H Q := h
theorem r_notV (h : ta σ H fun x H1 => ∃ c, x = .bl c ∧ Q (.bl (!c)) H1) : tNotV ta σ H Q := h
theorem r_bl {P : Bool → Prop} (h : P b) : ∃ c, V.bl b = .bl c ∧ P c := ⟨b, rfl, h⟩
theorem r_test (h : te σ H fun x H1 => ∃ k, x = .bl k ∧ QT k H1) : tTest te σ H QT := h
theorem r_B (h : te σ H fun x H1 => ∃ k, x = .bl k ∧ QT k H1) : tB te σ H QT := h
theorem r_and (h : t σ H fun c H1 => if c = true then u σ H1 QT else QT false H1) : tAnd t u σ H QT := h
theorem r_or (h : t σ H fun c H1 => if c = true then QT true H1 else u σ H1 QT) : tOr t u σ H QT := h
theorem r_not (h : t σ H fun c H1 => QT (!c) H1) : tNot t σ H QT := h
theorem r_yes (h : QT true H) : tYes σ H QT := h
theorem r_nopart (h : QO none H) : tNoPart σ H QO := h
theorem r_part (h : te σ H fun x H1 => ∃ i, x = .int i ∧ QO (some i) H1) : tPart te σ H QO := h
theorem r_int {P : Int → Prop} {n : Int} (h : P n) : ∃ i, V.int n = .int i ∧ P i := ⟨n, rfl, h⟩
theorem r_sl {rs : V → Option Int → Option Int → Hp → VK → Prop} {tl th : TO} (h : te σ H fun x H1 => tl σ H1 fun l H2 => th σ H2 fun u H3 => rs x l u H3 Q) : tSl rs te tl th σ H Q := h
theorem r_chain (h : ta σ H fun x H1 => tb σ H1 fun y H2 => r x y H2 fun z H3 => ∃ k, z = .bl k ∧ (if k = true then tc σ H3 fun w' H4 => r' y w' H4 Q else Q (.bl false) H3)) : tChain r r' ta tb tc σ H Q := h
theorem r_bm {T : String} {rb : V → List V → Hp → VK → Prop} (h : te σ H fun x H1 => tyV K T x H1 ∧ as σ H1 fun xs H2 => rb x xs H2 Q) : tBM K T rb te as σ H Q := h
theorem r_bm0 {T : String} {rb : V → List V → Hp → VK → Prop} (h : te σ H fun x H1 => tyV K T x H1 ∧ rb x [] H1 Q) : tBM0 K T rb te σ H Q := h

/-! values -/
theorem v_addI {n m : Int} (h : Q (.int (n + m)) H) : aAdd K (.int n) (.int m) H Q := h
theorem v_addL {a c : Addr} {xs ys : List V} (h1 : H a = some (.lst xs)) (h2 : H c = some (.lst ys)) (h3 : xs.length + ys.length ≤ sizeLine) (h : ∀ p, H p = none → Q (.ref p) (upd H p (.lst (xs ++ ys)))) : aAdd K (.ref a) (.ref c) H Q := .inl ⟨xs, ys, h1, h2, h3, h⟩
theorem v_subI {n m : Int} (h : Q (.int (n - m)) H) : aSub (.int n) (.int m) H Q := h
theorem v_mulI {n m : Int} (h0 : IntMulOk n m) (h : Q (.int (n * m)) H) : aMul (.int n) (.int m) H Q := ⟨h0, h⟩
theorem v_mulL {a : Addr} {k : Int} {xs : List V} (h1 : H a = some (.lst xs)) (h2 : -(2 ^ 63) ≤ k ∧ k < 2 ^ 63) (h3 : xs.length * k.toNat ≤ sizeLine) (h : ∀ p, H p = none → Q (.ref p) (upd H p (.lst ((List.replicate k.toNat xs).flatten)))) : aMul (.ref a) (.int k) H Q := ⟨xs, h1, h2.1, h2.2, h3, h⟩
theorem v_div {n m : Int} (h0 : 0 < m) (h1 : Builtin.divisionGoesByPylong n m = false) (h : Q (.int (n / m)) H) : aDiv (.int n) (.int m) H Q := ⟨h0, h1, h⟩
theorem v_divS {n m : Int} (h0 : 0 < m) (h1 : m < 1073741824) (h : Q (.int (n / m)) H) : aDiv (.int n) (.int m) H Q := ⟨h0, PyProof.noPylong_small (by omega), h⟩
theorem v_divW {n m : Int} (h0 : 0 < m) (h1 : m.natAbs.log2 < 9000) (h : Q (.int (n / m)) H) : aDiv (.int n) (.int m) H Q := ⟨h0, PyProof.noPylong_of_log2 h1, h⟩
theorem v_mod {n m : Int} (h0 : 0 < m) (h : Q (.int (n % m)) H) : aMod (.int n) (.int m) H Q := ⟨h0, h⟩
theorem v_pow {n m : Int} (h0 : CPow n m) (h : Q (.int (n ^ m.toNat)) H) : aPow (.int n) (.int m) H Q := ⟨h0, h⟩
theorem v_shl {n m : Int} (h0 : CShl n m) (h : Q (.int (n * 2 ^ m.toNat)) H) : aShl (.int n) (.int m) H Q := ⟨h0, h⟩
theorem v_shr {n m : Int} (h0 : 0 ≤ m) (h : Q (.int (n / 2 ^ m.toNat)) H) : aShr (.int n) (.int m) H Q := ⟨h0, h⟩
theorem v_and {n m : Int} (h : Q (.int (Builtin.bitAnd n m)) H) : aAnd (.int n) (.int m) H Q := h
theorem v_ltI {n m : Int} (h : Q (.bl (decide (n < m))) H) : aLt K (.int n) (.int m) H Q := h
theorem v_ltT {a c : Addr} {ns ms : List Int} (h1 : SqT K H a (ns.map V.int)) (h2 : SqT K H c (ms.map V.int)) (h : Q (.bl (HT.lexLt ns ms)) H) : aLt K (.ref a) (.ref c) H Q := ⟨a, c, ns, ms, rfl, rfl, h1, h2, h⟩
theorem v_leI {n m : Int} (h : Q (.bl (decide (n ≤ m))) H) : aLe (.int n) (.int m) H Q := h
theorem v_gtI {n m : Int} (h : Q (.bl (decide (m < n))) H) : aGt (.int n) (.int m) H Q := h
theorem v_geI {n m : Int} (h : Q (.bl (decide (m ≤ n))) H) : aGe (.int n) (.int m) H Q := h
theorem dec_i {n m : Int} : decide (V.int n = V.int m) = decide (n = m) := by simp
theorem v_eqI {n m : Int} (h : Q (.bl (decide (n = m))) H) : aEq K (.int n) (.int m) H Q := .inl ⟨rfl, by rw [dec_i]; exact h⟩
theorem v_neI {n m : Int} (h : Q (.bl (!decide (n = m))) H) : aNe K (.int n) (.int m) H Q := .inl ⟨rfl, by rw [dec_i]; exact h⟩
theorem v_eqB {n m : Bool} (h : Q (.bl (decide (n = m))) H) : aEq K (.bl n) (.bl m) H Q := .inl ⟨rfl, by rw [show decide (V.bl n = V.bl m) = decide (n = m) by simp]; exact h⟩
theorem v_neB {n m : Bool} (h : Q (.bl (!decide (n = m))) H) : aNe K (.bl n) (.bl m) H Q := .inl ⟨rfl, by rw [show decide (V.bl n = V.bl m) = decide (n = m) by simp]; exact h⟩
theorem v_eqS {n m : Str} (h : Q (.bl (decide (n = m))) H) : aEq K (.str n) (.str m) H Q := .inl ⟨rfl, by rw [show decide (V.str n = V.str m) = decide (n = m) by simp]; exact h⟩
theorem v_neS {n m : Str} (h : Q (.bl (!decide (n = m))) H) : aNe K (.str n) (.str m) H Q := .inl ⟨rfl, by rw [show decide (V.str n = V.str m) = decide (n = m) by simp]; exact h⟩
theorem v_eqO (hs : scal x y = true) (h : Q (.bl (decide (x = y))) H) : aEq K x y H Q := .inl ⟨hs, h⟩
theorem v_neO (hs : scal x y = true) (h : Q (.bl (!decide (x = y))) H) : aNe K x y H Q := .inl ⟨hs, h⟩
theorem v_eqD {d e : PyData} (h1 : Dp K H x d) (h2 : Dp K H y e) (h3 : SeqAt.shaped d = true) (h4 : SeqAt.shaped e = true) (h : Q (.bl (PyData.eqv d e)) H) : aEq K x y H Q := .inr ⟨d, e, h1, h2, h3, h4, h⟩
theorem v_neD {d e : PyData} (h1 : Dp K H x d) (h2 : Dp K H y e) (h3 : SeqAt.shaped d = true) (h4 : SeqAt.shaped e = true) (h : Q (.bl (!PyData.eqv d e)) H) : aNe K x y H Q := .inr ⟨d, e, h1, h2, h3, h4, h⟩
theorem v_isN (h : Q (.bl (decide (x = .non))) H) : aIsN x .non H Q := ⟨rfl, h⟩
theorem v_notN (h : Q (.bl (!decide (x = .non))) H) : aNotN x .non H Q := ⟨rfl, h⟩
theorem v_ipAdd {n m : Int} (h : Q (.int (n + m)) H) : (fun (x y : V) (H : Hp) (Q : VK) => match x, y with | .int i, .int j => Q (.int (i + j)) H | _, _ => False) (.int n) (.int m) H Q := h
def aIpAdd : TIp := fun x y H Q => match x, y with
  | .int i, .int j => Q (.int (i + j)) H
  | _, _ => False
def aIpSub : TIp := fun x y H Q => match x, y with
  | .int i, .int j => Q (.int (i - j)) H
  | _, _ => False
theorem ip_add' {X : Cx} : PIp X .Add aIpAdd := ipAdd
theorem ip_sub' {X : Cx} : PIp X .Sub aIpSub := ipSub
theorem v_ipA {n m : Int} (h : Q (.int (n + m)) H) : aIpAdd (.int n) (.int m) H Q := h
theorem v_ipS {n m : Int} (h : Q (.int (n - m)) H) : aIpSub (.int n) (.int m) H Q := h

/-! ways -/
theorem r_T (h : A) : if true = true then A else B := by rw [if_pos rfl]; exact h
theorem r_F (h : B) : if false = true then A else B := by rw [if_neg Bool.false_ne_true]; exact h
theorem r_nT (h : B) : if (!true) = true then A else B := by rw [if_neg (by decide)]; exact h
theorem r_nF (h : A) : if (!false) = true then A else B := by rw [if_pos (by decide)]; exact h
theorem r_w {c : Prop} [Decidable c] (h1 : c → A) (h2 : ¬ c → B) : if decide c = true then A else B := by
  by_cases h : c
  · rw [decide_eq_true h, if_pos rfl]; exact h1 h
  · rw [decide_eq_false h, if_neg Bool.false_ne_true]; exact h2 h
theorem r_nw {c : Prop} [Decidable c] (h1 : ¬ c → A) (h2 : c → B) : if (!decide c) = true then A else B := by
  by_cases h : c
  · rw [decide_eq_true h]; exact r_nT (h2 h)
  · rw [decide_eq_false h]; exact r_nF (h1 h)
theorem r_b (h1 : b = true → A) (h2 : b = false → B) : if b = true then A else B := by
  cases b with
  | true => exact r_T (h1 rfl)
  | false => exact r_F (h2 rfl)
theorem r_nb (h1 : b = false → A) (h2 : b = true → B) : if (!b) = true then A else B := by
  cases b with
  | true => exact r_nT (h2 rfl)
  | false => exact r_nF (h1 rfl)
theorem r_wT {c : Prop} [Decidable c] (hc : c) (h : A) : if decide c = true then A else B := r_w (fun _ => h) fun n => (n hc).elim
theorem r_wF {c : Prop} [Decidable c] (hc : ¬ c) (h : B) : if decide c = true then A else B := r_w (fun n => (hc n).elim) fun _ => h
theorem r_nwT {c : Prop} [Decidable c] (hc : ¬ c) (h : A) : if (!decide c) = true then A else B := r_nw (fun _ => h) fun n => (hc n).elim
theorem r_nwF {c : Prop} [Decidable c] (hc : c) (h : B) : if (!decide c) = true then A else B := r_nw (fun n => (n hc).elim) fun _ => h

/-! loops -/
/-- while: W by a measure; the body is read for the next turn -/
theorem r_while {c : TT} (W : Nat → L2.St → Hp → Prop) (h0 : ∃ m, W m σ H)
    (hs : ∀ m σ H, W m σ H → c σ H fun b H1 => if b = true then ∃ N : L2.St → Hp → Prop, (∀ σ' H', N σ' H' → ∃ m', m' < m ∧ W m' σ' H') ∧ t1 { D with nx := N, ct := N, bk := D.nx } σ H1 else D.nx σ H1) : tWhile c t1 D σ H := ⟨W, h0, hs⟩
theorem r_next_turn {W : Nat → L2.St → Hp → Prop} {m : Nat} {P : (L2.St → Hp → Prop) → Prop} (h : P (fun σ' H' => ∃ m', m' < m ∧ W m' σ' H')) : ∃ N : L2.St → Hp → Prop, (∀ σ' H', N σ' H' → ∃ m', m' < m ∧ W m' σ' H') ∧ P N := ⟨_, fun _ _ h => h, h⟩
theorem r_rng1 {J : It → Hp → Prop} {n : Int} (h0 : -(2 ^ 62) ≤ n ∧ n < 2 ^ 62) (h : J (Itr 0 n.toNat) H) (ha : as σ H = fun QA => QA [.int n] H) : iRng1 as σ H J := by
  unfold iRng1
  rw [ha]
  exact ⟨n, rfl, h0.1, h0.2, h⟩
end

/-! ### defs by their names -/
/-- the module's name x holds a def that keeps sp; dvs: its defaults -/
structure Cal (P : Program) (w : World) (K : PySem.W.Frag) (mg : Str → Option Value) (base : Heap) (CX : CXT) (k : Nat) (x : Str) (dvs : List V) (sp : Sp) : Prop where
  ex : ∃ (f : Addr) (fd : FuncData) (ps : List Str) (ds : List Value), mg x = some (.ref f) ∧ PySem.W.keepIn K (.ref f) = true ∧ Binds K fd ps ds ∧ Vals dvs ds ∧ FnOk P w K mg base CX k f fd ps sp
/-- the class at C has a method m that keeps sp -/
structure CalM (P : Program) (w : World) (K : PySem.W.Frag) (mg : Str → Option Value) (base : Heap) (CX : CXT) (k : Nat) (C : Addr) (m : Str) (dvs : List V) (sp : Sp) : Prop where
  cl : Cls K C
  ex : ∃ (f : Addr) (fd : FuncData) (ps : List Str) (ds : List Value), Meth K C m f ∧ Binds K fd ps ds ∧ Vals dvs ds ∧ FnOk P w K mg base CX k f fd ps sp
/-- the name x holds the class at C, made by an __init__ that keeps sp -/
structure CalC (P : Program) (w : World) (K : PySem.W.Frag) (mg : Str → Option Value) (base : Heap) (CX : CXT) (k : Nat) (x : Str) (C : Addr) (dvs : List V) (sp : Sp) : Prop where
  ex : ∃ (f : Addr) (fd : FuncData) (ps : List Str) (ds : List Value), mg x = some (.ref C) ∧ Mk K C f ∧ Binds K fd ps ds ∧ Vals dvs ds ∧ FnOk P w K mg base CX k f fd ps sp
section
variable {X : Cx} {CX : CXT} {k j : Nat} {C : Addr} {sp : Sp} {dvs : List V} {E : XK} {x m : Str} {p pos apos : Pos} {e o : Expr} {es : List Expr} {ta : TE} {t : TA}
theorem pe_callF (c : Cal X.prog X.w X.K X.mg X.base CX j x dvs sp) (hr : Room k X.A) (hg : Gl X x) (hx : Passes CX X E) (ha : PA X (e :: es) t) (hk : j ≤ k := by decide)
    (hdb : (x == ("__debug__" : Str)) = false := by decide) (he : starEach (e :: es) X.env = (false, eval e X.env) :: starEach es X.env := by rfl) (hpl : (backTo pos (starEach es X.env)).any (·.1) = false := by rfl) :
    PE X (.Call (.Name x p) (e :: es) [] pos) (tCall sp dvs E t) := by
  obtain ⟨f, fd, ps, ds, h1, h2, h3, h4, h5⟩ := c.ex
  exact pe_call h5 (hr.mono hk) hg h1 h2 h3 h4 hx ha hdb he hpl
theorem pe_callF0 (c : Cal X.prog X.w X.K X.mg X.base CX j x dvs sp) (hr : Room k X.A) (hg : Gl X x) (hx : Passes CX X E) (hk : j ≤ k := by decide)
    (hdb : (x == ("__debug__" : Str)) = false := by decide) : PE X (.Call (.Name x p) [] [] pos) (tCall sp dvs E tNil) := by
  obtain ⟨f, fd, ps, ds, h1, h2, h3, h4, h5⟩ := c.ex
  exact pe_call0 h5 (hr.mono hk) hg h1 h2 h3 h4 hx hdb
theorem pe_methF {pl : Sem Bool} (he : PE X o ta) (c : CalM X.prog X.w X.K X.mg X.base CX j C m dvs sp) (hr : Room k X.A) (hx : Passes CX X E) (ha : PA X (e :: es) t) (hk : j ≤ k := by decide)
    (hst : starEach (e :: es) X.env = (false, eval e X.env) :: starEach es X.env := by rfl) (hpl : (backTo pos (starEach es X.env)).any (·.1) = false := by rfl)
    (ht : eval (.Call (.Attribute o m apos) (e :: es) [] pos) X.env = (do
      let ov ← eval o X.env
      standAt apos.atName
      let (f, first) ← holding [ov] (getMethod ov m pl)
      callWith pos f first (backTo pos (starEach (e :: es) X.env)) (backToKw pos (keywordEach [] X.env))) := by rfl) :
    PE X (.Call (.Attribute o m apos) (e :: es) [] pos) (tMeth C m sp dvs E ta t) := by
  obtain ⟨f, fd, ps, ds, h1, h3, h4, h5⟩ := c.ex
  exact pe_meth he c.cl h1 h5 (hr.mono hk) h3 h4 hx ha hst hpl ht
theorem pe_methF0 {pl : Sem Bool} (he : PE X o ta) (c : CalM X.prog X.w X.K X.mg X.base CX j C m dvs sp) (hr : Room k X.A) (hx : Passes CX X E) (hk : j ≤ k := by decide)
    (ht : eval (.Call (.Attribute o m apos) [] [] pos) X.env = (do
      let ov ← eval o X.env
      standAt apos.atName
      let (f, first) ← holding [ov] (getMethod ov m pl)
      callWith pos f first (backTo pos (starEach [] X.env)) (backToKw pos (keywordEach [] X.env))) := by rfl) :
    PE X (.Call (.Attribute o m apos) [] [] pos) (tMeth C m sp dvs E ta tNil) := by
  obtain ⟨f, fd, ps, ds, h1, h3, h4, h5⟩ := c.ex
  exact pe_meth0 he c.cl h1 h5 (hr.mono hk) h3 h4 hx ht
theorem pe_makeF (c : CalC X.prog X.w X.K X.mg X.base CX j x C dvs sp) (hr : Room k X.A) (hg : Gl X x) (hx : Passes CX X E) (ha : PA X (e :: es) t) (hk : j + 1 ≤ k := by decide)
    (hdb : (x == ("__debug__" : Str)) = false := by decide) (he : starEach (e :: es) X.env = (false, eval e X.env) :: starEach es X.env := by rfl) (hpl : (backTo pos (starEach es X.env)).any (·.1) = false := by rfl) :
    PE X (.Call (.Name x p) (e :: es) [] pos) (tMake C sp dvs E t) := by
  obtain ⟨f, fd, ps, ds, h1, h2, h3, h4, h5⟩ := c.ex
  exact pe_make h2 h5 (hr.mono hk) hg h1 h3 h4 hx ha hdb he hpl
theorem pe_makeF0 (c : CalC X.prog X.w X.K X.mg X.base CX j x C dvs sp) (hr : Room k X.A) (hg : Gl X x) (hx : Passes CX X E) (hk : j + 1 ≤ k := by decide)
    (hdb : (x == ("__debug__" : Str)) = false := by decide) : PE X (.Call (.Name x p) [] [] pos) (tMake C sp dvs E tNil) := by
  obtain ⟨f, fd, ps, ds, h1, h2, h3, h4, h5⟩ := c.ex
  exact pe_make0 h2 h5 (hr.mono hk) hg h1 h3 h4 hx hdb
end
/-- a walked thing in a for, in a comprehension -/
theorem r_for {wi : TI} {g : TG} {tb : TS} {D : Ends} {σ : L2.St} {H : Hp} (h : wi σ H fun J H1 => ∃ W : Nat → Nat → L2.St → Hp → Prop, (∃ m, W 0 m σ H1) ∧ ∀ i m σ H, W i m σ H →
  (J.stop i H ∧ D.nx σ H) ∨ (J.go i H ∧ ∃ N : L2.St → Hp → Prop, (∀ σ' H', N σ' H' → ∃ m', m' < m ∧ W (i + 1) m' σ' H') ∧ ∀ x H', J.yld i H x H' → g x σ H' fun σ2 H2 => tb { D with nx := N, ct := N, bk := D.nx } σ2 H2)) : tFor wi g tb D σ H := h
theorem r_lc {wi : TI} {g : TG} {tt : TT} {te : TE} {vs : List Nat} {σ : L2.St} {H : Hp} {Q : VK} (h : wi σ H fun J H1 => ∀ D, H1 D = none → ∃ W : Nat → Nat → Hp → Prop, (∃ m, W 0 m (upd H1 D (.lst []))) ∧ ∀ i m H, W i m H →
  (J.stop i H ∧ Q (.ref D) H) ∨ (J.go i H ∧ ∃ Nx : Hp → Prop, (∀ H', Nx H' → ∃ m', m' < m ∧ W (i + 1) m' H') ∧ ∀ x H', J.yld i H x H' → g x (wipe σ vs) H' fun σ2 H2 => wipe σ2 vs = wipe σ vs ∧ tt σ2 H2 fun b H3 =>
    if b = true then te σ2 H3 fun y H4 => ∃ acc, H4 D = some (.lst acc) ∧ acc.length < sizeLine ∧ Nx (upd H4 D (.lst (acc ++ [y]))) else Nx H3)) : tLc wi g tt te vs σ H Q := h
section
variable {K : PySem.W.Frag} {tl : TE} {as : TA} {σ : L2.St} {H : Hp} {R : It → Hp → Prop}
def kList (K : PySem.W.Frag) (R : It → Hp → Prop) : V → Hp → Prop := fun x H1 => ∃ a, x = .ref a ∧ (∃ xs, SqL K H1 a xs) ∧ R (Itl K a) H1
def kTupI (K : PySem.W.Frag) (R : It → Hp → Prop) : V → Hp → Prop := fun x H1 => ∃ a, x = .ref a ∧ (∃ xs, SqT K H1 a xs) ∧ R (Itt K a) H1
def kRng1 (R : It → Hp → Prop) : List V → Hp → Prop := fun vs H1 => ∃ j : Int, vs = [.int j] ∧ -(2 ^ 62) ≤ j ∧ j < 2 ^ 62 ∧ R (Itr 0 j.toNat) H1
def kRng2 (R : It → Hp → Prop) : List V → Hp → Prop := fun vs H1 => ∃ i j : Int, vs = [.int i, .int j] ∧ (-(2 ^ 62) ≤ i ∧ i < 2 ^ 62 ∧ -(2 ^ 62) ≤ j ∧ j < 2 ^ 62) ∧ R (Itr i (j - i).toNat) H1
def kRng3 (R : It → Hp → Prop) : List V → Hp → Prop := fun vs H1 => ∃ (i j c : Int) (n : Nat), vs = [.int i, .int j, .int c] ∧ RgC i j c n ∧ R (Itc i c n) H1
def kEnum (K : PySem.W.Frag) (R : It → Hp → Prop) : List V → Hp → Prop := fun vs H1 => ∃ a xs, vs = [.ref a] ∧ SqL K H1 a xs ∧ R (Ite K a) H1
def kZip (K : PySem.W.Frag) (R : It → Hp → Prop) : List V → Hp → Prop := fun vs H1 => ∃ a b xs ys, vs = [.ref a, .ref b] ∧ SqL K H1 a xs ∧ SqL K H1 b ys ∧ R (Itz K a b) H1
def kRev (K : PySem.W.Frag) (R : It → Hp → Prop) : List V → Hp → Prop := fun vs H1 => ∃ (a : Addr) (xs : List V), vs = [.ref a] ∧ SqL K H1 a xs ∧ R (Itv K a xs.length) H1
theorem r_iList (h : tl σ H (kList K R)) : iList K tl σ H R := h
theorem r_iTup (h : tl σ H (kTupI K R)) : iTup K tl σ H R := h
theorem r_iRng1 (h : as σ H (kRng1 R)) : iRng1 as σ H R := h
theorem r_iRng2 (h : as σ H (kRng2 R)) : iRng2 as σ H R := h
theorem r_iRng3 (h : as σ H (kRng3 R)) : iRng3 as σ H R := h
theorem r_iEnum (h : as σ H (kEnum K R)) : iEnum K as σ H R := h
theorem r_iZip (h : as σ H (kZip K R)) : iZip K as σ H R := h
theorem r_iRev (h : as σ H (kRev K R)) : iRev K as σ H R := h
theorem v_iList {a : Addr} {xs : List V} (h : SqL K H a xs) (k : R (Itl K a) H) : kList K R (.ref a) H := ⟨a, rfl, ⟨xs, h⟩, k⟩
theorem v_iTup {a : Addr} {xs : List V} (h : SqT K H a xs) (k : R (Itt K a) H) : kTupI K R (.ref a) H := ⟨a, rfl, ⟨xs, h⟩, k⟩
theorem v_rng1 {n : Int} (h0 : -(2 ^ 62) ≤ n ∧ n < 2 ^ 62) (k : R (Itr 0 n.toNat) H) : kRng1 R [.int n] H := ⟨n, rfl, h0.1, h0.2, k⟩
theorem v_rng2 {n m : Int} (h0 : -(2 ^ 62) ≤ n ∧ n < 2 ^ 62 ∧ -(2 ^ 62) ≤ m ∧ m < 2 ^ 62) (k : R (Itr n (m - n).toNat) H) : kRng2 R [.int n, .int m] H := ⟨n, m, rfl, h0, k⟩
theorem v_rng3 {i j c : Int} {n : Nat} (h0 : RgC i j c n) (k : R (Itc i c n) H) : kRng3 R [.int i, .int j, .int c] H := ⟨i, j, c, n, rfl, h0, k⟩
theorem v_enum {a : Addr} {xs : List V} (h : SqL K H a xs) (k : R (Ite K a) H) : kEnum K R [.ref a] H := ⟨a, xs, rfl, h, k⟩
theorem v_zip {a b : Addr} {xs ys : List V} (h : SqL K H a xs) (h2 : SqL K H b ys) (k : R (Itz K a b) H) : kZip K R [.ref a, .ref b] H := ⟨a, b, xs, ys, rfl, h, h2, k⟩
theorem v_rev1 {a : Addr} {xs : List V} (h : SqL K H a xs) (k : R (Itv K a xs.length) H) : kRev K R [.ref a] H := ⟨a, xs, rfl, h, k⟩
end
end SH


set_option Elab.async false
set_option linter.all false
set_option maxRecDepth 100000
set_option maxHeartbeats 4000000
/-! SHC: lengths, places, fields, constants -/
namespace SH
open PySem PySem.Spec PyProof.Rows L2

def Sq (K : PySem.W.Frag) (H : Hp) (a : Addr) (xs : List V) : Prop := SqL K H a xs ∨ SqT K H a xs
def aLen (K : PySem.W.Frag) : List V → Hp → VK → Prop := fun vs H Q => match vs with
  | [.ref p] => ∃ xs, Sq K H p xs ∧ Q (.int xs.length) H
  | [.str y] => y.length ≤ sizeLine ∧ Q (.int y.length) H
  | _ => False
def aIx (K : PySem.W.Frag) : R2 := fun x y H Q => match x, y with
  | .ref p, .int i => ∃ xs v, Sq K H p xs ∧ atI xs i = some v ∧ Q v H
  | .str z, .int i => ∃ c, z.length ≤ sizeLine ∧ atI z.cps.toList i = some c ∧ Q (.str ⟨#[c]⟩) H
  | _, _ => False
section
variable {X : Cx} {o e value : Expr} {f : Str} {pos tpos pos' : Pos} {ta tv : TE} {C : Addr}
theorem cLen : CallR X (.builtin "len") (aLen X.K) := by
  intro pins s σ H xs us Q I r h
  match xs, r, h with
  | [], _, h => exact False.elim h
  | [.ref p], r, h =>
    obtain ⟨ys, hq, q⟩ := h
    exact call_len pins s σ H _ us Q I r ⟨.ref p, ys.length, rfl, hq.elim (fun z => .inl ⟨ys, z, rfl⟩) fun z => .inr ⟨ys, z, rfl⟩, q⟩
  | [.str y], r, h => exact call_len pins s σ H _ us Q I r ⟨.str y, y.length, rfl, ⟨h.1, rfl⟩, h.2⟩
  | [.non], _, h => exact False.elim h
  | [.bl _], _, h => exact False.elim h
  | [.int _], _, h => exact False.elim h
  | [.byt _], _, h => exact False.elim h
  | [.flt _], _, h => exact False.elim h
  | [.ty _], _, h => exact False.elim h
  | _ :: _ :: _, _, h => revert h; intro h; simp [aLen] at h
theorem ixA : IxR X (aIx X.K) := by
  intro value slice pins s σ H x y v u Q I rx ry h hs
  cases x <;> cases y <;> first | exact False.elim h | skip
  · obtain ⟨c, h1, h2, q⟩ := h
    exact ix_str value slice pins s σ H _ _ v u Q I rx ry ⟨_, _, c, rfl, rfl, h1, h2, q⟩ hs
  · obtain ⟨xs, w, hq, h2, q⟩ := h
    rcases hq with hq | hq
    · exact ix_list value slice pins s σ H _ _ v u Q I rx ry ⟨_, xs, _, w, rfl, rfl, hq, h2, q⟩ hs
    · exact ix_tup value slice pins s σ H _ _ v u Q I rx ry ⟨_, xs, _, w, rfl, rfl, hq, h2, q⟩ hs
/-- e.f, the class known -/
def tFldF (C : Addr) (ta : TE) (f : Str) : TE := fun σ H Q => ta σ H fun x H1 => ∃ a dx fs v, x = .ref a ∧ H1 a = some (.ins C dx fs) ∧ fs.lookup f = some v ∧ Q v H1
theorem pe_fldF (cl : Cls X.K C) (na : NoAttr X.K C f) (he : PE X e ta) (hb : attributeBase e f X.env (eval e X.env) = eval e X.env := by rfl) : PE X (.Attribute e f pos) (tFldF C ta f) := by
  refine ⟨fun pins s σ H Q I h => ?_⟩
  refine attr_of hb (thn (he.run pins s σ H _ I h) fun u s1 ⟨x, H1, I1, rx, a, dx, fs, v, ex, ea, l, q⟩ => ?_)
  subst ex
  obtain rfl : u = Value.ref a := rx
  exact getattr_ok I1 ea cl na l fun u' s2 I2 ru => ⟨v, H1, I2, ru, q⟩
def sFldF (C : Addr) (ta tv : TE) (f : Str) : TS := fun D σ H => tv σ H fun y H1 => ta σ H1 fun x H2 => ∃ a dx fs, x = .ref a ∧ H2 a = some (.ins C dx fs) ∧ fs.length < 1000 ∧ D.nx σ (upd H2 a (.ins C dx (putF f y fs)))
theorem ps_fldF (cl : Cls X.K C) (na : NoAttr X.K C f) (ha : PE X o ta) (hv : PE X value tv) (hs : swapsWith value (some (.Attribute o f pos')) pos.line X.env = pure false) : PS X (.Assign [.Attribute o f pos'] value pos) (sFldF C ta tv f) := by
  refine ⟨fun pins s σ H D I h => ?_⟩
  refine plainObj_wpAny_Assign_Attribute (thn (hv.run pins s σ H _ I h) fun u s1 ⟨y, H1, I1, ry, q⟩ => thn (ha.run pins s1 σ H1 _ I1 q) fun ov s2 ⟨x, H2, I2, rx, a, dx, fs, ex, ea, l, q2⟩ => ?_) hs
  subst ex
  obtain rfl : ov = Value.ref a := rx
  exact setattr_ok I2 ea cl na l ry fun s3 I3 => ⟨σ, _, I3, q2⟩
def sFldAugF (C : Addr) (ta tv : TE) (rd : V → V → Hp → VK → Prop) (f : Str) : TS := fun D σ H => ta σ H fun x H1 => ∃ a dx fs v, x = .ref a ∧ H1 a = some (.ins C dx fs) ∧ fs.lookup f = some v ∧
  tv σ H1 fun y H2 => rd v y H2 fun z H3 => ∃ dx' fs', H3 a = some (.ins C dx' fs') ∧ fs'.length < 1000 ∧ D.nx σ (upd H3 a (.ins C dx' (putF f z fs')))
theorem ps_fldaugF {op : Operator} {rd : V → V → Hp → VK → Prop} (cl : Cls X.K C) (na : NoAttr X.K C f) (ha : PE X o ta) (hv : PE X value tv) (hop : InOp X op rd) : PS X (.AugAssign (.Attribute o f tpos) op value pos) (sFldAugF C ta tv rd f) := by
  refine ⟨fun pins s σ H D I h => ?_⟩
  refine wpAny_AugAssign_AttributeAny (thn (ha.run pins s σ H _ I h) fun ov s1 ⟨x, H1, I1, rx, a, dx, fs, v, ex, ea, l, q⟩ => ?_)
  subst ex
  obtain rfl : ov = Value.ref a := rx
  refine getattr_ok I1 ea cl na l fun u s2 I2 ru => thn (hv.run pins s2 σ H1 _ I2 q) fun w3 s3 ⟨y, H2, I3, ry, q3⟩ => thn (hop pins s3 σ H2 v y u w3 _ I3 ru ry q3) fun w4 s4 ⟨z, H3, I4, rz, dx', fs', ea', l', q4⟩ => ?_
  exact setattr_ok I4 ea' cl na l' rz fun s5 I5 => ⟨σ, _, I5, q4⟩
theorem in_add' : InOp X .Add aIpAdd := ip_add'
theorem in_sub' : InOp X .Sub aIpSub := ip_sub'
/-- a module's constant that is an int -/
theorem pe_k {x : Str} {v : V} (hm : ∃ u, X.mg x = some u ∧ RelV v u) (hg : Gl X x := by rfl) (hd : (x == ("__debug__" : Str)) = false := by decide) : PE X (.Name x pos) (tC v) := by
  obtain ⟨u, h1, h2⟩ := hm
  exact pe_glob hg h1 h2 hd
/-- xs[i], for xs[i] op= e -/
def aGetL (K : PySem.W.Frag) : V → V → Hp → VK → Prop := fun o i H Q => ∃ p xs k v, o = .ref p ∧ i = .int k ∧ H p = some (.lst xs) ∧ 0 ≤ k ∧ k < 2 ^ 63 ∧ xs[k.toNat]? = some v ∧ Q v H
theorem getL : PGet X (aGetL X.K) := by
  intro pins s σ H o i ov iv Q I ro ri h
  obtain ⟨p, xs, k, v, rfl, rfl, hp, h0, h1, hv, q⟩ := h
  cases ro
  obtain ⟨t, rfl⟩ := ri
  obtain ⟨its, r, pl, hz⟩ := I.list (SqL.of (K := X.K) hp)
  obtain ⟨w, ew, rw'⟩ := r.get hv
  exact wpAny_getItem_list pl.isList h0 h1 (by simpa using ew) ⟨v, H, I, rw', q⟩
end
section
variable {K : PySem.W.Frag} {H : Hp} {Q : VK} {x y v : V} {a p dx C : Addr} {fs : List (Str × V)} {f : Str} {xs : List V} {i : Int} {n : Nat} {ta tv : TE} {σ : L2.St} {D : Ends}
theorem v_lenL (h : SqL K H p xs) (k : Q (.int xs.length) H) : aLen K [.ref p] H Q := ⟨xs, .inl h, k⟩
theorem v_lenLm {α : Type} {f : α → V} {ns : List α} (h : SqL K H p (ns.map f)) (k : Q (.int ns.length) H) : aLen K [.ref p] H Q := ⟨_, .inl h, by rw [List.length_map]; exact k⟩
theorem v_lenTm {α : Type} {f : α → V} {ns : List α} (h : SqT K H p (ns.map f)) (k : Q (.int ns.length) H) : aLen K [.ref p] H Q := ⟨_, .inr h, by rw [List.length_map]; exact k⟩
theorem v_lenT (h : SqT K H p xs) (k : Q (.int xs.length) H) : aLen K [.ref p] H Q := ⟨xs, .inr h, k⟩
theorem v_ixL (h : SqL K H p xs) (ha : atI xs i = some v) (k : Q v H) : aIx K (.ref p) (.int i) H Q := ⟨xs, v, .inl h, ha, k⟩
theorem v_ixT (h : SqT K H p xs) (ha : atI xs i = some v) (k : Q v H) : aIx K (.ref p) (.int i) H Q := ⟨xs, v, .inr h, ha, k⟩
/-- at a place n -/
theorem v_ixLn (h : SqL K H p xs) (e : i = (n : Int)) (ha : xs[n]? = some v) (k : Q v H) : aIx K (.ref p) (.int i) H Q := ⟨xs, v, .inl h, by rw [e]; exact atI_nat ha, k⟩
theorem v_ixTn (h : SqT K H p xs) (e : i = (n : Int)) (ha : xs[n]? = some v) (k : Q v H) : aIx K (.ref p) (.int i) H Q := ⟨xs, v, .inr h, by rw [e]; exact atI_nat ha, k⟩
def kFld (C : Addr) (f : Str) (Q : VK) : VK := fun x H1 => ∃ a dx fs v, x = .ref a ∧ H1 a = some (.ins C dx fs) ∧ fs.lookup f = some v ∧ Q v H1
theorem r_fldF (h : ta σ H (kFld C f Q)) : tFldF C ta f σ H Q := h
theorem v_fld (h : H a = some (.ins C dx fs)) (l : fs.lookup f = some v) (k : Q v H) : kFld C f Q (.ref a) H := ⟨a, dx, fs, v, rfl, h, l, k⟩
def kSfld (C : Addr) (f : Str) (y : V) (R : Hp → Prop) : VK := fun x H2 => ∃ a dx fs, x = .ref a ∧ H2 a = some (.ins C dx fs) ∧ fs.length < 1000 ∧ R (upd H2 a (.ins C dx (putF f y fs)))
theorem r_sfldF (h : tv σ H fun y H1 => ta σ H1 (kSfld C f y (D.nx σ))) : sFldF C ta tv f D σ H := h
theorem v_sfld {fs' : List (Str × V)} {R : Hp → Prop} (h : H a = some (.ins C dx fs)) (l : fs.length < 1000) (e : putF f y fs = fs') (k : R (upd H a (.ins C dx fs'))) : kSfld C f y R (.ref a) H := ⟨a, dx, fs, rfl, h, l, by rw [e]; exact k⟩
def kAug1 (C : Addr) (f : Str) (R : V → Addr → Hp → Prop) : VK := fun x H1 => ∃ a dx fs v, x = .ref a ∧ H1 a = some (.ins C dx fs) ∧ fs.lookup f = some v ∧ R v a H1
def kAug2 (C : Addr) (f : Str) (a : Addr) (R : Hp → Prop) : VK := fun z H3 => ∃ dx' fs', H3 a = some (.ins C dx' fs') ∧ fs'.length < 1000 ∧ R (upd H3 a (.ins C dx' (putF f z fs')))
theorem r_sfldAugF {rd : V → V → Hp → VK → Prop} (h : ta σ H (kAug1 C f fun v a H1 => tv σ H1 fun y H2 => rd v y H2 (kAug2 C f a (D.nx σ)))) : sFldAugF C ta tv rd f D σ H := h
theorem v_aug1 {R : V → Addr → Hp → Prop} (h : H a = some (.ins C dx fs)) (l : fs.lookup f = some v) (k : R v a H) : kAug1 C f R (.ref a) H := ⟨a, dx, fs, v, rfl, h, l, k⟩
theorem v_aug2 {fs' : List (Str × V)} {R : Hp → Prop} (h : H a = some (.ins C dx fs)) (l : fs.length < 1000) (e : putF f y fs = fs') (k : R (upd H a (.ins C dx fs'))) : kAug2 C f a R y H := ⟨dx, fs, h, l, by rw [e]; exact k⟩
theorem v_getL (h : H p = some (.lst xs)) (e : i = (n : Int)) (hn : n < 1000000) (ha : xs[n]? = some v) (k : Q v H) : aGetL K (.ref p) (.int i) H Q := ⟨p, xs, i, v, rfl, rfl, h, by omega, by omega, by rw [e]; exact ha, k⟩
theorem ixN_n {m n : Nat} (h : n < m) : ixN m (n : Int) = some n := by
  unfold ixN
  rw [if_pos (by omega), if_pos (by omega)]
  simp
theorem v_setL {P : Hp → Prop} (h : H p = some (.lst xs)) (e : i = (n : Int)) (hn : n < xs.length) (k : P (upd H p (.lst (xs.set n v)))) : rSetL (.ref p) (.int i) v H P := ⟨p, xs, i, n, rfl, rfl, h, by rw [e]; exact ixN_n hn, k⟩
theorem v_append {P : Hp → Prop} (h : H p = some (.lst xs)) (hn : xs.length < 1000000) (k : P (upd H p (.lst (xs ++ [v])))) : tyV K "list" (.ref p) H ∧ rAppend (.ref p) [v] H (fun _ H' => P H') := ⟨.inl ⟨rfl, xs, SqL.of h⟩, p, xs, v, rfl, rfl, h, Nat.lt_trans hn (by decide), k⟩
theorem ty_list (h : H p = some (.lst xs)) : tyV K "list" (.ref p) H := .inl ⟨rfl, xs, SqL.of h⟩
theorem v_app (h : H p = some (.lst xs)) (hn : xs.length < 1000000) (k : Q .non (upd H p (.lst (xs ++ [v])))) : rAppend (.ref p) [v] H Q := ⟨p, xs, v, rfl, rfl, h, Nat.lt_trans hn (by decide), k⟩
theorem v_ext {b : Addr} {ys : List V} (h : H p = some (.lst xs)) (h2 : H b = some (.lst ys)) (hn : xs.length + ys.length ≤ 1000000) (k : Q .non (upd H p (.lst (xs ++ ys)))) : rExtend (.ref p) [.ref b] H Q := ⟨p, b, xs, ys, rfl, rfl, h, h2, Nat.le_trans hn (by decide), k⟩
theorem v_rev (h : H p = some (.lst xs)) (k : Q .non (upd H p (.lst xs.reverse))) : rReverse (.ref p) [] H Q := ⟨p, xs, rfl, rfl, h, k⟩
theorem v_clear (h : H p = some (.lst xs)) (k : Q .non (upd H p (.lst []))) : rClear (.ref p) [] H Q := ⟨p, xs, rfl, rfl, h, k⟩
theorem v_pop (h : H p = some (.lst xs)) (hv : xs[xs.length - 1]? = some v) (k : Q v (upd H p (.lst xs.dropLast))) : rPop (.ref p) [] H Q := ⟨p, xs, v, rfl, rfl, h, hv, k⟩
theorem v_slL {lo hi : Option Int} (h : SqL K H p xs) (k : ∀ q, H q = none → Q (.ref q) (upd H q (.lst (cutV xs lo hi)))) : rSlL K (.ref p) lo hi H Q := ⟨p, xs, rfl, h, k⟩
theorem v_listL (h : SqL K H p xs) (k : ∀ l, H l = none → Q (.ref l) (upd H l (.lst xs))) : ∃ p' ys, [V.ref p] = [.ref p'] ∧ (SqL K H p' ys ∨ SqT K H p' ys) ∧ ∀ l, H l = none → Q (.ref l) (upd H l (.lst ys)) := ⟨p, xs, rfl, .inl h, k⟩
theorem v_listT (h : SqT K H p xs) (k : ∀ l, H l = none → Q (.ref l) (upd H l (.lst xs))) : ∃ p' ys, [V.ref p] = [.ref p'] ∧ (SqL K H p' ys ∨ SqT K H p' ys) ∧ ∀ l, H l = none → Q (.ref l) (upd H l (.lst ys)) := ⟨p, xs, rfl, .inr h, k⟩
theorem v_sum {ns : List Int} (h : SqL K H p (ns.map V.int)) (k : Q (.int ns.sum) H) : rSum K [.ref p] H Q := ⟨p, ns, rfl, h, k⟩
theorem v_isi {c : V} {t u : Value} {b : Bool} (h1 : ClsV c u) (h2 : TyX K H x t) (h3 : PySem.W.kitOne K t u = some b) (k : Q (.bl b) H) : rIsi K [x, c] H Q := ⟨x, c, t, u, b, rfl, h1, h2, h3, k⟩
theorem v_max2 {n m : Int} (k : Q (.int (if m > n then m else n)) H) : ∃ i j, [V.int n, V.int m] = [.int i, .int j] ∧ Q (.int (if j > i then j else i)) H := ⟨n, m, rfl, k⟩
theorem v_min2 {n m : Int} (k : Q (.int (if m < n then m else n)) H) : ∃ i j, [V.int n, V.int m] = [.int i, .int j] ∧ Q (.int (if j < i then j else i)) H := ⟨n, m, rfl, k⟩
theorem v_bits {n : Int} (k : Q (.int (Builtin.Int.intBits n : Nat)) H) : ∃ i, V.int n = .int i ∧ Q (.int (Builtin.Int.intBits i : Nat)) H := ⟨n, rfl, k⟩
theorem r_bits (h : ta σ H fun x H1 => ∃ i, x = .int i ∧ Q (.int (Builtin.Int.intBits i : Nat)) H1) : tBits ta σ H Q := h
end

/-- 10 ** 60 -/
def big60 : Int := 10 ^ 60
theorem big60_pos : 0 < big60 := by unfold big60; decide
theorem big60_lt : big60 < 2 ^ 200 := by unfold big60; decide +kernel
section
variable {K : PySem.W.Frag} {H : Hp} {Q : VK} {x : V}
theorem v_pow60 (k : Q (.int big60) H) : aPow (.int 10) (.int 60) H Q := ⟨⟨by decide, by decide, by decide⟩, k⟩
theorem v_isiIT {n : Int} (k : Q (.bl true) H) : rIsi K [.int n, .ty "int"] H Q := ⟨.int n, .ty "int", .type "int", .type "int", true, rfl, .ty _, .base (.int n), by rfl, k⟩
theorem v_isiIB {n : Int} (k : Q (.bl false) H) : rIsi K [.int n, .ty "bool"] H Q := ⟨.int n, .ty "bool", .type "int", .type "bool", false, rfl, .ty _, .base (.int n), by rfl, k⟩
end
theorem map_at {α : Type} {f : α → V} {ns : List α} {i : Nat} {x : V} (h : (ns.map f)[i]? = some x) : ∃ n, ns[i]? = some n ∧ x = f n := by
  rw [List.getElem?_map] at h
  cases e : ns[i]? with
  | none => rw [e] at h; cases h
  | some n => rw [e] at h; exact ⟨n, rfl, (Option.some.inj h).symm⟩
/-- a cut of any list -/
def cutL {α : Type} (xs : List α) (lo hi : Option Int) : List α := (xs.drop (HT.sIx xs.length 0 lo)).take (HT.sIx xs.length xs.length hi - HT.sIx xs.length 0 lo)
theorem cut_map {α : Type} (f : α → V) (ns : List α) (lo hi : Option Int) : cutV (ns.map f) lo hi = (cutL ns lo hi).map f := by
  unfold cutV cutL
  rw [List.length_map, List.map_take, List.map_drop]
theorem cutL_mem {α : Type} {xs : List α} {lo hi : Option Int} {x : α} (h : x ∈ cutL xs lo hi) : x ∈ xs := List.mem_of_mem_drop (List.mem_of_mem_take h)
theorem cutL_len {α : Type} (xs : List α) (lo hi : Option Int) : (cutL xs lo hi).length ≤ xs.length := by
  unfold cutL
  rw [List.length_take, List.length_drop]
  omega
theorem cutL_upto {α : Type} (xs : List α) (k : Nat) : cutL xs none (some (k : Int)) = xs.take k := by
  unfold cutL
  rw [HT.sIx_none, HT.sIx_nat, List.drop_zero, Nat.sub_zero, List.take_eq_take_iff]
  omega
theorem cutL_from {α : Type} (xs : List α) (k : Nat) : cutL xs (some (k : Int)) none = xs.drop k := by
  unfold cutL
  rw [HT.sIx_none, HT.sIx_nat]
  by_cases h : k ≤ xs.length
  · rw [Nat.min_eq_left h, List.take_of_length_le (by rw [List.length_drop]; omega)]
  · have e1 : min k xs.length = xs.length := by omega
    rw [e1, List.drop_length, List.drop_of_length_le (by omega), List.take_nil]
theorem cutL_span {α : Type} (xs : List α) (i j : Nat) : cutL xs (some (i : Int)) (some (j : Int)) = (xs.drop i).take (j - i) := by
  unfold cutL
  rw [HT.sIx_nat, HT.sIx_nat]
  by_cases h : i ≤ xs.length
  · rw [Nat.min_eq_left h]
    by_cases h2 : j ≤ xs.length
    · rw [Nat.min_eq_left h2]
    · rw [Nat.min_eq_right (by omega), List.take_of_length_le (by rw [List.length_drop]; omega), List.take_of_length_le (by rw [List.length_drop]; omega)]
  · have e1 : min i xs.length = xs.length := by omega
    rw [e1, List.drop_length, List.drop_of_length_le (by omega), List.take_nil, List.take_nil]
/-- what a law is asked: the script's ints in, True out -/
def lawSp (K : PySem.W.Frag) : Sp := fun vs H Q _ => ∃ (a : Addr) (ns : List Int), vs = [.ref a] ∧ SqL K H a (ns.map V.int) ∧ ns.length ≤ 63 ∧ ∀ H', Q (.bl true) H'
end SH

set_option Elab.async false
set_option linter.all false
set_option maxRecDepth 100000
set_option maxHeartbeats 4000000
/-! SHD: functions that are made by a def and handed out -/
namespace SH
open PySem PySem.Spec PyProof.Rows L2 NdefX LamX

/-- the cell at c holds v -/
def cellO (c : Addr) (v : V) : HO := .ext fun h => ∃ u, L2.RelV v u ∧ h.IsCell c (some u)
theorem cellO_ok {P : Program} {w : World} {H : Hp} {h : Heap} {c : Addr} {v : V} {u : Value} (r : L2.RelV v u) (e : h.IsCell c (some u)) : ObjOk P w H h c (cellO c v) := by
  refine ⟨⟨u, r, e⟩, ?_, fun h1 h2 ⟨u', r', o, ho, hd⟩ st => ⟨u', r', o, st o ho, hd⟩⟩
  obtain ⟨o, ho, _⟩ := e
  exact ⟨o, ho⟩
theorem cellO_at {P : Program} {w : World} {H : Hp} {h : Heap} {c : Addr} {v : V} (hok : HOk P w H h) (e : H c = some (cellO c v)) : ∃ u, L2.RelV v u ∧ h.IsCell c (some u) := (hok c _ e).1
/-- at f stands a function of the text st, made in the def of the name before it; its captured names fr hold ws -/
structure Clo (H : Hp) (f : Addr) (st : Stmt) (name qual : Str) (fr : List Str) (ws : List V) (cl : List (Str × Addr)) (c' : Addr) : Prop where
  fn : H f = some (FnO f (NF.of st name qual cl c'))
  code : H c' = some (CodeO c' qual)
  len : ws.length = fr.length
  cells : ∀ y c, (y, c) ∈ cl → ∃ v, H c = some (cellO c v)
  inj : ∀ x y c, cl.lookup x = some c → cl.lookup y = some c → x = y
  has : ∀ (i : Nat) (y : Str), fr[i]? = some y → ∃ c v, cl.lookup y = some c ∧ ws[i]? = some v ∧ H c = some (cellO c v)
theorem Clo.step {M : List Addr} {H H' : Hp} {f : Addr} {st : Stmt} {name qual : Str} {fr : List Str} {ws : List V} {cl : List (Str × Addr)} {c' : Addr} (c : Clo H f st name qual fr ws cl c') (s : Stp M H H') : Clo H' f st name qual fr ws cl c' := by
  refine ⟨s.fix c.fn True.intro, s.fix c.code True.intro, c.len, fun y a e => ?_, c.inj, fun i y e => ?_⟩
  · obtain ⟨v, h⟩ := c.cells y a e
    exact ⟨v, s.fix h True.intro⟩
  · obtain ⟨a, v, h1, h2, h3⟩ := c.has i y e
    exact ⟨a, v, h1, h2, s.fix h3 True.intro⟩

/-- the cells of a list tracked too -/
def track (cl : List (Str × Addr)) (val : Addr → HO) (H : Hp) : Hp := fun b => match H b with
  | some o => some o
  | none => if b ∈ cl.map (·.2) then some (val b) else none
theorem track_some {cl : List (Str × Addr)} {val : Addr → HO} {H : Hp} {b : Addr} {o : HO} (h : H b = some o) : track cl val H b = some o := by
  unfold track; rw [h]
theorem track_cell {cl : List (Str × Addr)} {val : Addr → HO} {H : Hp} {b : Addr} (h : H b = none) (m : b ∈ cl.map (·.2)) : track cl val H b = some (val b) := by
  unfold track; rw [h]; exact if_pos m
theorem track_out {cl : List (Str × Addr)} {val : Addr → HO} {H : Hp} {b : Addr} (m : b ∉ cl.map (·.2)) : track cl val H b = H b := by
  unfold track
  cases h : H b with
  | some o => rfl
  | none => exact if_neg m
theorem track_none {cl : List (Str × Addr)} {val : Addr → HO} {H : Hp} {b : Addr} (h : track cl val H b = none) : H b = none ∧ b ∉ cl.map (·.2) := by
  unfold track at h
  cases e : H b with
  | some o => rw [e] at h; cases h
  | none =>
    rw [e] at h
    refine ⟨rfl, fun m => ?_⟩
    have h : (if b ∈ cl.map (·.2) then some (val b) else none) = none := h
    rw [if_pos m] at h
    cases h
theorem track_ok {P : Program} {w : World} {H : Hp} {h : Heap} {cl : List (Str × Addr)} {val : Addr → HO} (hok : HOk P w H h) (hv : ∀ b ∈ cl.map (·.2), H b = none → ObjOk P w (track cl val H) h b (val b)) : HOk P w (track cl val H) h := fun b o e => by
  cases q : H b with
  | some u =>
    rw [track_some q] at e
    cases e
    exact (hok b o q).stay (fun _ _ _ z => z) (fun c z => track_some z) fun c xs z => track_some z
  | none =>
    by_cases m : b ∈ cl.map (·.2)
    · rw [track_cell q m] at e
      cases e
      exact hv b m q
    · rw [track_out m, q] at e; cases e

/-- the body of a def that makes a function and hands it out has come to its end -/
def Made (X : Cx) (σ : L2.St) (H : Hp) (T : List NTab) (i : Nat) (st : Stmt) (nm : Str) : Flow → Shared → Prop := fun fl s' => ∃ f' c' H1, Inv X [] (σ.set i (some (.ref f'))) H1 s' ∧ fl = .ret (.ref f') ∧ ExtN H H1 ∧ (∀ b, H1 b = Option.none → H b = Option.none) ∧ TabsN T H1 ∧ H f' = none ∧
  H1 f' = some (FnO f' (NF.of st nm (X.env.qual ++ nm) (cloFrom X.env.cells (C8.fnScope st).names []) c')) ∧ H1 c' = some (CodeO c' (X.env.qual ++ nm))
theorem mk_body {X : Cx} {σ : L2.St} {H : Hp} {s : Shared} {c P' : Addr} {nm : Str} {pos pos2 pos3 : Pos} {T : List NTab} {nmf : Nat → Nat → Str} {i : Nat} {st : Stmt} (I : Inv X [] σ H s)
    (hst : st = .FunctionDef nm (C8.fnArgs st) (C8.fnBody st) [] none [] (C8.fnScope st) none nm pos)
    (TB : TabB X.base X.mg c P') (hcode : X.env.code = .ref c) (hm : (P', nmf) ∈ T) (hn : nmf pos.line pos.col = X.env.qual ++ nm) (hu : ∀ p ∈ T, p.1 = P' → p.2 = nmf)
    (hfree : ∀ y ∈ (C8.fnScope st).names, y.2 = .free → X.env.scope.names.lookup y.1 = some .cell)
    (hd0 : (C8.fnArgs st).defaults = []) (hk0 : (C8.fnArgs st).kw_defaults = []) (ha : annTrees (C8.fnArgs st) none X.env = []) (hN : X.N.Nodup) (hf : X.fn nm = true ∨ X.env.scope.names.lookup nm = some .local)
    (hi : X.N[i]? = some nm) (hx : X.env.scope.names.lookup nm = some .local) (hdb : (nm == ("__debug__" : Str)) = false) (hcb : (nm == ("__classdict__" : Str)) = false) (hT : TabsN T H) :
    wpAny (model X.prog X.w) X.A (execs [st, .Return (some (.Name nm pos3)) pos2] X.env) (Made X σ H T i st nm) X.xe s := by
  have first := ps_ndefMS (X := X) (i := i) (T := T) (nm := nmf) (P := P') (c := c) hst TB hcode hm hn hu (fun y hy e => .inl (hfree y hy e)) hd0 hk0 ha hN hi (.inl hx) hf
  refine wpAny_execs_cons (thn (first.run [] s σ H ⟨fun σ1 H1 => ∃ f' c', σ1 = σ.set i (some (.ref f')) ∧ ExtN H H1 ∧ (∀ b, H1 b = Option.none → H b = Option.none) ∧ TabsN T H1 ∧ H f' = none ∧
      H1 f' = some (FnO f' (NF.of st nm (X.env.qual ++ nm) (cloFrom X.env.cells (C8.fnScope st).names []) c')) ∧ H1 c' = some (CodeO c' (X.env.qual ++ nm)), fun _ _ => False, fun _ _ => False, fun _ _ => False⟩ I
        ⟨hT, fun f' c' H1 e n t z e1 e2 => ⟨f', c', rfl, e, n, t, z, e1, e2⟩⟩) fun fl s2 q => ?_)
  cases fl with
  | next =>
    obtain ⟨σ1, H1, I1, f', c', rfl, e1, e2, e3, e4, e5, e6⟩ := q
    have hv : (σ.set i (some (V.ref f')))[i]? = some (some (.ref f')) := by
      have hlt : i < X.N.length := (List.getElem?_eq_some_iff.mp hi).1
      rw [List.getElem?_set_self (by rw [I.len]; exact hlt)]
    refine wpAny_execs_cons (wpAny_Return_some (pos := pos2) (thn ((pe_var (X := X) (pos := pos3) hi (.inl hx) hdb hcb).run [] s2 _ H1 (fun v H2 => v = .ref f' ∧ H2 = H1) I1 ⟨.ref f', hv, rfl, rfl⟩) fun u s3 q3 => ?_))
    obtain ⟨v, H2, I2, r2, ev, eH⟩ := q3
    subst ev
    subst eH
    obtain rfl : u = Value.ref f' := r2
    exact ⟨f', c', _, I2, rfl, e1, e2, e3, e4, e5, e6⟩
  | ret v => obtain ⟨_, _, _, _, _, z⟩ := q; exact z.elim
  | brk => obtain ⟨_, _, _, z⟩ := q; exact z.elim
  | cont => obtain ⟨_, _, _, z⟩ := q; exact z.elim
section
variable {P : Program} {w : World} {K : PySem.W.Frag} {mg : Str → Option Value} {base : Heap} {CX : CXT}

/-- a def that makes a function of its parameters and hands it out -/
theorem maker {k : Nat} {f c P' : Addr} {name qual nm : Str} {params : Arguments} {body : List Stmt} {scope : Scope} {dV kV doc pm ct oc : Value} {an od : Option Addr} {pos pos2 pos3 : Pos}
    {osl : Array (Option Value)} {N ps fr : List Str} {sp : Sp} {T : List NTab} {nmf : Nat → Nat → Str} {i : Nat} {st : Stmt} {ix : List Nat} (lk : K.lookup f = some ⟨oc, od, .func (PySem.W.fnOf name qual params body scope dV kV doc pm an (.ref c) ct), osl⟩) (hcd : PySem.W.codeIn K (.ref c) qual = true) (S : FnScope N ps scope)
    (hst : st = .FunctionDef nm (C8.fnArgs st) (C8.fnBody st) [] none [] (C8.fnScope st) none nm pos)
    (hbody : body = [st, .Return (some (.Name nm pos3)) pos2])
    (TB : TabB base mg c P') (hm : (P', nmf) ∈ T) (hn : nmf pos.line pos.col = (qual ++ ".<locals>.") ++ nm) (hu : ∀ p ∈ T, p.1 = P' → p.2 = nmf) (hq : ∀ n g, (envOfC qual scope n g (.ref c)).qual = qual ++ ".<locals>.")
    (hfree : ∀ y ∈ (C8.fnScope st).names, y.2 = .free → scope.names.lookup y.1 = some .cell) (hfr : ∀ y ∈ fr, (y, NameKind.free) ∈ (C8.fnScope st).names) (hfr2 : ∀ y ∈ (C8.fnScope st).names, y.2 = .free → y.1 ∈ fr)
    (hd0 : (C8.fnArgs st).defaults = []) (hk0 : (C8.fnArgs st).kw_defaults = []) (ha : ∀ env, annTrees (C8.fnArgs st) none env = [])
    (hi : N[i]? = some nm) (hx : scope.names.lookup nm = some .local) (hip : ps.length ≤ i) (hdb : (nm == ("__debug__" : Str)) = false) (hcb : (nm == ("__classdict__" : Str)) = false)
    (hix : ix.map (fun j => ps[j]?) = fr.map some)
    (len : ∀ vs H Q E, sp vs H Q E → vs.length = ps.length)
    (hsp : ∀ vs H Q E, sp vs H Q E → TabsN T H ∧ ∀ (f' : Addr) (H' : Hp) (cl : List (Str × Addr)) (c' : Addr), ExtN H H' → (∀ b, H' b = Option.none → H b = Option.none) → TabsN T H' → H f' = none → Clo H' f' st nm ((qual ++ ".<locals>.") ++ nm) fr (ix.map fun j => vs.getD j .non) cl c' → Q (.ref f') H') :
    FnOk P w K mg base CX (k + 1) f (PySem.W.fnOf name qual params body scope dV kV doc pm an (.ref c) ct) ps sp := by
  refine ⟨len, fun A outer s H args us vs Q E hr e0 hb r hs => ?_⟩
  have hl := len _ _ _ _ hs
  have KX : K.In s.heap := e0.mod.kin.keeps fun b o e => (e0.bs b o e).1
  have lim : s.heap.NoLimit := e0.mod.nolimit.keeps fun b o e => (e0.bs b o e).1
  have hkind : ∀ y ∈ ps.zip us, scope.names.lookup y.1 = some .local ∨ (scope.names.lookup y.1 = some .cell ∧ ((cellsFrom (s.heap.objs.size + 1) scope.names []).lookup y.1).isSome = true) := fun ⟨n, v⟩ hy => by
    rcases S.par n (List.of_mem_zip hy).1 with q | q
    · exact .inl q
    · exact .inr ⟨q, PySem.W.cellsFrom_some _ _ _ (.inl q)⟩
  refine codeAny_call_function hr.depth (KX _ _ lk) rfl S.co S.gen rfl (PySem.W.codeRec_of KX hcd) (hb _ _ _ _ ?_)
  refine wpAny_newFunctionEnv_cells S.kind hkind fun env he s1 x => ?_
  subst he
  refine ⟨lim.keeps x.toInCall.keep, codeAny_func ?_⟩
  obtain ⟨hT, hend⟩ := hsp vs H Q E hs
  have I : Inv (cxOf CX P w K mg base N qual scope f (.ref c) A outer s H E) [] (L2.start N vs) H s1 := inv_start S hr.hd e0 hl r x
  have X0 : (cxOf CX P w K mg base N qual scope f (.ref c) A outer s H E).env.qual = qual ++ ".<locals>." := hq _ _
  have B := mk_body (X := cxOf CX P w K mg base N qual scope f (.ref c) A outer s H E) (pos2 := pos2) (pos3 := pos3) I hst TB rfl hm (by rw [X0]; exact hn) hu hfree hd0 hk0 (ha _) S.nd (.inl rfl) hi hx hdb hcb hT
  rw [← hbody] at B
  refine wpAny_mono B (fun fl s' hs => ?_) fun e s' hs => hs
  obtain ⟨f', c', H1, J, rfl, e1, e2, e3, e4, e5, e6⟩ := hs
  rw [X0] at e5 e6
  generalize hcl : cloFrom (cxOf CX P w K mg base N qual scope f (.ref c) A outer s H E).env.cells (C8.fnScope st).names [] = cl at e5
  have hcells : ∀ y ∈ (C8.fnScope st).names, y.2 = .free → ∃ a, (cxOf CX P w K mg base N qual scope f (.ref c) A outer s H E).env.cells.lookup y.1 = some a := fun y hy e => J.ok.has _ (.inl (hfree y hy e))
  have clm : ∀ y a, cl.lookup y = some a → (cxOf CX P w K mg base N qual scope f (.ref c) A outer s H E).env.cells.lookup y = some a := fun y a e => clo_cm hcells (by rw [hcl]; exact e)
  have clf : ∀ y a, (y, a) ∈ cl → y ∈ fr ∧ cl.lookup y = some a := fun y a m => by
    rw [← hcl] at m
    rcases cloFrom_mem m with z | ⟨z1, z2⟩
    · cases z
    · obtain ⟨a1, h1⟩ := hcells _ z1 rfl
      have h1 : (cxOf CX P w K mg base N qual scope f (.ref c) A outer s H E).env.cells.lookup y = some a1 := h1
      have h2 := clo_has hcells z1 h1
      rw [hcl] at h2
      have e : a = a1 := by rw [z2, h1]; rfl
      rw [e]
      exact ⟨hfr2 _ z1 rfl, h2⟩
  -- what each captured name holds
  have val : ∀ y ∈ fr, ∃ a v u, cl.lookup y = some a ∧ L2.RelV v u ∧ s'.heap.IsCell a (some u) ∧ ∀ m : Nat, fr[m]? = some y → (ix.map fun j => vs.getD j .non)[m]? = some v := by
    intro y hy
    obtain ⟨m, hm'⟩ := List.mem_iff_getElem?.mp hy
    have q : (ix.map fun j => ps[j]?)[m]? = some (some y) := by rw [hix, List.getElem?_map, hm']; rfl
    rw [List.getElem?_map] at q
    cases ej : ix[m]? with
    | none => rw [ej] at q; cases q
    | some j =>
      rw [ej] at q
      have hj : ps[j]? = some y := Option.some.inj q
      have hjl : j < ps.length := (List.getElem?_eq_some_iff.mp hj).1
      have hNj : N[j]? = some y := by
        rw [← hj, ← S.pre, List.getElem?_take_of_lt hjl]
      obtain ⟨v, hv⟩ : ∃ v, vs[j]? = some v := ⟨vs[j]'(by omega), by simp [show j < vs.length by omega]⟩
      have hs : ((L2.start N vs).set i (some (V.ref f')))[j]? = some (some v) := by
        rw [List.getElem?_set_ne (by omega)]
        unfold L2.start
        rw [List.getElem?_append_left (by rw [List.length_map]; omega), List.getElem?_map, hv] <;> rfl
      have kc : scope.names.lookup y = some .cell := hfree _ (hfr y hy) rfl
      obtain ⟨mm, hn2, hl2⟩ := J.loc
      obtain ⟨u, ru, lk2⟩ := hl2 j y v hNj hs (.inr (.inl kc))
      rcases lk2 with ⟨z, _⟩ | ⟨_, a, ha2, hcell⟩
      · have z' : scope.names.lookup y = some .local := z
        rw [kc] at z'; cases z'
      · have h2 := clo_has hcells (hfr y hy) ha2
        rw [hcl] at h2
        refine ⟨a, v, u, h2, ru, hcell, fun m' hm2 => ?_⟩
        -- any place of y
        have q2 : (ix.map fun j => ps[j]?)[m']? = some (some y) := by rw [hix, List.getElem?_map, hm2]; rfl
        rw [List.getElem?_map] at q2
        cases ej2 : ix[m']? with
        | none => rw [ej2] at q2; cases q2
        | some j2 =>
          rw [ej2] at q2
          have hj2 : ps[j2]? = some y := Option.some.inj q2
          have ndP : ps.Nodup := by rw [← S.pre]; exact S.nd.sublist (List.take_sublist _ _)
          have : j2 = j := L2.nodup_ix ndP hj2 hj
          subst this
          rw [List.getElem?_map, ej2]
          show some (vs.getD j2 .non) = some v
          rw [List.getD_eq_getElem?_getD, hv] <;> rfl
  let pick : Addr → HO := fun a => cellO a (match cl.find? (fun p => p.2 == a) with | some p => (match fr.findIdx? (fun z => z == p.1) with | some m => (ix.map fun j => vs.getD j .non).getD m .non | none => .non) | none => .non)
  have pick_of : ∀ y a, cl.lookup y = some a → ∀ v, (∀ m : Nat, fr[m]? = some y → (ix.map fun j => vs.getD j .non)[m]? = some v) → y ∈ fr → pick a = cellO a v := by
    intro y a hya v hv hy
    show cellO a _ = cellO a v
    have hmem : (y, a) ∈ cl := PySem.mem_of_lookup hya
    cases ef : cl.find? (fun p => p.2 == a) with
    | none =>
      have := List.find?_eq_none.mp ef (y, a) hmem
      simp at this
    | some p =>
      have hp1 := List.find?_some ef
      have hp2 := List.mem_of_find?_eq_some ef
      have e1 : p.2 = a := by simpa using hp1
      obtain ⟨hpf, hpl⟩ := clf p.1 p.2 hp2
      rw [e1] at hpl
      have ey : p.1 = y := J.ok.inj _ _ _ (clm _ _ hpl) (clm _ _ hya)
      show cellO a (match fr.findIdx? (fun z => z == p.1) with | some m => (ix.map fun j => vs.getD j .non).getD m .non | none => .non) = cellO a v
      rw [ey]
      cases ei : fr.findIdx? (fun z => z == y) with
      | none =>
        have := List.findIdx?_eq_none_iff.mp ei y hy
        simp at this
      | some m =>
        obtain ⟨hm1, hm2, _⟩ := List.findIdx?_eq_some_iff_getElem.mp ei
        have e2 : fr[m] = y := by simpa using hm2
        have := hv m (by rw [List.getElem?_eq_getElem hm1, e2])
        show cellO a ((ix.map fun j => vs.getD j .non).getD m .non) = cellO a v
        rw [List.getD_eq_getElem?_getD, this] <;> rfl
  have offc : ∀ a, a ∈ cl.map (·.2) → H1 a = none ∧ s.heap.objs.size ≤ a := fun a m => by
    obtain ⟨p, hp, rfl⟩ := List.mem_map.mp m
    obtain ⟨_, h2⟩ := clf p.1 p.2 hp
    exact ⟨J.freeC _ _ (clm _ _ h2), J.ok.cab _ _ rfl (clm _ _ h2)⟩
  have hok2 : HOk P w (track cl pick H1) s'.heap := track_ok J.hok fun a m _ => by
    obtain ⟨p, hp, rfl⟩ := List.mem_map.mp m
    obtain ⟨hy, h2⟩ := clf p.1 p.2 hp
    obtain ⟨a', v, u, h3, h4, h5, h6⟩ := val p.1 hy
    rw [h2] at h3
    cases h3
    rw [pick_of _ _ h2 v h6 hy]
    exact cellO_ok h4 h5
  have un2 : Un (frs outer) [] H (track cl pick H1) s.heap s'.heap := by
    have u := J.base
    refine ⟨u.keep, u.slot, fun b o q n hb => ?_, u.there, fun b xs q => track_some (u.tups b xs q), fun b o xs q => track_some (u.frzs b o xs q), fun b xs q => ?_⟩
    · rw [track_out fun m => absurd (Heap.lt_size q) (Nat.not_lt.mpr (offc b m).2)]
      exact u.free b o q n hb
    · obtain ⟨more, h2⟩ := u.tbls b xs q
      exact ⟨more, track_some h2⟩
  refine ⟨.ref f', track cl pick H1, J.os, J.bare, un2, hok2, rfl, hend f' _ cl c' (fun b o q n => track_some (e1 b o q n)) (fun b q => e2 b (track_none q).1) (e3.ext fun b o q => track_some q) e4 ?_⟩
  refine ⟨track_some e5, track_some e6, ?_, fun y a e => ?_, fun x y a h1 h2 => J.ok.inj _ _ _ (clm _ _ h1) (clm _ _ h2), fun m y e => ?_⟩
  · have := congrArg List.length hix
    rw [List.length_map, List.length_map] at this
    rw [List.length_map]; exact this
  · have m : a ∈ cl.map (·.2) := List.mem_map.mpr ⟨(y, a), e, rfl⟩
    exact ⟨_, track_cell (offc a m).1 m⟩
  · have hy := List.mem_of_getElem? e
    obtain ⟨a, v, u, h3, h4, h5, h6⟩ := val y hy
    have m' : a ∈ cl.map (·.2) := List.mem_map.mpr ⟨(y, a), PySem.mem_of_lookup h3, rfl⟩
    refine ⟨a, v, h3, h6 m e, ?_⟩
    rw [track_cell (offc a m').1 m', pick_of _ _ h3 v h6 hy]

/-! ### such a function called -/
def untrack (cl : List (Str × Addr)) (H : Hp) : Hp := fun b => if b ∈ cl.map (·.2) then none else H b
def retrack (cl : List (Str × Addr)) (H H' : Hp) : Hp := fun b => match H' b with
  | some o => some o
  | none => if b ∈ cl.map (·.2) then H b else none
theorem retrack_some {cl : List (Str × Addr)} {H H' : Hp} {b : Addr} {o : HO} (h : H' b = some o) : retrack cl H H' b = some o := by unfold retrack; rw [h]
theorem retrack_cell {cl : List (Str × Addr)} {H H' : Hp} {b : Addr} (h : H' b = none) (m : b ∈ cl.map (·.2)) : retrack cl H H' b = H b := by unfold retrack; rw [h]; exact if_pos m
theorem retrack_out {cl : List (Str × Addr)} {H H' : Hp} {b : Addr} (m : b ∉ cl.map (·.2)) : retrack cl H H' b = H' b := by
  unfold retrack
  cases h : H' b with
  | some o => rfl
  | none => exact if_neg m
theorem untrack_out {cl : List (Str × Addr)} {H : Hp} {b : Addr} (m : b ∉ cl.map (·.2)) : untrack cl H b = H b := if_neg m
theorem untrack_in {cl : List (Str × Addr)} {H : Hp} {b : Addr} (m : b ∈ cl.map (·.2)) : untrack cl H b = none := if_pos m
theorem untrack_some {cl : List (Str × Addr)} {H : Hp} {b : Addr} {o : HO} (h : untrack cl H b = some o) : b ∉ cl.map (·.2) ∧ H b = some o := by
  unfold untrack at h
  by_cases m : b ∈ cl.map (·.2)
  · rw [if_pos m] at h; cases h
  · rw [if_neg m] at h; exact ⟨m, h⟩
/-- no function, no cell -/
def Low : HO → Prop
  | .ext _ => False
  | _ => True
/-- what such a function promises; fin hands its end back to the caller's heap -/
structure COk (P : Program) (w : World) (K : PySem.W.Frag) (mg : Str → Option Value) (base : Heap) (CX : CXT) (k : Nat) (st : Stmt) (nm qual : Str) (ps fr : List Str) (sp : List V → Sp) : Prop where
  len : ∀ ws vs H Q E, sp ws vs H Q E → vs.length = ps.length
  run : ∀ (A : Around) (outer : List Env) (s : Shared) (H : Hp) (us : List Value) (vs : List V) (f : Addr) (cl : List (Str × Addr)) (c' : Addr) (ws : List V) (Q : VK) (E : XK), Room k A → Env0 P w K mg base A outer s H → Clo H f st nm qual fr ws cl c' → Vals vs us → sp ws vs H Q E →
    codeAny (model P w) A (.call (.ref f) ⟨us, []⟩) (CR CX0 outer P w H s Q E) s
theorem clo_mem {H : Hp} {f : Addr} {st : Stmt} {nm qual : Str} {fr : List Str} {ws : List V} {cl : List (Str × Addr)} {c' : Addr} (C : Clo H f st nm qual fr ws cl c') {b : Addr} (m : b ∈ cl.map (·.2)) : ∃ v, H b = some (cellO b v) := by
  obtain ⟨p, hp, rfl⟩ := List.mem_map.mp m
  exact C.cells p.1 p.2 hp
theorem cok_of {k : Nat} {st : Stmt} {nm qual : Str} {N ps fr : List Str} {sp : List V → Sp} (S : NScope N ps fr (C8.fnScope st))
    (hb : ∀ (cl : List (Str × Addr)) (c' : Addr) (doc pm ctv : Value) (us : List Value), us.length = ps.length → bindArgs ((NF.of st nm qual cl c').fd doc pm ctv) ⟨us, []⟩ = pure (ps.zip us)) (len : ∀ ws vs H Q E, sp ws vs H Q E → vs.length = ps.length)
    (hbody : ∀ (A : Around) (outer : List Env) (s : Shared) (f : Addr) (cl : List (Str × Addr)) (c' : Addr) (H H0 : Hp) (vs : List V) (ws : List V) (Q Q0 : VK) (E : XK), Room k (A.deeper (envF (NF.of st nm qual cl c') f s.heap.objs.size)) → sp ws vs H Q E → ws.length = fr.length →
      (∀ b o, H b = some o → Low o → H0 b = some o) → (∀ (v : V) (M : List Addr) (H2 : Hp), Stp M H0 H2 → (∀ H', Stp M H H' → (∀ b o, H2 b = some o → H' b = some o) → Q v H') → Q0 v H2) →
      ∃ t, PSs (ncx CX0 P w K mg base N (NF.of st nm qual cl c') f A outer s H0 E) (C8.fnBody st) t ∧ t { nx := fun _ H' => Q0 .non H', rt := Q0 } (startF N vs (ws.map some)) H0) :
    COk P w K mg base CX (k + 1) st nm qual ps fr sp := by
  refine ⟨len, fun A outer s H us vs f cl c' ws Q E hr e0 C r hsp => ?_⟩
  have cellN : ∀ b, b ∈ cl.map (·.2) → ∃ v, H b = some (cellO b v) := fun b m => clo_mem C m
  have lo : ∀ b o, H b = some o → (∀ v, o ≠ cellO b v) → untrack cl H b = some o := fun b o e n => by
    rw [untrack_out fun m => ?_]
    · exact e
    · obtain ⟨v, hv⟩ := cellN b m
      rw [e] at hv
      exact n v (Option.some.inj hv)
  have nf : untrack cl H f = some (FnO f (NF.of st nm qual cl c')) := by
    have ho := fnO_at e0.hok C.fn
    rw [untrack_out fun m => ?_]
    · exact C.fn
    · obtain ⟨v, hv⟩ := cellN f m
      obtain ⟨u, _, o, h1, h2⟩ := cellO_at e0.hok hv
      obtain ⟨od, sl, doc, pm, ctv, h3⟩ := ho
      rw [h1] at h3
      cases h3
      cases h2
  have nc : untrack cl H c' = some (CodeO c' qual) := by
    have ho := codeO_at e0.hok C.code
    rw [untrack_out fun m => ?_]
    · exact C.code
    · obtain ⟨v, hv⟩ := cellN c' m
      obtain ⟨u, _, o, h1, h2⟩ := cellO_at e0.hok hv
      obtain ⟨c2, oc, vs2, t, e1, h3, h4, _⟩ := ho
      cases e1
      rw [h1] at h3
      cases h3
      rw [h2] at h4
      cases h4
  have hok0 : HOk P w (untrack cl H) s.heap := fun b o e => by
    obtain ⟨m, e⟩ := untrack_some e
    refine (e0.hok b o e).stay (fun _ _ _ z => z) (fun d z => lo d _ z fun v q => ?_) fun d xs z => lo d _ z fun v q => ?_
    · cases q
    · cases q
  have env0 : Env0 P w K mg base A outer s (untrack cl H) := ⟨e0.frames, e0.mod, fun b o e => ⟨(e0.bs b o e).1, by
      unfold untrack
      split
      · rfl
      · exact (e0.bs b o e).2⟩, e0.bsz, e0.funs, fun b hb => by
      unfold untrack
      split
      · rfl
      · exact e0.frf b hb, hok0, e0.bare⟩
  have cells : CellsAt cl fr (ws.map some) s.heap (untrack cl H) := by
    refine ⟨by rw [List.length_map]; exact C.len, fun y a e => ?_, C.inj, fun i y e => ?_⟩
    · have m : a ∈ cl.map (·.2) := List.mem_map.mpr ⟨(y, a), PySem.mem_of_lookup e, rfl⟩
      obtain ⟨v, hv⟩ := cellN a m
      obtain ⟨u, _, z⟩ := cellO_at e0.hok hv
      exact ⟨untrack_in m, _, z⟩
    · obtain ⟨a, v, h1, h2, h3⟩ := C.has i y e
      refine ⟨a, h1, fun v' e' => ?_⟩
      rw [List.getElem?_map, h2] at e'
      cases e'
      exact cellO_at e0.hok h3
  let Q0 : VK := fun v H2 => (∀ b ∈ cl.map (·.2), H2 b = none) → Q v (retrack cl H H2)
  have nok : NOk P w K mg base CX0 (k + 1) f (NF.of st nm qual cl c') ps fr (fun ws' vs' H' Q' E' => ws' = ws.map some ∧ vs' = vs ∧ H' = untrack cl H ∧ Q' = Q0 ∧ E' = E) := by
    refine nok_of S (hb cl c') (fun _ _ _ _ _ h => by obtain ⟨_, rfl, _⟩ := h; exact len _ _ _ _ _ hsp) fun A1 outer1 s1 H1 vs1 ws1 Q1 E1 hr1 hf hc hl h => ?_
    obtain ⟨rfl, rfl, rfl, rfl, rfl⟩ := h
    refine hbody A1 outer1 s1 f cl c' H _ vs1 ws Q Q0 E1 hr1 hsp C.len (fun b o e n => lo b o e fun v q => ?_) fun v M H2 st2 hq hc2 => ?_
    · subst q; exact n
    · refine hq _ ⟨fun b o e n => ?_, fun b e => ?_⟩ fun b o e => retrack_some e
      · by_cases m : b ∈ cl.map (·.2)
        · rw [retrack_cell (hc2 b m) m]; exact e
        · exact retrack_some (st2.same b o (by rw [untrack_out m]; exact e) n)
      · by_cases m : b ∈ cl.map (·.2)
        · rw [retrack_cell (hc2 b m) m] at e; exact e
        · rw [retrack_out m] at e
          have := st2.dom b e
          rw [untrack_out m] at this
          exact this
  refine codeAny_mono (nok.run A outer s _ us vs _ Q0 E hr env0 nf nc cells r ⟨rfl, rfl, rfl, rfl, rfl⟩) fun rr s' hq => ?_
  cases rr with
  | error e => exact hq
  | ok fl =>
    cases fl with
    | next => exact hq
    | brk => exact hq
    | cont => exact hq
    | ret u =>
      obtain ⟨v, H2, os, bare, un, hok2, rv, q⟩ := hq
      have cellAt : ∀ b, b ∈ cl.map (·.2) → ∃ v u o, H b = some (cellO b v) ∧ L2.RelV v u ∧ s.heap.get? b = some o ∧ o.data = .cell (some u) ∧ untrack cl H b = none := fun b m => by
        obtain ⟨v, hv⟩ := cellN b m
        obtain ⟨u, h1, o, h2, h3⟩ := cellO_at e0.hok hv
        exact ⟨v, u, o, hv, h1, h2, h3, untrack_in m⟩
      have free2 : ∀ b ∈ cl.map (·.2), H2 b = none := fun b m => by
        obtain ⟨v, u, o, h1, h2, h3, h4, h5⟩ := cellAt b m
        exact un.free b o h3 h5 (by simp)
      refine ⟨v, retrack cl H H2, os, bare, ?_, ?_, rv, q free2⟩
      · have un0 : ∀ b, H b = none → untrack cl H b = none := fun b e => by
          unfold untrack
          split
          · rfl
          · exact e
        refine ⟨fun b o e n hb hx => un.keep b o e (un0 b n) hb hx, fun b o e n hb hx => un.slot b o e (un0 b n) hb hx, fun b o e n hx => ?_, un.there, fun b xs e => ?_, fun b o xs e => ?_, fun b xs e => ?_⟩
        · have m : b ∉ cl.map (·.2) := fun m => by
            obtain ⟨v, hv⟩ := cellN b m
            rw [n] at hv; cases hv
          rw [retrack_out m]
          exact un.free b o e (un0 b n) hx
        · exact retrack_some (un.tups b xs (lo b _ e fun v q => by cases q))
        · exact retrack_some (un.frzs b o xs (lo b _ e fun v q => by cases q))
        · obtain ⟨more, h2⟩ := un.tbls b xs (lo b _ e fun v q => by cases q)
          exact ⟨more, retrack_some h2⟩
      · intro b o e
        cases q2 : H2 b with
        | some u2 =>
          rw [retrack_some q2] at e
          cases e
          exact (hok2 b o q2).stay (fun _ _ _ z => z) (fun d z => retrack_some z) fun d xs z => retrack_some z
        | none =>
          by_cases m : b ∈ cl.map (·.2)
          · rw [retrack_cell q2 m] at e
            obtain ⟨v, u, o1, h1, h2, h3, h4, h5⟩ := cellAt b m
            rw [h1] at e
            cases e
            obtain ⟨sl, h6⟩ := un.any h3 h5 (by simp)
            exact cellO_ok h2 ⟨_, h6, h4⟩
          · rw [retrack_out m, q2] at e; cases e

/-- functions that a name may hold, by what they promise -/
structure TelOk (P : Program) (w : World) (K : PySem.W.Frag) (mg : Str → Option Value) (base : Heap) (k : Nat) (at_ : Addr → Hp → Prop) (sp : Addr → Sp) : Prop where
  fn : ∀ (H : Hp) (h : Heap) (f : Addr), HOk P w H h → at_ f H → PySem.W.FnAt f h
  ok : ∀ f vs H Q E, sp f vs H Q E → at_ f H
  run : ∀ (A : Around) (outer : List Env) (s : Shared) (H : Hp) (us : List Value) (vs : List V) (f : Addr) (Q : VK) (E : XK), Room k A → Env0 P w K mg base A outer s H → Vals vs us → sp f vs H Q E →
    codeAny (model P w) A (.call (.ref f) ⟨us, []⟩) (CR CX0 outer P w H s Q E) s
theorem COk.tel {k : Nat} {st : Stmt} {nm qual : Str} {ps fr : List Str} {sp : List V → Sp} (c : COk P w K mg base CX k st nm qual ps fr sp) :
    TelOk P w K mg base k (fun f H => ∃ ws cl c', Clo H f st nm qual fr ws cl c') (fun f vs H Q E => ∃ ws cl c', Clo H f st nm qual fr ws cl c' ∧ sp ws vs H Q E) := by
  refine ⟨fun H h f hok ⟨ws, cl, c', C⟩ => ?_, fun f vs H Q E ⟨ws, cl, c', C, _⟩ => ⟨ws, cl, c', C⟩, fun A outer s H us vs f Q E hr e0 r ⟨ws, cl, c', C, q⟩ => c.run A outer s H us vs f cl c' ws Q E hr e0 C r q⟩
  obtain ⟨od, sl, doc, pm, ctv, ho⟩ := fnO_at hok C.fn
  exact ⟨_, od, _, sl, ho⟩
theorem TelOk.or {k : Nat} {a1 a2 : Addr → Hp → Prop} {s1 s2 : Addr → Sp} (t1 : TelOk P w K mg base k a1 s1) (t2 : TelOk P w K mg base k a2 s2) :
    TelOk P w K mg base k (fun f H => a1 f H ∨ a2 f H) (fun f vs H Q E => s1 f vs H Q E ∨ s2 f vs H Q E) :=
  ⟨fun H h f hok a => a.elim (t1.fn H h f hok) (t2.fn H h f hok), fun f vs H Q E q => q.imp (t1.ok f vs H Q E) (t2.ok f vs H Q E), fun A outer s H us vs f Q E hr e0 r q => q.elim (t1.run A outer s H us vs f Q E hr e0 r) (t2.run A outer s H us vs f Q E hr e0 r)⟩
end
/-- f(..), f a local name -/
def tTel (i : Nat) (at_ : Addr → Hp → Prop) (sp : Addr → Sp) (t : TA) : TE := fun σ H Q => ∃ f, σ[i]? = some (some (.ref f)) ∧ at_ f H ∧ t σ H fun vs H1 => sp f vs H1 Q (fun _ _ _ => False)
section
variable {X : Cx} {k j i : Nat} {at_ : Addr → Hp → Prop} {sp : Addr → Sp} {t : TA} {x : Str} {e : Expr} {es : List Expr} {p pos : Pos}
theorem pe_callTel (c : TelOk X.prog X.w X.K X.mg X.base j at_ sp) (hr : Room k X.A) (hN : X.N[i]? = some x) (hv : Vis X.env.scope x) (ha : PA X (e :: es) t) (hk : j ≤ k := by decide)
    (hd : (x == ("__debug__" : Str)) = false := by decide) (hcd : (x == ("__classdict__" : Str)) = false := by decide)
    (he : starEach (e :: es) X.env = (false, eval e X.env) :: starEach es X.env := by rfl) (hpl : (backTo pos (starEach es X.env)).any (·.1) = false := by rfl) :
    PE X (.Call (.Name x p) (e :: es) [] pos) (tTel i at_ sp t) := by
  refine ⟨fun pins s σ H Q I h => ?_⟩
  obtain ⟨f, hs, hf, ht⟩ := h
  refine wpAny_Call_Name_kw (thn ((pe_var (pos := p) hN hv hd hcd).run pins s σ H (fun v H1 => v = .ref f ∧ H1 = H) I ⟨.ref f, hs, rfl, rfl⟩) fun u s1 ⟨v, H1, I1, r1, q1⟩ => ?_)
  obtain ⟨ev, eH⟩ := q1
  subst ev
  subst eH
  obtain rfl : u = Value.ref f := r1
  refine PySem.W.callWith_F (first := []) (c.fn H1 s1.heap f I1.hok hf) (thn (ha.run pos pins s1 σ H1 _ I1 ht) fun us s2 ⟨vs, H2, I2, r, q⟩ => ⟨c.fn H2 s2.heap f I2.hok (c.ok f vs H2 _ _ q), ?_⟩) he hpl
  show wpAny _ _ (call (.ref f) us) _ _ _
  refine wpAny_call (codeAny_mono (c.run X.A X.stack s2 H2 us vs f Q _ (hr.mono hk) I2.env0 r q) fun r s' hq => ?_)
  cases r with
  | error e => exact hq.elim
  | ok fl =>
    cases fl with
    | ret u => exact I2.after hq
    | next => exact False.elim hq
    | brk => exact False.elim hq
    | cont => exact False.elim hq
theorem r_tel {σ : L2.St} {H : Hp} {Q : VK} {f : Addr} (hs : σ[i]? = some (some (.ref f))) (h : at_ f H) (k : t σ H fun vs H1 => sp f vs H1 Q (fun _ _ _ => False)) : tTel i at_ sp t σ H Q := ⟨f, hs, h, k⟩
end
end SH

set_option Elab.async false
set_option linter.all false
set_option maxRecDepth 100000
set_option maxHeartbeats 4000000
/-! SHE: data, and what == tells of it -/
namespace SH
open PySem PySem.Spec PyProof.Rows L2

/-- Lean values that stand in the heap as data; n: how deep -/
class Enc (α : Type) where
  dec : DecidableEq α
  d : α → PyData
  n : Nat
  lay : ∀ x, (d x).canLay0 = true
  deep : ∀ x, (d x).depth ≤ n
  eqv : ∀ x y, PyData.eqv (d x) (d y) = @decide (x = y) (dec x y)
/-- a tuple of one kind of things -/
structure Tu (α : Type) where
  l : List α
theorem Enc.deepAll {α : Type} [Enc α] : ∀ xs : List α, PyData.depthAll (xs.map Enc.d) ≤ Enc.n α
  | [] => by simp [PyData.depthAll]
  | x :: xs => by
    have h1 := Enc.deep x
    have h2 := Enc.deepAll xs
    simp only [List.map_cons, PyData.depthAll]
    omega
theorem Enc.layAll {α : Type} [Enc α] : ∀ xs : List α, PyData.canLayAll0 (xs.map Enc.d) = true
  | [] => by simp [PyData.canLayAll0]
  | x :: xs => by simp only [List.map_cons, PyData.canLayAll0, Enc.lay x, Enc.layAll xs, Bool.and_self]
theorem Enc.eqvAll {α : Type} [Enc α] : ∀ xs ys : List α, PyData.eqvAll (xs.map Enc.d) (ys.map Enc.d) = @decide (xs = ys) (@instDecidableEqList α Enc.dec xs ys)
  | [], [] => by simp [PyData.eqvAll]
  | x :: xs, [] => by simp [PyData.eqvAll]
  | [], y :: ys => by simp [PyData.eqvAll]
  | x :: xs, y :: ys => by
    rw [List.map_cons, List.map_cons, show PyData.eqvAll (Enc.d x :: xs.map Enc.d) (Enc.d y :: ys.map Enc.d) = (PyData.eqv (Enc.d x) (Enc.d y) && PyData.eqvAll (xs.map Enc.d) (ys.map Enc.d)) by simp only [PyData.eqvAll], Enc.eqv, Enc.eqvAll xs ys]
    have : ∀ (A B C : Prop) (a : Decidable A) (b : Decidable B) (c : Decidable C), (C ↔ A ∧ B) → (@decide A a && @decide B b) = @decide C c := by
      intro A B C a b c h
      by_cases ha : A <;> by_cases hb : B <;> simp [ha, hb, h]
    exact this _ _ _ _ _ _ (by simp)
instance : Enc Int := ⟨inferInstance, .int, 0, fun _ => by simp [PyData.canLay0], fun _ => by simp [PyData.depth], fun x y => by by_cases h : x = y <;> simp [PyData.eqv, h]⟩
instance : Enc Bool := ⟨inferInstance, .bool, 0, fun _ => by simp [PyData.canLay0], fun _ => by simp [PyData.depth], fun x y => by by_cases h : x = y <;> simp [PyData.eqv, h]⟩
instance : Enc Nat := ⟨inferInstance, fun n => .int n, 0, fun _ => by simp [PyData.canLay0], fun _ => by simp [PyData.depth], fun x y => by
  rw [show PyData.eqv (.int (x : Int)) (.int (y : Int)) = ((x : Int) == (y : Int)) by simp only [PyData.eqv]]
  by_cases h : x = y
  · subst h; simp
  · rw [decide_eq_false h]
    exact beq_eq_false_iff_ne.mpr (by omega)⟩
instance {α : Type} [e : Enc α] : Enc (List α) := ⟨@instDecidableEqList α e.dec, fun xs => .list (xs.map Enc.d), Enc.n α + 1, fun xs => by simp only [PyData.canLay0]; exact Enc.layAll xs,
  fun xs => by simp only [PyData.depth]; exact Nat.succ_le_succ (Enc.deepAll xs), fun xs ys => by simp only [PyData.eqv]; exact Enc.eqvAll xs ys⟩
instance {α : Type} [e : Enc α] : Enc (Tu α) := ⟨fun a b => @decidable_of_iff _ (a.l = b.l) (by cases a; cases b; simp) (@instDecidableEqList α e.dec a.l b.l), fun xs => .tuple (xs.l.map Enc.d), Enc.n α + 1, fun xs => by simp only [PyData.canLay0]; exact Enc.layAll xs.l,
  fun xs => by simp only [PyData.depth]; exact Nat.succ_le_succ (Enc.deepAll xs.l), fun xs ys => by
    simp only [PyData.eqv]
    rw [Enc.eqvAll xs.l ys.l]
    cases xs; cases ys
    simp⟩
instance {α β : Type} [e : Enc α] [f : Enc β] : Enc (α × β) := ⟨@instDecidableEqProd α β e.dec f.dec, fun x => .tuple [Enc.d x.1, Enc.d x.2], max (Enc.n α) (Enc.n β) + 1,
  fun x => by simp only [PyData.canLay0, PyData.canLayAll0, Enc.lay]; rfl,
  fun x => by
    have h1 := Enc.deep x.1
    have h2 := Enc.deep x.2
    simp only [PyData.depth, PyData.depthAll]; omega, fun x y => by
    simp only [PyData.eqv, PyData.eqvAll, Enc.eqv, Bool.and_true]
    obtain ⟨a, b⟩ := x
    obtain ⟨c, d⟩ := y
    by_cases ha : a = c <;> by_cases hb : b = d <;> simp [ha, hb]⟩
/-- three in a tuple -/
structure T3 (α β γ : Type) where
  a : α
  b : β
  c : γ
deriving DecidableEq
instance {α β γ : Type} [e : Enc α] [f : Enc β] [g : Enc γ] : Enc (T3 α β γ) := ⟨@instDecidableEqT3 α β γ e.dec f.dec g.dec, fun x => .tuple [Enc.d x.a, Enc.d x.b, Enc.d x.c], max (Enc.n α) (max (Enc.n β) (Enc.n γ)) + 1,
  fun x => by simp only [PyData.canLay0, PyData.canLayAll0, Enc.lay]; rfl,
  fun x => by
    have h1 := Enc.deep x.a
    have h2 := Enc.deep x.b
    have h3 := Enc.deep x.c
    simp only [PyData.depth, PyData.depthAll]; omega, fun x y => by
    simp only [PyData.eqv, PyData.eqvAll, Enc.eqv, Bool.and_true]
    obtain ⟨a, b, c⟩ := x
    obtain ⟨a', b', c'⟩ := y
    by_cases ha : a = a' <;> by_cases hb : b = b' <;> by_cases hc : c = c' <;> simp [ha, hb, hc]⟩

/-- a text of plain signs -/
abbrev SOk := { s : Str // PyData.canLay0 (.str s) = true }
instance : Enc SOk := ⟨inferInstance, fun s => .str s.1, 0, fun s => s.2, fun _ => by simp [PyData.depth], fun x y => by
  rw [show PyData.eqv (.str x.1) (.str y.1) = (x.1 == y.1) by simp only [PyData.eqv]]
  by_cases h : x = y
  · subst h; simp
  · rw [decide_eq_false h]
    exact beq_eq_false_iff_ne.mpr fun z => h (Subtype.ext z)⟩

mutual
theorem dp_stp {K : PySem.W.Frag} {H H' : Hp} (S : Stp [] H H') : ∀ (d : PyData) (v : V), Dp K H v d → Dp K H' v d
  | .none, _, h => by cases h; exact .non
  | .bool _, _, h => by cases h; exact .bl _
  | .int _, _, h => by cases h; exact .int _
  | .str _, _, h => by cases h; exact .str _
  | .list ds, _, h => by
    cases h with
    | lst hs ha => exact .lst (S.sql0 hs) (dp_stpAll S ds _ ha)
  | .tuple ds, _, h => by
    cases h with
    | tup hs ha => exact .tup (S.sqt0 hs) (dp_stpAll S ds _ ha)
  | .dict _, _, h => by cases h
theorem dp_stpAll {K : PySem.W.Frag} {H H' : Hp} (S : Stp [] H H') : ∀ (ds : List PyData) (vs : List V), DpAll K H vs ds → DpAll K H' vs ds
  | [], _, h => by cases h; exact .nil
  | d :: ds, _, h => by
    cases h with
    | cons h1 h2 => exact .cons (dp_stp S d _ h1) (dp_stpAll S ds _ h2)
end

mutual
/-- no list in it -/
def noL : PyData → Bool
  | .none | .bool _ | .int _ | .str _ => true
  | .tuple xs => noLs xs
  | .list _ => false
  | .dict _ => false
def noLs : List PyData → Bool
  | [] => true
  | x :: xs => noL x && noLs xs
end
mutual
theorem dp_stpM {K : PySem.W.Frag} {M : List Addr} {H H' : Hp} (S : Stp M H H') : ∀ (d : PyData) (v : V), noL d = true → Dp K H v d → Dp K H' v d
  | .none, _, _, h => by cases h; exact .non
  | .bool _, _, _, h => by cases h; exact .bl _
  | .int _, _, _, h => by cases h; exact .int _
  | .str _, _, _, h => by cases h; exact .str _
  | .list _, _, n, _ => by simp [noL] at n
  | .tuple ds, _, n, h => by
    cases h with
    | tup hs ha => exact .tup (S.sqtM hs) (dp_stpMs S ds _ (by simpa [noL] using n) ha)
  | .dict _, _, _, h => by cases h
theorem dp_stpMs {K : PySem.W.Frag} {M : List Addr} {H H' : Hp} (S : Stp M H H') : ∀ (ds : List PyData) (vs : List V), noLs ds = true → DpAll K H vs ds → DpAll K H' vs ds
  | [], _, _, h => by cases h; exact .nil
  | d :: ds, _, n, h => by
    have n' : noL d = true ∧ noLs ds = true := by simpa [noLs] using n
    cases h with
    | cons h1 h2 => exact .cons (dp_stpM S d _ n'.1 h1) (dp_stpMs S ds _ n'.2 h2)
end
class Flat (α : Type) [Enc α] : Prop where
  fl : ∀ x : α, noL (Enc.d x) = true
instance : Flat Int := ⟨fun _ => by simp [Enc.d, noL]⟩
instance : Flat Nat := ⟨fun _ => by simp [Enc.d, noL]⟩
instance : Flat Bool := ⟨fun _ => by simp [Enc.d, noL]⟩
instance : Flat SOk := ⟨fun _ => by simp [Enc.d, noL]⟩
instance {α β : Type} [Enc α] [Enc β] [Flat α] [Flat β] : Flat (α × β) := ⟨fun x => by simp only [Enc.d, noL, noLs, Flat.fl]; rfl⟩
instance {α β γ : Type} [Enc α] [Enc β] [Enc γ] [Flat α] [Flat β] [Flat γ] : Flat (T3 α β γ) := ⟨fun x => by simp only [Enc.d, noL, noLs, Flat.fl]; rfl⟩
theorem noLs_map {α : Type} [Enc α] [Flat α] : ∀ xs : List α, noLs (xs.map Enc.d) = true
  | [] => by simp [noLs]
  | x :: xs => by simp only [List.map_cons, noLs, Flat.fl, noLs_map xs, Bool.and_self]
instance {α : Type} [Enc α] [Flat α] : Flat (Tu α) := ⟨fun x => by simp only [Enc.d, noL]; exact noLs_map x.l⟩

/-- v is x, in the heap H -/
def Is {α : Type} [Enc α] (K : PySem.W.Frag) (H : Hp) (v : V) (x : α) : Prop := Dp K H v (Enc.d x)
def IsL {α : Type} [Enc α] (K : PySem.W.Frag) (H : Hp) (vs : List V) (xs : List α) : Prop := DpAll K H vs (xs.map Enc.d)
section
variable {K : PySem.W.Frag} {H H' : Hp} {α β γ : Type} [Enc α] [Enc β] [Enc γ] {p : Addr} {vs : List V} {xs : List α} {v u t : V} {x y : α} {b : β} {c : γ} {Q : VK}
theorem is_int {n : Int} : Is K H (.int n) n := .int n
theorem is_nat {n : Nat} : Is K H (.int n) n := .int n
theorem is_str {s : Str} (h : PyData.canLay0 (.str s) = true) : Is K H (.str s) (⟨s, h⟩ : SOk) := .str s
theorem is_stp (S : Stp [] H H') (h : Is K H v x) : Is K H' v x := dp_stp S _ _ h
theorem isl_stp (S : Stp [] H H') (h : IsL K H vs xs) : IsL K H' vs xs := dp_stpAll S _ _ h
theorem is_stpM [Flat α] {M : List Addr} (S : Stp M H H') (h : Is K H v x) : Is K H' v x := dp_stpM S _ _ (Flat.fl x) h
theorem isl_stpM [Flat α] {M : List Addr} (S : Stp M H H') (h : IsL K H vs xs) : IsL K H' vs xs := dp_stpMs S _ _ (noLs_map xs) h
theorem is_bl {b : Bool} : Is K H (.bl b) b := .bl b
theorem is_lst (h : SqL K H p vs) (k : IsL K H vs xs) : Is K H (.ref p) xs := .lst h k
theorem is_tu (h : SqT K H p vs) (k : IsL K H vs xs) : Is K H (.ref p) (Tu.mk xs) := .tup h k
theorem is_pr (h : SqT K H p [v, u]) (k : Is K H v x) (l : Is K H u b) : Is K H (.ref p) (x, b) := .tup h (.cons k (.cons l .nil))
theorem is_t3 (h : SqT K H p [v, u, t]) (k : Is K H v x) (l : Is K H u b) (m : Is K H t c) : Is K H (.ref p) (T3.mk x b c) := .tup h (.cons k (.cons l (.cons m .nil)))
theorem isl_nil : IsL K H [] ([] : List α) := .nil
theorem isl_cons (h : Is K H v x) (k : IsL K H vs xs) : IsL K H (v :: vs) (x :: xs) := .cons h k
theorem isl_map {f : α → V} (h : ∀ x ∈ xs, Is K H (f x) x) : IsL K H (xs.map f) xs := by
  induction xs with
  | nil => exact .nil
  | cons x xs ih => exact .cons (h x (by simp)) (ih fun y hy => h y (by simp [hy]))
theorem isl_map2 {β : Type} {l : List β} {f : β → V} {g : β → α} (h : ∀ b ∈ l, Is K H (f b) (g b)) : IsL K H (l.map f) (l.map g) := by
  induction l with
  | nil => exact .nil
  | cons x xs ih => exact .cons (h x (by simp)) (ih fun y hy => h y (by simp [hy]))
theorem isl_ints {ns : List Int} : IsL K H (ns.map V.int) ns := isl_map fun _ _ => is_int
theorem isl_nats {ns : List Nat} : IsL K H (ns.map fun n : Nat => V.int n) ns := isl_map fun _ _ => is_nat
theorem isl_bls {ns : List Bool} : IsL K H (ns.map V.bl) ns := isl_map fun _ _ => is_bl
theorem isl_app {vs' : List V} {xs' : List α} (h : IsL K H vs xs) (k : IsL K H vs' xs') : IsL K H (vs ++ vs') (xs ++ xs') := by
  induction vs generalizing xs with
  | nil => cases xs with
    | nil => exact k
    | cons x xs => cases h
  | cons v vs ih => cases xs with
    | nil => cases h
    | cons x xs => cases h with | cons h1 h2 => exact .cons h1 (ih (xs := xs) h2)
theorem isl_len (h : IsL K H vs xs) : vs.length = xs.length := by
  induction vs generalizing xs with
  | nil => cases xs with
    | nil => rfl
    | cons x xs => cases h
  | cons v vs ih => cases xs with
    | nil => cases h
    | cons x xs => cases h with | cons h1 h2 => simp [ih (xs := xs) h2]
theorem isl_at {i : Nat} {v : V} (h : IsL K H vs xs) (e : vs[i]? = some v) : ∃ x, xs[i]? = some x ∧ Is K H v x := by
  induction vs generalizing xs i with
  | nil => cases e
  | cons w vs ih => cases xs with
    | nil => cases h
    | cons x xs => cases h with | cons h1 h2 => cases i with
      | zero => cases e; exact ⟨x, rfl, h1⟩
      | succ i => exact ih (xs := xs) h2 e
theorem isl_get {i : Nat} {x : α} (h : IsL K H vs xs) (e : xs[i]? = some x) : ∃ v, vs[i]? = some v ∧ Is K H v x := by
  induction vs generalizing xs i with
  | nil => cases xs with
    | nil => cases e
    | cons x xs => cases h
  | cons w vs ih => cases xs with
    | nil => cases h
    | cons y xs => cases h with | cons h1 h2 => cases i with
      | zero => cases e; exact ⟨w, rfl, h1⟩
      | succ i => exact ih (xs := xs) h2 e
theorem is_shaped (hn : Enc.n α ≤ 64) : SeqAt.shaped (Enc.d x) = true := by
  unfold SeqAt.shaped
  rw [Enc.lay]
  exact decide_eq_true (Nat.le_trans (Enc.deep x) hn)
theorem v_eqE (h1 : Is K H v x) (h2 : Is K H u y) (k : Q (.bl (@decide (x = y) (Enc.dec x y))) H) (hn : Enc.n α ≤ 64 := by decide) : aEq K v u H Q :=
  v_eqD h1 h2 (is_shaped hn) (is_shaped hn) (by rw [Enc.eqv]; exact k)
theorem v_neE (h1 : Is K H v x) (h2 : Is K H u y) (k : Q (.bl (!@decide (x = y) (Enc.dec x y))) H) (hn : Enc.n α ≤ 64 := by decide) : aNe K v u H Q :=
  v_neD h1 h2 (is_shaped hn) (is_shaped hn) (by rw [Enc.eqv]; exact k)
theorem v_eqL {ns ms : List Int} {q : Addr} (h1 : SqL K H p (ns.map V.int)) (h2 : SqL K H q (ms.map V.int)) (k : Q (.bl (decide (ns = ms))) H) : aEq K (.ref p) (.ref q) H Q :=
  v_eqE (is_lst h1 isl_ints) (is_lst h2 isl_ints) (by rw [show @decide (ns = ms) (Enc.dec ns ms) = decide (ns = ms) by congr]; exact k)
theorem v_neL {ns ms : List Int} {q : Addr} (h1 : SqL K H p (ns.map V.int)) (h2 : SqL K H q (ms.map V.int)) (k : Q (.bl (!decide (ns = ms))) H) : aNe K (.ref p) (.ref q) H Q :=
  v_neE (is_lst h1 isl_ints) (is_lst h2 isl_ints) (by rw [show @decide (ns = ms) (Enc.dec ns ms) = decide (ns = ms) by congr]; exact k)
theorem v_neL0 {ns : List Int} {q : Addr} (h1 : SqL K H p (ns.map V.int)) (h2 : SqL K H q []) (k : Q (.bl (!decide (ns = []))) H) : aNe K (.ref p) (.ref q) H Q := v_neL (ms := []) h1 h2 k
theorem v_ixLast {ys : List V} (h : SqL K H p (ys ++ [v])) (k : Q v H) : aIx K (.ref p) (.int (-1)) H Q := ⟨_, v, .inl h, atI_last ys v, k⟩
theorem v_neN0 {ns : List Nat} {q : Addr} (h1 : SqL K H p (ns.map fun n : Nat => V.int n)) (h2 : SqL K H q []) (k : Q (.bl (!decide (ns = []))) H) : aNe K (.ref p) (.ref q) H Q :=
  v_neE (y := []) (is_lst h1 isl_nats) (is_lst h2 isl_nil) (by rw [show @decide (ns = []) (Enc.dec ns []) = decide (ns = []) by congr]; exact k)
theorem v_ixMod {vs : List V} {c : Int} {m : Nat} (h : SqL K H p vs) (hl : vs.length = m) (hm : 0 < m) (k : ∀ v ∈ vs, Q v H) : aIx K (.ref p) (.int (c % (m : Int))) H Q := by
  have h0 := Int.emod_nonneg c (show (m : Int) ≠ 0 by omega)
  have h1 := Int.emod_lt_of_pos c (show (0 : Int) < m by omega)
  have e : c % (m : Int) = ((c % (m : Int)).toNat : Int) := by omega
  have hlt : (c % (m : Int)).toNat < vs.length := by omega
  exact v_ixLn h e (List.getElem?_eq_getElem hlt) (k _ (List.getElem_mem hlt))
theorem v_ixAny {vs : List V} {i : Int} {n : Nat} (h : SqL K H p vs) (e : i = n) (hn : n < vs.length) (k : ∀ v ∈ vs, Q v H) : aIx K (.ref p) (.int i) H Q := v_ixLn h e (List.getElem?_eq_getElem hn) (k _ (List.getElem_mem hn))
/-- all are ints -/
def Ints (vs : List V) : Prop := ∀ v ∈ vs, ∃ n : Int, v = .int n
theorem ints_nil : Ints [] := fun _ h => by cases h
theorem ints_cons {n : Int} {vs : List V} (h : Ints vs) : Ints (.int n :: vs) := fun v hv => by
  rcases List.mem_cons.mp hv with rfl | hv
  · exact ⟨n, rfl⟩
  · exact h v hv
/-- a place of a list of ints -/
def getE (es : List Int) (i : Nat) : Int := es.getD i 0
theorem getE_at {es : List Int} {i : Nat} (h : i < es.length) : (es.map V.int)[i]? = some (V.int (getE es i)) := by simp [getE, h]
theorem getE_app {es : List Int} {i : Nat} {y : Int} (h : i < es.length) : getE (es ++ [y]) i = getE es i := by simp [getE, List.getElem?_append, h]
theorem getE_last {es : List Int} {i : Nat} {y : Int} (h : es.length = i) : getE (es ++ [y]) i = y := by subst h; simp [getE]
theorem v_ixE {es : List Int} {i : Int} {n : Nat} (h : SqL K H p (es.map V.int)) (e : i = n) (hn : n < es.length) (k : Q (.int (getE es n)) H) : aIx K (.ref p) (.int i) H Q := v_ixLn h e (getE_at hn) k
theorem v_ixTE {es : List Int} {i : Int} {n : Nat} (h : SqT K H p (es.map V.int)) (e : i = n) (hn : n < es.length) (k : Q (.int (getE es n)) H) : aIx K (.ref p) (.int i) H Q := v_ixTn h e (getE_at hn) k
theorem v_ixEl {es : List Int} {n : Nat} (h : SqL K H p (es.map V.int)) (e : es.length = n + 1) (k : Q (.int (getE es n)) H) : aIx K (.ref p) (.int (-1)) H Q := by
  rcases List.eq_nil_or_concat es with z | ⟨ys, y, z⟩
  · subst z; cases e
  · have hz : es = ys ++ [y] := by simpa using z
    subst hz
    rw [List.map_append] at h
    have hl : ys.length = n := by simpa using e
    rw [getE_last hl] at k
    exact v_ixLast h k
theorem v_eqLL {ns ms : List Int} {q : Addr} (h1 : SqL K H p (ns.map V.int)) (h2 : SqL K H q (ms.map V.int)) (e : ns = ms) (k : Q (.bl true) H) : aEq K (.ref p) (.ref q) H Q := v_eqL h1 h2 (by rw [decide_eq_true e]; exact k)
theorem v_lenQ {n : Nat} (h : SqL K H p vs) (e : vs.length = n) (k : Q (.int n) H) : aLen K [.ref p] H Q := ⟨_, .inl h, by rw [e]; exact k⟩
theorem v_lenU {n : Nat} (h : SqT K H p vs) (e : vs.length = n) (k : Q (.int n) H) : aLen K [.ref p] H Q := ⟨_, .inr h, by rw [e]; exact k⟩
/-- tuple(xs) -/
theorem v_tuL (h : SqL K H p vs) (k : ∀ l, H l = none → Q (.ref l) (upd H l (.tup vs))) : ∃ p' ys, [V.ref p] = [.ref p'] ∧ ((SqL K H p' ys ∧ ∀ l, H l = none → Q (.ref l) (upd H l (.tup ys))) ∨ (SqT K H p' ys ∧ Q (.ref p') H)) := ⟨p, vs, rfl, .inl ⟨h, k⟩⟩
/-- xs.pop(i) -/
theorem v_popAt {i : Int} {n : Nat} (h : H p = some (.lst vs)) (e : i = n) (hn : n < 1000000) (hv : vs[n]? = some v) (k : Q v (upd H p (.lst (vs.eraseIdx n)))) : rPopAt (.ref p) [.int i] H Q := by
  refine ⟨p, vs, i, n, v, rfl, rfl, h, by omega, by omega, ?_, hv, k⟩
  subst e
  exact (ixN_seq (ixN_n (List.getElem?_eq_some_iff.mp hv).1)).1
/-- sorted(xs), ints -/
theorem v_sortI {ns : List Int} (h : SqL K H p (ns.map V.int)) (k : ∀ (ns' : List Int) (q : Addr), ns'.Perm ns → ns'.Pairwise (· ≤ ·) → H q = none → Q (.ref q) (upd H q (.lst (ns'.map V.int)))) : rSortedI K [.ref p] H Q := ⟨p, ns, rfl, h, k⟩
/-- list(range(n)) -/
def kLrg1 (Q : VK) : VK := fun x H1 => ∃ n : Int, x = .int n ∧ RgOk 0 n ∧ ∀ q, H1 q = none → Q (.ref q) (upd H1 q (.lst (rgV 0 n)))
theorem r_lrg1 {ta : TE} {σ : L2.St} (h : ta σ H (kLrg1 Q)) : tLstRg (tRg1 ta) σ H Q := h
theorem rgV_nat (n : Nat) : rgV 0 (n : Int) = (List.range n).map fun i : Nat => V.int i := by unfold rgV; simp
theorem v_lrg1 {i : Int} {n : Nat} (e : i = n) (hn : n ≤ 1000000) (k : ∀ q, H q = none → Q (.ref q) (upd H q (.lst ((List.range n).map fun i : Nat => V.int i)))) : kLrg1 Q (.int i) H := by
  refine ⟨i, rfl, RgOk.of_le (by omega) (by omega) (by omega) (by omega), ?_⟩
  rw [e, rgV_nat]
  exact k
def kLrg2 (Q : VK) (x : V) : VK := fun y H2 => ∃ i j : Int, x = .int i ∧ y = .int j ∧ RgOk i j ∧ ∀ q, H2 q = none → Q (.ref q) (upd H2 q (.lst (rgV i j)))
theorem r_lrg2 {ta tb : TE} {σ : L2.St} (h : ta σ H fun x H1 => tb σ H1 (kLrg2 Q x)) : tLstRg (tRg2 ta tb) σ H Q := h
theorem rgV_nats (n m : Nat) : rgV (n : Int) (m : Int) = (List.range' n (m - n)).map fun i : Nat => V.int i := by
  unfold rgV
  rw [show ((m : Int) - (n : Int)).toNat = m - n by omega, List.range'_eq_map_range, List.map_map]
  exact List.map_congr_left fun i _ => by simp
theorem v_lrg2 {i j : Int} {n m : Nat} (e : i = n) (e2 : j = m) (hn : n ≤ 1000000) (hm : m ≤ 1000000) (k : ∀ q, H q = none → Q (.ref q) (upd H q (.lst ((List.range' n (m - n)).map fun i : Nat => V.int i)))) : kLrg2 Q (.int i) (.int j) H := by
  refine ⟨i, j, rfl, rfl, RgOk.of_le (by omega) (by omega) (by omega) (by omega), ?_⟩
  rw [e, e2, rgV_nats]
  exact k
end
section
variable {X : Cx} {a b : Expr} {ta tb : TE} {p p2 pos pos2 : Pos}
theorem pe_listrange (hg : Gl X "list") (hm : X.mg "list" = none) (hg2 : Gl X "range") (hm2 : X.mg "range" = none) (ha : PE X a ta) (hc : X.calm = true := by rfl) (na : starEach [a] X.env = (false, eval a X.env) :: starEach [] X.env := by rfl)
    (na2 : starEach [.Call (.Name "range" p2) [a] [] pos2] X.env = (false, eval (.Call (.Name "range" p2) [a] [] pos2) X.env) :: starEach [] X.env := by rfl) : PE X (.Call (.Name "list" p) [.Call (.Name "range" p2) [a] [] pos2] [] pos) (tLstRg (tRg1 ta)) :=
  pe_listRg hc hg hm (prg_1 hg2 hm2 ha na) na2
theorem pe_listrange2 (hg : Gl X "list") (hm : X.mg "list" = none) (hg2 : Gl X "range") (hm2 : X.mg "range" = none) (ha : PE X a ta) (hb : PE X b tb) (hc : X.calm = true := by rfl) (na : starEach [a, b] X.env = (false, eval a X.env) :: starEach [b] X.env := by rfl)
    (nb : starEach [b] X.env = (false, eval b X.env) :: starEach [] X.env := by rfl) (hp : (backTo pos2 (starEach [b] X.env)).any (·.1) = false := by rfl)
    (na2 : starEach [.Call (.Name "range" p2) [a, b] [] pos2] X.env = (false, eval (.Call (.Name "range" p2) [a, b] [] pos2) X.env) :: starEach [] X.env := by rfl) : PE X (.Call (.Name "list" p) [.Call (.Name "range" p2) [a, b] [] pos2] [] pos) (tLstRg (tRg2 ta tb)) :=
  pe_listRg hc hg hm (prg_2 hg2 hm2 ha hb na nb hp) na2
end
section
variable {C : Addr} {m : Str} {sp : Sp} {dvs vs : List V} {E : XK} {ta : TE} {t : TA} {σ : L2.St} {H : Hp} {Q : VK} {a dx : Addr} {fs : List (Str × V)}
def kMeth (C : Addr) (m : Str) (sp : Sp) (dvs : List V) (E : XK) (t : TA) (σ : L2.St) (Q : VK) : VK := fun x H1 => ∃ a dx fs, x = .ref a ∧ H1 a = some (.ins C dx fs) ∧ fs.lookup m = none ∧ t σ H1 fun vs H2 => sp (x :: (vs ++ dvs)) H2 Q E
theorem r_meth (h : ta σ H (kMeth C m sp dvs E t σ Q)) : tMeth C m sp dvs E ta t σ H Q := h
theorem v_meth (h : H a = some (.ins C dx fs)) (l : fs.lookup m = none) (k : t σ H fun vs H2 => sp (.ref a :: (vs ++ dvs)) H2 Q E) : kMeth C m sp dvs E t σ Q (.ref a) H := ⟨a, dx, fs, rfl, h, l, k⟩
def kMake (C : Addr) (sp : Sp) (dvs : List V) (E : XK) (Q : VK) : List V → Hp → Prop := fun vs H1 => ∀ x dx, H1 x = none → H1 dx = none → dx ≠ x → sp (.ref x :: (vs ++ dvs)) (upd (upd H1 dx (.own x)) x (.ins C dx [])) (fun v H2 => v = .non ∧ Q (.ref x) H2) E
theorem r_make (h : t σ H (kMake C sp dvs E Q)) : tMake C sp dvs E t σ H Q := h
theorem v_make (k : ∀ x dx, H x = none → H dx = none → dx ≠ x → sp (.ref x :: (vs ++ dvs)) (upd (upd H dx (.own x)) x (.ins C dx [])) (fun v H2 => v = .non ∧ Q (.ref x) H2) E) : kMake C sp dvs E Q vs H := k
theorem isi_bl_int {K : PySem.W.Frag} {b : Bool} (k : Q (.bl true) H) : rIsi K [.bl b, .ty "int"] H Q := ⟨.bl b, .ty "int", .type "bool", .type "int", true, rfl, .ty _, .base (.bl b), by rfl, k⟩
theorem isi_bl_bool {K : PySem.W.Frag} {b : Bool} (k : Q (.bl true) H) : rIsi K [.bl b, .ty "bool"] H Q := ⟨.bl b, .ty "bool", .type "bool", .type "bool", true, rfl, .ty _, .base (.bl b), by rfl, k⟩
theorem isi_L {K : PySem.W.Frag} {xs : List V} (h : H a = some (.lst xs)) (k : Q (.bl true) H) : rIsi K [.ref a, .ty "list"] H Q := ⟨.ref a, .ty "list", .type "list", .type "list", true, rfl, .ty _, .base (.lst h), by rfl, k⟩
theorem isi_T {K : PySem.W.Frag} {xs : List V} (h : H a = some (.tup xs)) (k : Q (.bl true) H) : rIsi K [.ref a, .ty "tuple"] H Q := ⟨.ref a, .ty "tuple", .type "tuple", .type "tuple", true, rfl, .ty _, .base (.tup h), by rfl, k⟩
end
section
variable {f g : Str} {v x : V} {r r' : List (Str × V)} {a1 a2 a3 a4 a5 a6 : Str × V}
theorem pf_nil : putF f v [] = [(f, v)] := rfl
theorem pf_hit : putF f v ((f, x) :: r) = (f, v) :: r := by simp [putF]
theorem pf_miss (h : g ≠ f) (k : putF f v r = r') : putF f v ((g, x) :: r) = (g, x) :: r' := by simp [putF, h, k]
theorem few0 : ([] : List (Str × V)).length < 1000 := by simp
theorem few1 : [a1].length < 1000 := by simp
theorem few2 : [a1, a2].length < 1000 := by simp
theorem few3 : [a1, a2, a3].length < 1000 := by simp
theorem few4 : [a1, a2, a3, a4].length < 1000 := by simp
theorem few5 : [a1, a2, a3, a4, a5].length < 1000 := by simp
theorem few6 : [a1, a2, a3, a4, a5, a6].length < 1000 := by simp
end
theorem mul64 {i j : Int} (h : -18446744073709551616 < i ∧ i < 18446744073709551616) (k : -18446744073709551616 < j ∧ j < 18446744073709551616) : IntMulOk i j :=
  (mulx_ok (a := 64) (b := 64) (by have : (2 : Nat) ^ 64 = 18446744073709551616 := by decide
                                   omega) (by have : (2 : Nat) ^ 64 = 18446744073709551616 := by decide
                                              omega) (by decide)).ok
theorem ne_of_none' {H : Hp} {a p : Addr} {o : HO} (hp : H p = none) (h : H a = some o) : a ≠ p := ne_of_none h hp
theorem r_ty {K : PySem.W.Frag} {H : Hp} {p : Addr} {xs : List V} {B : Prop} (h : H p = some (.lst xs)) (k : B) : tyV K "list" (.ref p) H ∧ B := ⟨ty_list h, k⟩
/-! built-ins by names of their own -/
def rListOf (K : PySem.W.Frag) : List V → Hp → VK → Prop := fun xs H Q => ∃ p ys, xs = [.ref p] ∧ (SqL K H p ys ∨ SqT K H p ys) ∧ ∀ l, H l = none → Q (.ref l) (upd H l (.lst ys))
def rTupOf (K : PySem.W.Frag) : List V → Hp → VK → Prop := fun xs H Q => ∃ p ys, xs = [.ref p] ∧ ((SqL K H p ys ∧ ∀ l, H l = none → Q (.ref l) (upd H l (.tup ys))) ∨ (SqT K H p ys ∧ Q (.ref p) H))
def rMax2 : List V → Hp → VK → Prop := fun xs H Q => ∃ i j, xs = [.int i, .int j] ∧ Q (.int (if j > i then j else i)) H
def rMin2 : List V → Hp → VK → Prop := fun xs H Q => ∃ i j, xs = [.int i, .int j] ∧ Q (.int (if j < i then j else i)) H
def rIns : V → List V → Hp → VK → Prop := fun x vs H Q => ∃ (l : Addr) (xs : List V) (i : Int) (y : V), x = .ref l ∧ vs = [.int i, y] ∧ H l = some (.lst xs) ∧ xs.length < sizeLine ∧ 0 ≤ i ∧ i < 2 ^ 63 ∧ Q .non (upd H l (.lst (xs.take i.toNat ++ [y] ++ xs.drop i.toNat)))
section
variable {X : Cx} {K : PySem.W.Frag} {H : Hp} {Q : VK} {p : Addr} {vs : List V} {v : V} {i j : Int}
theorem cListOf : CallR X (.type "list") (rListOf X.K) := call_list_of
theorem cTupOf : CallR X (.type "tuple") (rTupOf X.K) := call_tuple_of
theorem cMax2 (hc : X.calm = true) : CallR X (.builtin "max") rMax2 := call_max2 hc
theorem cMin2 (hc : X.calm = true) : CallR X (.builtin "min") rMin2 := call_min2 hc
theorem mIns : MtR X "list.insert" rIns := mt_insert
theorem w_listL (h : SqL K H p vs) (k : ∀ l, H l = none → Q (.ref l) (upd H l (.lst vs))) : rListOf K [.ref p] H Q := ⟨p, vs, rfl, .inl h, k⟩
theorem w_listT (h : SqT K H p vs) (k : ∀ l, H l = none → Q (.ref l) (upd H l (.lst vs))) : rListOf K [.ref p] H Q := ⟨p, vs, rfl, .inr h, k⟩
theorem w_tupL (h : SqL K H p vs) (k : ∀ l, H l = none → Q (.ref l) (upd H l (.tup vs))) : rTupOf K [.ref p] H Q := ⟨p, vs, rfl, .inl ⟨h, k⟩⟩
theorem w_tupT (h : SqT K H p vs) (k : Q (.ref p) H) : rTupOf K [.ref p] H Q := ⟨p, vs, rfl, .inr ⟨h, k⟩⟩
theorem w_max (k : Q (.int (if j > i then j else i)) H) : rMax2 [.int i, .int j] H Q := ⟨i, j, rfl, k⟩
theorem w_min (k : Q (.int (if j < i then j else i)) H) : rMin2 [.int i, .int j] H Q := ⟨i, j, rfl, k⟩
theorem w_ins {n : Nat} (h : H p = some (.lst vs)) (e : i = n) (hn : n < 1000000) (hl : vs.length < 1000000) (k : Q .non (upd H p (.lst (vs.take n ++ [v] ++ vs.drop n)))) : rIns (.ref p) [.int i, v] H Q :=
  ⟨p, vs, i, v, rfl, rfl, h, Nat.lt_trans hl (by decide), by omega, by omega, by rw [e]; exact k⟩
theorem w_insI (h : H p = some (.lst vs)) (h0 : 0 ≤ i) (h1 : i < 1000000) (hl : vs.length < 1000000) (k : Q .non (upd H p (.lst (vs.take i.toNat ++ [v] ++ vs.drop i.toNat)))) : rIns (.ref p) [.int i, v] H Q :=
  ⟨p, vs, i, v, rfl, rfl, h, Nat.lt_trans hl (by decide), h0, by omega, k⟩
end
/-! one layer of a heap taken off -/
section
variable {K : PySem.W.Frag} {H : Hp} {a p : Addr} {xs : List V} {o u : HO}
theorem off_old (hp : H p = none) (h : H a = some o) : upd H p u a = some o := upd_old h hp
theorem off_far (n : a ≠ p) (h : H a = some o) : upd H p u a = some o := upd_far n h
theorem sql_off (hp : H p = none) (h : SqL K H a xs) : SqL K (upd H p u) a xs := sql_upd h hp
theorem sql_offar (n : a ≠ p) (h : SqL K H a xs) : SqL K (upd H p u) a xs := sql_far h n
theorem sqt_off (hp : H p = none) (h : SqT K H a xs) : SqT K (upd H p u) a xs := sqt_upd h hp
theorem sqt_offar (n : a ≠ p) (h : SqT K H a xs) : SqT K (upd H p u) a xs := sqt_far h n
end
/-! x is True, for a truth x -/
def aIsB : R2 := fun x y H Q => ∃ b c, x = .bl b ∧ y = .bl c ∧ Q (.bl (decide (b = c))) H
def aNotB : R2 := fun x y H Q => ∃ b c, x = .bl b ∧ y = .bl c ∧ Q (.bl (!decide (b = c))) H
section
variable {X : Cx} {K : PySem.W.Frag} {H : Hp} {Q : VK} {b c : Bool} {x y : V} {d : PyData}
theorem oIsB : OpR X (compareOp .Is) aIsB := by
  intro pins s σ H x y v u Q I rx ry h
  obtain ⟨b, c, rfl, rfl, q⟩ := h
  cases rx
  cases ry
  show wpAny _ _ ((isSame (Value.bool b) (Value.bool c)) >>= fun z => pure (Value.bool z)) _ _ s
  exact wpAny_bind (wpAny_isSame_plain (by rfl) (wpAny_pure (fin_bl I q (by cases b <;> cases c <;> rfl))))
theorem oNotB : OpR X (compareOp .IsNot) aNotB := by
  intro pins s σ H x y v u Q I rx ry h
  obtain ⟨b, c, rfl, rfl, q⟩ := h
  cases rx
  cases ry
  show wpAny _ _ ((isSame (Value.bool b) (Value.bool c)) >>= fun z => pure (Value.bool (!z))) _ _ s
  exact wpAny_bind (wpAny_isSame_plain (by rfl) (wpAny_pure (fin_bl I q (by cases b <;> cases c <;> rfl))))
theorem w_isB (k : Q (.bl (decide (b = c))) H) : aIsB (.bl b) (.bl c) H Q := ⟨b, c, rfl, rfl, k⟩
theorem w_notB (k : Q (.bl (!decide (b = c))) H) : aNotB (.bl b) (.bl c) H Q := ⟨b, c, rfl, rfl, k⟩
mutual
theorem eqv_refl : ∀ d : PyData, d.canLay0 = true → PyData.eqv d d = true
  | .none, _ => by simp [PyData.eqv]
  | .bool _, _ => by simp [PyData.eqv]
  | .int _, _ => by simp [PyData.eqv]
  | .str _, _ => by simp [PyData.eqv]
  | .list ds, h => by simp only [PyData.eqv]; exact eqvAll_refl ds (by simpa [PyData.canLay0] using h)
  | .tuple ds, h => by simp only [PyData.eqv]; exact eqvAll_refl ds (by simpa [PyData.canLay0] using h)
  | .dict _, h => by simp [PyData.canLay0] at h
theorem eqvAll_refl : ∀ ds : List PyData, PyData.canLayAll0 ds = true → PyData.eqvAll ds ds = true
  | [], _ => by simp [PyData.eqvAll]
  | d :: ds, h => by
    have h' : d.canLay0 = true ∧ PyData.canLayAll0 ds = true := by simpa [PyData.canLayAll0] using h
    simp only [PyData.eqvAll, eqv_refl d h'.1, eqvAll_refl ds h'.2, Bool.and_self]
end
/-- the same data -/
theorem v_eqR (h1 : Dp K H x d) (h2 : Dp K H y d) (hs : SeqAt.shaped d = true) (k : Q (.bl true) H) : aEq K x y H Q :=
  v_eqD h1 h2 hs hs (by rw [eqv_refl d (SeqAt.canLay_of_shaped hs)]; exact k)
theorem v_neR (h1 : Dp K H x d) (h2 : Dp K H y d) (hs : SeqAt.shaped d = true) (k : Q (.bl false) H) : aNe K x y H Q :=
  v_neD h1 h2 hs hs (by rw [eqv_refl d (SeqAt.canLay_of_shaped hs)]; exact k)
end
/-- an if whose two ways meet again -/
theorem r_wJ {c : Prop} [Decidable c] {t1 t2 : TS} {D : Ends} {σ : L2.St} {H : Hp} (W : L2.St → Hp → Prop) (hk : ∀ σ' H', W σ' H' → D.nx σ' H')
    (h1 : c → ∀ N : L2.St → Hp → Prop, (∀ σ' H', W σ' H' → N σ' H') → t1 { D with nx := N } σ H) (h2 : ¬ c → ∀ N : L2.St → Hp → Prop, (∀ σ' H', W σ' H' → N σ' H') → t2 { D with nx := N } σ H) :
    if decide c = true then t1 D σ H else t2 D σ H := r_w (fun h => h1 h D.nx hk) fun h => h2 h D.nx hk
theorem r_nwJ {c : Prop} [Decidable c] {t1 t2 : TS} {D : Ends} {σ : L2.St} {H : Hp} (W : L2.St → Hp → Prop) (hk : ∀ σ' H', W σ' H' → D.nx σ' H')
    (h1 : ¬ c → ∀ N : L2.St → Hp → Prop, (∀ σ' H', W σ' H' → N σ' H') → t1 { D with nx := N } σ H) (h2 : c → ∀ N : L2.St → Hp → Prop, (∀ σ' H', W σ' H' → N σ' H') → t2 { D with nx := N } σ H) :
    if (!decide c) = true then t1 D σ H else t2 D σ H := r_nw (fun h => h1 h D.nx hk) fun h => h2 h D.nx hk
/-! a heap without one address -/
def wo (D : Addr) (H : Hp) : Hp := fun b => if b = D then none else H b
theorem wo_at {D b : Addr} {H : Hp} {o : HO} (n : b ≠ D) (h : H b = some o) : wo D H b = some o := by unfold wo; rw [if_neg n]; exact h
theorem wo_upd {D : Addr} {H : Hp} {o : HO} : wo D (upd H D o) = wo D H := by
  funext b
  unfold wo
  by_cases h : b = D
  · rw [if_pos h, if_pos h]
  · rw [if_neg h, if_neg h, upd_ne h]
theorem wo_stp {D : Addr} {H : Hp} : Stp [] (wo D H) H := ⟨fun b o e _ => by
  unfold wo at e
  by_cases h : b = D
  · rw [if_pos h] at e; cases e
  · rw [if_neg h] at e; exact e, fun b e => by
  unfold wo
  by_cases h : b = D
  · rw [if_pos h]
  · rw [if_neg h]; exact e⟩
theorem wo_mono {D : Addr} {H H' : Hp} (S : Stp [] H H') : Stp [] (wo D H) (wo D H') := ⟨fun b o e _ => by
  unfold wo at e ⊢
  by_cases h : b = D
  · rw [if_pos h] at e; cases e
  · rw [if_neg h] at e ⊢; exact S.keep0 e, fun b e => by
  unfold wo at e ⊢
  by_cases h : b = D
  · rw [if_pos h]
  · rw [if_neg h] at e ⊢; exact S.dom b e⟩
/-- data gathered in the list at D -/
theorem dp_gather {K : PySem.W.Frag} {D : Addr} {H1 H2 : Hp} {us : List V} {ds : List PyData} {x : V} {d : PyData} {o : HO} (S : Stp [] H1 H2) (h : DpAll K (wo D H1) us ds) (k : Dp K (wo D H2) x d) : DpAll K (wo D (upd H2 D o)) (us ++ [x]) (ds ++ [d]) := by
  rw [wo_upd]
  have h2 := dp_stpAll (wo_mono S) _ _ h
  clear h
  induction us generalizing ds with
  | nil => cases h2; exact .cons k .nil
  | cons u us ih => cases h2 with | cons h1 h2 => exact .cons h1 (ih h2)
theorem st_new {M : List Addr} {H H1 : Hp} {p : Addr} {o : HO} (h : H1 p = none) (a : Stp M H H1) : Stp M H (upd H1 p o) := a.new h
theorem st_trans {M : List Addr} {H H1 H2 : Hp} (b : Stp [] H1 H2) (a : Stp M H H1) : Stp M H H2 := a.then0 b
theorem st_put {M : List Addr} {H H1 : Hp} {p : Addr} {o : HO} (h : H p = none) (a : Stp M H H1) : Stp M H (upd H1 p o) := a.putN h
theorem st_fr {H H' : Hp} {p : Addr} (h : H' p = none) (S : Stp [] H H') : H p = none := S.dom p h
theorem dpall_len {K : PySem.W.Frag} {H : Hp} : ∀ {us : List V} {ds : List PyData}, DpAll K H us ds → us.length = ds.length
  | [], _, h => by cases h; rfl
  | u :: us, _, h => by cases h with | cons h1 h2 => simp [dpall_len h2]
theorem dpall_get {K : PySem.W.Frag} {H : Hp} {us : List V} {ds : List PyData} {i : Nat} {d : PyData} (h : DpAll K H us ds) (e : ds[i]? = some d) : ∃ v, us[i]? = some v ∧ Dp K H v d := by
  induction us generalizing ds i with
  | nil => cases h; cases e
  | cons u us ih => cases h with | cons h1 h2 => cases i with
    | zero => cases e; exact ⟨u, rfl, h1⟩
    | succ i => exact ih h2 e
theorem dpall_map {K : PySem.W.Frag} {H : Hp} {β : Type} {l : List β} {f : β → V} {g : β → PyData} (h : ∀ b ∈ l, Dp K H (f b) (g b)) : DpAll K H (l.map f) (l.map g) := by
  induction l with
  | nil => exact .nil
  | cons x xs ih => exact .cons (h x (by simp)) (ih fun y hy => h y (by simp [hy]))
theorem shaped_list {ds : List PyData} (h : ∀ d ∈ ds, PyData.canLay0 d = true ∧ PyData.depth d ≤ 1) : SeqAt.shaped (.list ds) = true := by
  have h1 : PyData.canLayAll0 ds = true ∧ PyData.depthAll ds ≤ 1 := by
    induction ds with
    | nil => exact ⟨by simp [PyData.canLayAll0], by simp [PyData.depthAll]⟩
    | cons d ds ih =>
      obtain ⟨a, b⟩ := h d (by simp)
      obtain ⟨c, e⟩ := ih fun x hx => h x (by simp [hx])
      exact ⟨by simp only [PyData.canLayAll0, a, c, Bool.and_self], by simp only [PyData.depthAll]; omega⟩
  unfold SeqAt.shaped
  rw [show PyData.canLay0 (.list ds) = true by simp only [PyData.canLay0]; exact h1.1]
  exact decide_eq_true (by simp only [PyData.depth]; omega)
/-! defs with defaults -/
section
variable {P : Program} {w : World} {K : PySem.W.Frag} {mg : Str → Option Value} {base : Heap}
theorem funD_mk {x qual : Str} {st : Stmt} {f T : Addr} {oc oT : Value} {od an oU : Option Addr} {osl tsl : Array (Option Value)} {kV doc pm cdv ct : Value} {its : List Value} {n : Nat} {dvs : List V}
    (l : K.lookup f = some ⟨oc, od, .func (PySem.W.fnOf x qual (defArgs st) (defBody st) (defScope st) (.ref T) kV doc pm an cdv ct), osl⟩) (t : K.lookup T = some ⟨oT, oU, .seq its.toArray n, tsl⟩) (r : Vals dvs its) (hd : dvs ≠ [])
    (c : PySem.W.codeIn K cdv qual = true) (k : PySem.W.keepIn K (.ref f) = true) : FunD K x qual (defArgs st) (defBody st) (defScope st) dvs [] f (PySem.W.fnOf x qual (defArgs st) (defBody st) (defScope st) (.ref T) kV doc pm an cdv ct) :=
  ⟨⟨oc, od, _, kV, doc, pm, an, cdv, ct, osl, rfl, l, c, .inr ⟨hd, T, _, its, n, rfl, t, rfl, r⟩, .inl rfl⟩, k⟩
theorem funD_ok {x qual : Str} {st : Stmt} {dvs : List V} {f : Addr} {fd : FuncData} {N ps : List Str} {k : Nat} {sp : Sp} (F : FunD K x qual (defArgs st) (defBody st) (defScope st) dvs [] f fd) (S : FnScope N ps (defScope st)) (len : ∀ vs H Q E, sp vs H Q E → vs.length = ps.length)
    (hb : ∀ (cdv : Value) (A : Around) (outer : List Env) (s : Shared) (H : Hp) (vs : List V) (Q : VK) (E : XK), Room k (A.deeper (envOfC qual (defScope st) s.heap.objs.size f cdv)) → sp vs H Q E →
      ∃ t, PSs (cxOf CX0 P w K mg base N qual (defScope st) f cdv A outer s H E).nox (defBody st) t ∧ t { nx := fun _ H' => Q .non H', rt := Q } (start N vs) H) : FnOk P w K mg base CX0 (k + 1) f fd ps sp :=
  F.ok S len fun cdv A outer s H vs Q E hr h => by
    obtain ⟨t, h1, h2⟩ := hb cdv A outer s H vs Q E hr h
    exact ⟨t, h1.nox, h2⟩
end
theorem Stp.putI {M : List Addr} {H H1 : Hp} {p C d : Addr} {fs : List (Str × V)} {o : HO} (a : Stp M H H1) (h : p ∈ M) (h1 : H1 p = some (.ins C d fs)) : Stp M H (upd H1 p o) := a.putM h h1 (fun z => z)
theorem Stp.putL {M : List Addr} {H H1 : Hp} {p : Addr} {xs : List V} {o : HO} (a : Stp M H H1) (h : p ∈ M) (h1 : H1 p = some (.lst xs)) : Stp M H (upd H1 p o) := a.putM h h1 (fun z => z)
theorem v_tup1 {H : Hp} {Q : VK} {x : V} (h : ∀ p, H p = none → Q (.ref p) (upd H p (.tup [x]))) : SH.kTup Q [x] H := v_tup (by simp) h
/-- a statement of a def's body -/
def inDef (s : Stmt) (j : Nat) : Stmt := (defBody s).getD j (.Pass ⟨0, 0, 0, 0⟩)
/-- a table that tells nothing as yet -/
theorem tabN_empty {H : Hp} {P : Addr} {nm : Nat → Nat → Str} (h : H P = some (.tbl #[])) : NdefX.TabN H P nm := ⟨#[], h, by trivial, fun pos cv hc => by cases hc⟩
/-! rules with the frag by its name (in a comprehension the context is not to be seen from outside) -/
section
variable {X : Cx}
theorem opK {op : Value → Value → Sem Value} (r : PySem.W.Frag → R2) (K : PySem.W.Frag) (h : OpR X op (r X.K)) (e : X.K = K := by rfl) : OpR X op (r K) := e ▸ h
theorem ixK (r : PySem.W.Frag → R2) (K : PySem.W.Frag) (h : IxR X (r X.K)) (e : X.K = K := by rfl) : IxR X (r K) := e ▸ h
theorem crK {v : Value} (r : PySem.W.Frag → List V → Hp → VK → Prop) (K : PySem.W.Frag) (h : CallR X v (r X.K)) (e : X.K = K := by rfl) : CallR X v (r K) := e ▸ h
theorem slK (r : PySem.W.Frag → V → Option Int → Option Int → Hp → VK → Prop) (K : PySem.W.Frag) (h : SlR X (r X.K)) (e : X.K = K := by rfl) : SlR X (r K) := e ▸ h
theorem piK {tg e : Expr} (r : PySem.W.Frag → TI) (K : PySem.W.Frag) (h : PI X tg e (r X.K)) (e' : X.K = K := by rfl) : PI X tg e (r K) := e' ▸ h
theorem peK {e : Expr} (r : PySem.W.Frag → TE) (K : PySem.W.Frag) (h : PE X e (r X.K)) (e' : X.K = K := by rfl) : PE X e (r K) := e' ▸ h
end
end SH

set_option Elab.async false
set_option linter.all false
set_option maxRecDepth 100000
set_option maxHeartbeats 4000000
/-! SHF: list(reversed(xs)), a new list -/
namespace SH
open PySem PySem.Spec PyProof.Rows L2
section
variable {prog : Program} {w : World} {A : Around} {E : Value → Shared → Prop} {s : Shared}
theorem ext_lrev {R : Result → Shared → Prop} {it l : Addr} {items : Array Value} (hh : A.handled = none) (hit : s.heap.IsRevIter it l ((items.size : Int) - 1)) (hl : s.heap.IsList l items) (hne : l ≠ it) (hn : items.size ≤ sizeLine)
    (S : Addr) (c0 : Nat) (hS : s.heap.get? S = some { cls := .type "list", data := .seq #[] c0 }) (nSi : S ≠ it) (nSl : S ≠ l)
    (hR : ∀ h' tk acc c', (∀ b o, b ≠ S → b ≠ it → s.heap.get? b = some o → h'.get? b = some o) → h'.get? S = some { cls := .type "list", dict := none, data := .seq acc c', slots := #[] } →
      ItemsOf (fun i v => items[items.size - 1 - i]? = some v) acc items.size → R (.ok (.ret .none)) { s with heap := h', toks := tk }) :
    wpAny (model prog w) A.in1 (Builtin.List.listExtendWith (.ref S) (.ref it) .none)
      (fun z s' => match z with | .done u => R (.ok u) s' | .again c' => c'.quiet = true ∧ codeAny (model prog w) A c' R s') (fun e s' => R (.error e) s') s := by
  have W := (Walks.listRev (prog := prog) (w := w) (A := A.in1) hh it l hne items).toS
  have nf : S ∉ [it, l] := by simp only [List.mem_cons, List.not_mem_nil, or_false, not_or]; exact ⟨nSi, nSl⟩
  have ty : s.TypeIs (.ref it) "list_reverseiterator" := Heap.IsRevIter.typeIs (s := s) hit
  have same : Builtin.List.listSameRef (.ref S) (.ref it) = false := by simp [Builtin.List.listSameRef, nSi]
  unfold Builtin.List.listExtendWith; refine wpAny_bind (wpAny_typeOf ty ?_); rw [if_neg (by rw [same]; decide)]
  refine wpAny_bind (wpAny_pyIter_revIter (s := s) hit ?_); refine wpAny_bind (wpAny_holding ?_); unfold Builtin.List.listLengthHint
  refine wpAny_bind (wpAny_specialOf ty RT.nolen_lri ?_); show wpAny _ A.in1 (specialOf (Value.ref it) (Str.ofString "__length_hint__") >>= _) _ _ _
  refine wpAny_bind (wpAny_specialOf ty RT.hint_lri ?_); generalize hid : ("list_reverseiterator.__length_hint__" : String) = id0
  wp_delta; rw [show splitId id0 = some ("list_reverseiterator", "__length_hint__") from by subst hid; decide +kernel]; subst hid
  refine wpAny_bind (wpAny_isInstance (b := true) ty (by rw [isSubtype_type]; kernel_rfl) ?_); refine wpAny_pure ?_; rw [if_neg (by decide)]
  have z0 : ((items.size : Nat) : Int) - 1 - ((0 : Nat) : Int) = (items.size : Int) - 1 := by omega
  refine wpAny_pure ⟨plainId_quiet F.plain_extend_loop _, codeAny_extend_loopS W hn _ nf _ items.size 0 _ _ _ rfl (Nat.zero_le _) ⟨Nat.zero_le _, by rw [z0]; exact hit, hl⟩ hS (ItemsOf.nil _) fun s' acc c' hm hS' ha => ?_⟩
  rw [Moved.eq_with hm]; refine hR s'.heap s'.toks acc c' (fun b o n1 n2 e => hm.heap b o (fun hmem => ?_) e) hS' ha
  rcases List.mem_cons.mp hmem with e' | hmem
  · exact n1 e'
  · exact n2 (List.mem_singleton.mp hmem)
theorem call_list_rev {it l : Addr} {items : Array Value} {Q : Value → Shared → Prop} (hh : A.handled = none) (hit : s.heap.IsRevIter it l ((items.size : Int) - 1)) (hl : s.heap.IsList l items) (hne : l ≠ it) (hn : items.size ≤ sizeLine)
    (hQ : ∀ h' tk acc c', (∀ b o, b ≠ it → s.heap.get? b = some o → h'.get? b = some o) → h'.get? s.heap.objs.size = some { cls := .type "list", dict := none, data := .seq acc c', slots := #[] } →
      ItemsOf (fun i v => items[items.size - 1 - i]? = some v) acc items.size → Q (.ref s.heap.objs.size) { s with heap := h', toks := tk }) :
    wpAny (model prog w) A (call (.type "list") [.ref it]) Q E s := by
  refine callType_codes (Q₁ := fun ob s1 => ob = .ref s.heap.objs.size ∧ s1 = { s with heap := s.heap.push { cls := .type "list", data := .seq #[] } }) F.called_list (F.typeCall_list_1 _) F.entry_list_init (code_list_new _ ⟨rfl, rfl⟩) fun ob s1 h1 => ?_
  obtain ⟨e1, e2⟩ := h1; subst e1; subst e2
  have hS : (s.heap.push { cls := .type "list", data := .seq #[] }).get? s.heap.objs.size = some { cls := .type "list", data := .seq #[] } := by exact Heap.get?_push_size _ rfl
  obtain ⟨oi, hoi, _⟩ := id hit; obtain ⟨ol, hol, hol'⟩ := id hl
  have nSi : s.heap.objs.size ≠ it := Nat.ne_of_gt (Heap.lt_size hoi); have nSl : s.heap.objs.size ≠ l := Nat.ne_of_gt (Heap.lt_size hol)
  refine ⟨⟨_, hS, rfl⟩, F.args_list_init_2 _ _, ?_⟩
  show wpAny _ _ (do let old ← Builtin.List.listItems (.ref s.heap.objs.size); Builtin.List.listUpdate (.ref s.heap.objs.size) (fun _ => #[]); letGo old.toList.reverse; Builtin.List.listExtendWith (.ref s.heap.objs.size) (.ref it) .none) _ _ _
  refine wpAny_bind ?_; unfold Builtin.List.listItems; refine wpAny_bind (wpAny_seqItems hS rfl (wpAny_pure ?_))
  show wpAny _ _ (updateSeq s.heap.objs.size (fun _ => #[]) >>= fun _ => letGo (#[] : Array Value).toList.reverse >>= fun _ => Builtin.List.listExtendWith (.ref s.heap.objs.size) (.ref it) .none) _ _ _
  refine wpAny_bind (wpAny_updateSeq hS rfl ?_); have hS2 := Heap.get?_update_self (Obj.mapSeq (fun _ => (#[] : Array Value))) hS rfl
  have oth : ∀ b o, b ≠ s.heap.objs.size → s.heap.get? b = some o → ((s.heap.push { cls := .type "list", data := .seq #[] }).update s.heap.objs.size (Obj.mapSeq (fun _ => (#[] : Array Value)))).get? b = some o :=
    fun b o hb e => (Heap.get?_update_other _ _ (Ne.symm hb)).trans (Heap.get?_push_of_some _ e)
  refine wpAny_bind (wpAny_letGo ?_)
  refine ext_lrev (A := A.in1) (R := wants (fun r s2 => r = Value.none ∧ Q (.ref s.heap.objs.size) s2) E) (s := { s with heap := (s.heap.push { cls := .type "list", data := .seq #[] }).update s.heap.objs.size (Obj.mapSeq (fun _ => (#[] : Array Value))) }) hh (hit.at fun o e => oth it o (Ne.symm nSi) e) ?_ hne hn _ _ hS2 nSi nSl fun h' tk acc c' hk hS' ha => ?_
  · exact ⟨ol, oth l ol (Ne.symm nSl) hol, hol'⟩
  · exact ⟨rfl, hQ h' tk acc c' (fun b o n2 e => hk b o (Nat.ne_of_lt (Heap.lt_size e)) n2 (oth b o (Nat.ne_of_lt (Heap.lt_size e)) e)) hS' ha⟩
end
/-- list(reversed(xs)) -/
def kLstRev (K : PySem.W.Frag) (Q : VK) : VK := fun v H1 => ∃ (a : Addr) (xs : List V), v = .ref a ∧ SqL K H1 a xs ∧ ∀ q, H1 q = none → Q (.ref q) (upd H1 q (.lst xs.reverse))
def tLstRev (K : PySem.W.Frag) (te : TE) : TE := fun σ H Q => te σ H (kLstRev K Q)
theorem r_lrev {K : PySem.W.Frag} {te : TE} {σ : L2.St} {H : Hp} {Q : VK} (h : te σ H (kLstRev K Q)) : tLstRev K te σ H Q := h
theorem v_lrev {K : PySem.W.Frag} {H : Hp} {Q : VK} {a : Addr} {xs : List V} (h : SqL K H a xs) (k : ∀ q, H q = none → Q (.ref q) (upd H q (.lst xs.reverse))) : kLstRev K Q (.ref a) H := ⟨a, xs, rfl, h, k⟩
section
variable {X : Cx}
theorem pe_lstRev {e : Expr} {te : TE} {p p2 pos pos2 : Pos} (hg : Gl X "list") (hm : X.mg "list" = none) (hg2 : Gl X "reversed") (hm2 : X.mg "reversed" = none) (he : PE X e te) (hc : X.calm = true := by rfl)
    (hs : starEach [e] X.env = (false, eval e X.env) :: starEach [] X.env := by rfl)
    (hs2 : starEach [.Call (.Name "reversed" p2) [e] [] pos2] X.env = (false, eval (.Call (.Name "reversed" p2) [e] [] pos2) X.env) :: starEach [] X.env := by rfl) :
    PE X (.Call (.Name "list" p) [.Call (.Name "reversed" p2) [e] [] pos2] [] pos) (tLstRev X.K te) := by
  refine ⟨fun pins s σ H Q I h => ?_⟩
  refine Call_ (ld_blt I hg hm boot_list (PyProof.Rows.callWith_type1 (args_cons (Call_ (ld_blt I hg2 hm2 PyProof.Rows.boot_reversed (PyProof.Rows.callWith_type1 (args_cons (thn (he.run pins s σ H _ I h) fun u s1 ⟨v, H1, I1, r1, q1⟩ => args_nil ?_) hs) hs rfl))) hs2) hs2 rfl))
  obtain ⟨a, xs, ev, hq, q⟩ := q1; subst ev; obtain rfl : u = Value.ref a := r1; obtain ⟨its, rv, p', hz⟩ := I1.list hq
  refine call_reversed_list p'.isList (args_nil ?_)
  have I2 : Inv X pins σ H1 { s1 with heap := s1.heap.push (revObj a ((its.toArray.size : Int) - 1)) } := by exact I1.kept (t' := s1.toks) fun b o e => Heap.get?_push_of_some _ e
  obtain ⟨f0, f1, f2, f3, f4, f5⟩ := I1.fpOk (H' := H1) (b := s1.heap.objs.size) (Nat.le_refl _) (I1.hok.fresh (Nat.le_refl _)); have hl := p'.isList; obtain ⟨ol, hol, _⟩ := id hl
  have hne : a ≠ s1.heap.objs.size := by exact Nat.ne_of_lt (Heap.lt_size hol)
  have hn : its.toArray.size ≤ sizeLine := by rw [List.size_toArray, ← rv.length]; exact (by exact hz)
  refine call_list_rev (s := { s1 with heap := s1.heap.push (revObj a ((its.toArray.size : Int) - 1)) }) (I1.ok.hd hc) ⟨_, Heap.get?_push_size _ rfl, rfl, rfl⟩ (hl.push _) hne hn fun h' tk acc c' hk hS' hi => ?_
  have z : s1.heap.objs.size ≤ (s1.heap.push (revObj a ((its.toArray.size : Int) - 1))).objs.size := by simp [Heap.push]
  have k1 : ∀ b o, s1.heap.get? b = some o → h'.get? b = some o := fun b o e => hk b o (Nat.ne_of_lt (Heap.lt_size e)) (by exact Heap.get?_push_of_some _ e)
  refine ⟨.ref _, upd H1 (s1.heap.push (revObj a ((its.toArray.size : Int) - 1))).objs.size (.lst xs.reverse), I1.laid (t' := tk) k1 z (show ObjOk X.prog X.w _ _ _ (.lst xs.reverse) from ⟨by rw [List.length_reverse]; exact hz, acc.toList, c', RT.vals_rev rv hi, ?_⟩), rfl, q _ (I1.hok.fresh z)⟩
  rw [Array.toArray_toList]; exact (by exact hS')
end
theorem cutL_from_len {α : Type} (xs : List α) (i : Nat) (hi : Option Int) : (cutL xs (some (i : Int)) hi).length ≤ xs.length - i := by
  unfold cutL
  rw [HT.sIx_nat, List.length_take, List.length_drop]
  omega
theorem r_ckw2 {r : List V → List V → Hp → VK → Prop} {t tk : TA} {σ : L2.St} {H : Hp} {Q : VK} (h : t σ H fun vs H1 => tk σ H1 fun zs H2 => r vs zs H2 Q) : tCKw r t tk σ H Q := h
end SH

set_option Elab.async false
set_option linter.all false
set_option maxRecDepth 100000
set_option maxHeartbeats 4000000
/-! SHG: max(xs, default=d), ints -/
namespace SH
open PySem PySem.Spec PyProof.Rows L2
def rMaxDef (K : PySem.W.Frag) : List V → List V → Hp → VK → Prop := fun vs zs H Q => ∃ (a : Addr) (ns : List Int) (d : Int), vs = [V.ref a] ∧ zs = [V.int d] ∧ SqL K H a (ns.map V.int) ∧ (ns = [] → Q (.int d) H) ∧ ∀ m, m ∈ ns → (∀ y, y ∈ ns → y ≤ m) → Q (.int m) H
theorem foldl_max : ∀ (r : List Int) (n : Int), r.foldl max n ∈ n :: r ∧ ∀ y ∈ n :: r, y ≤ r.foldl max n
  | [], n => ⟨by simp, by simp⟩
  | k :: r, n => by
    obtain ⟨h1, h2⟩ := foldl_max r (max n k)
    rw [List.foldl_cons]
    constructor
    · rcases List.mem_cons.mp h1 with e | e
      · rw [e]
        by_cases z : n ≤ k
        · rw [Int.max_eq_right z]; simp
        · rw [Int.max_eq_left (by omega)]; simp
      · simp [e]
    · intro y hy
      have hm := h2 (max n k) (by simp)
      rcases List.mem_cons.mp hy with e | hy
      · omega
      · rcases List.mem_cons.mp hy with e | hy
        · omega
        · exact h2 y (by simp [hy])
theorem depth_ints : ∀ ns : List Int, PyData.depthAll (ns.map PyData.int) = 0
  | [] => by simp [PyData.depthAll]
  | n :: r => by simp [PyData.depthAll, PyData.depth, depth_ints r]
theorem dp_ints {K : PySem.W.Frag} {H : Hp} : ∀ ns : List Int, DpAll K H (ns.map V.int) (ns.map PyData.int)
  | [] => .nil
  | n :: r => .cons (.int n) (dp_ints r)
section
variable {X : Cx}
theorem cr_maxDef (hc : X.calm = true) (hu : X.A.units + 64 < cLine) : CallRK X (.builtin "max") [Str.ofString "default"] (rMaxDef X.K) := by
  intro pins s σ H vs zs us ws Q I r rz h
  obtain ⟨a, ns, d, rfl, rfl, hs, h0, h1⟩ := h
  obtain rfl := Vals.ref1 r
  obtain ⟨w1, rfl, e1⟩ := vals1 rz
  obtain ⟨t, rfl⟩ := e1
  obtain ⟨its, rv, hl, hz⟩ := I.list hs
  obtain ⟨as, hr⟩ := Dp.readsAll I (ns.map PyData.int) _ its (dp_ints ns) rv
  have al : PySem.W.AlikeAll (ns.map PyData.int) := ⟨fun x hx y hy => by
    obtain ⟨i, _, rfl⟩ := List.mem_map.mp hx
    obtain ⟨j, _, rfl⟩ := List.mem_map.mp hy
    rfl, fun x hx => by
    obtain ⟨i, _, rfl⟩ := List.mem_map.mp hx
    intro z; cases z⟩
  refine PySem.W.max_list_default (xs := ns.map PyData.int) (I.ok.hd hc) hl.isList (by simpa using hr) al (by rw [depth_ints]; omega) (fun e h' tk hk => ⟨.int d, H, I.kept hk, ⟨t, rfl⟩, h0 (by simpa using e)⟩) fun y ys i v h' tk bs e hv hR hk => ?_
  cases ns with
  | nil => cases e
  | cons n r =>
    rw [List.map_cons] at e
    cases e
    rw [PySem.W.maxD_ints] at hR
    obtain ⟨m1, m2⟩ := foldl_max r n
    generalize r.foldl max n = m at hR m1 m2
    cases hR
    exact ⟨.int m, H, I.kept hk, ⟨_, rfl⟩, h1 m m1 m2⟩
end
theorem r_ckw {r : List V → List V → Hp → VK → Prop} {t tk : TA} {σ : L2.St} {H : Hp} {Q : VK} (h : t σ H fun vs H1 => tk σ H1 fun zs H2 => r vs zs H2 Q) : tCKw r t tk σ H Q := h
end SH

set_option Elab.async false
set_option linter.all false
set_option maxRecDepth 100000
set_option maxHeartbeats 4000000
/-! SHI: xs[i] op= e, dicts with tuples as keys, int(truth) -/
namespace SH
open PySem PySem.Spec PyProof.Rows L2
section
variable {K : PySem.W.Frag} {σ : L2.St} {H : Hp} {Q : VK} {D : Ends} {to ti te td ty tv : TE} {tget : V → V → Hp → VK → Prop} {tip : TIp} {tset : TSet} {P : Hp → Prop} {d b : Addr} {kvs : List (List Key × V)} {ks : List Key} {v x y : V}
/-- a, b = x, y -/
def kPar2 (i j : Nat) (σ : L2.St) (P : L2.St → Hp → Prop) : List V → Hp → Prop := fun vs H1 => ∃ v w, vs = [v, w] ∧ P ((σ.set i (some v)).set j (some w)) H1
theorem r_par {i j : Nat} {ta : TA} (h : ta σ H (kPar2 i j σ D.nx)) : tPar i j ta D σ H := h
theorem v_par {i j : Nat} {w : V} {σ1 σ2 : L2.St} {R : L2.St → Hp → Prop} (e1 : σ.set i (some v) = σ1) (e2 : σ1.set j (some w) = σ2) (h : R σ2 H) : kPar2 i j σ R [v, w] H := ⟨v, w, rfl, by rw [e1, e2]; exact h⟩
def kPar3 (i j l : Nat) (σ : L2.St) (P : L2.St → Hp → Prop) : List V → Hp → Prop := fun vs H1 => ∃ u v w, vs = [u, v, w] ∧ P (((σ.set i (some u)).set j (some v)).set l (some w)) H1
theorem r_par3 {i j l : Nat} {ta : TA} (h : ta σ H (kPar3 i j l σ D.nx)) : tPar3 i j l ta D σ H := h
theorem v_par3 {i j l : Nat} {u w : V} {σ1 σ2 σ3 : L2.St} {R : L2.St → Hp → Prop} (e1 : σ.set i (some u) = σ1) (e2 : σ1.set j (some v) = σ2) (e3 : σ2.set l (some w) = σ3) (h : R σ3 H) : kPar3 i j l σ R [u, v, w] H := ⟨u, v, w, rfl, by rw [e1, e2, e3]; exact h⟩
theorem r_augS (h : to σ H fun o H1 => ti σ H1 fun i H2 => tget o i H2 fun x H3 => te σ H3 fun y H4 => tip x y H4 fun z H5 => tset o i z H5 fun H6 => D.nx σ H6) : tAugS to ti te tget tip tset D σ H := h
theorem r_dnewT (h : ∀ p, H p = none → Q (.ref p) (upd H p (.dT []))) : tDNewT σ H Q := h
theorem r_dnewK (h : ∀ p, H p = none → Q (.ref p) (upd H p (.dK []))) : tDNewK σ H Q := h
def kDPut (x y v : V) (H3 : Hp) (P : Hp → Prop) : Prop := ∃ a H4, x = .ref a ∧ DPut H3 a y v H4 ∧ P H4
theorem r_dput (h : tv σ H fun v H1 => td σ H1 fun x H2 => ty σ H2 fun y H3 => kDPut x y v H3 (D.nx σ)) : sDPut td ty tv D σ H := h
theorem v_dputT (hd : H d = some (.dT kvs)) (hk : H b = some (.tup (ks.map kV))) (hl : kvs.length < 1000000) (k : P (upd H d (.dT (putK kvs ks v)))) : kDPut (.ref d) (.ref b) v H P := ⟨d, _, rfl, DPut.t hd hk (Nat.lt_trans hl (by decide)), k⟩
def kDGet1 (ty : TE) (σ : L2.St) (Q : VK) : VK := fun x H1 => ∃ a, x = .ref a ∧ IsD H1 a ∧ ty σ H1 fun y H2 => ∃ o, DGet H2 a y o ∧ Q (o.getD .non) H2
theorem r_dget1 (h : td σ H (kDGet1 ty σ Q)) : tDGet1 td ty σ H Q := h
theorem v_dget1 (hd : H d = some (.dT kvs)) (h : ty σ H fun y H2 => ∃ o, DGet H2 d y o ∧ Q (o.getD .non) H2) : kDGet1 ty σ Q (.ref d) H := ⟨d, rfl, .inr ⟨kvs, .inl hd⟩, h⟩
theorem v_dgetT {R : Option V → Prop} (hd : H d = some (.dT kvs)) (hk : H b = some (.tup (ks.map kV))) (q : R (valV kvs ks)) : ∃ o, DGet H d (.ref b) o ∧ R o := ⟨_, DGet.t hd hk, q⟩
def kDGet (x y : V) (H2 : Hp) (Q : VK) : Prop := ∃ a v, x = .ref a ∧ DGet H2 a y (some v) ∧ Q v H2
theorem r_dgetI (h : td σ H fun x H1 => ty σ H1 fun y H2 => kDGet x y H2 Q) : tDGet td ty σ H Q := h
theorem v_dgetI (hd : H d = some (.dT kvs)) (hk : H b = some (.tup (ks.map kV))) (e : valV kvs ks = some v) (q : Q v H) : kDGet (.ref d) (.ref b) H Q := ⟨d, v, rfl, by rw [← e]; exact DGet.t hd hk, q⟩
def kDIn (y x : V) (H2 : Hp) (Q : VK) : Prop := ∃ a o, x = .ref a ∧ DGet H2 a y o ∧ Q (.bl o.isSome) H2
def kDNi (y x : V) (H2 : Hp) (Q : VK) : Prop := ∃ a o, x = .ref a ∧ DGet H2 a y o ∧ Q (.bl (!o.isSome)) H2
theorem r_din (h : ty σ H fun y H1 => td σ H1 fun x H2 => kDIn y x H2 Q) : tDIn ty td σ H Q := h
theorem r_dnotin (h : ty σ H fun y H1 => td σ H1 fun x H2 => kDNi y x H2 Q) : tDNotIn ty td σ H Q := h
theorem v_din (hd : H d = some (.dT kvs)) (hk : H b = some (.tup (ks.map kV))) (q : Q (.bl (valV kvs ks).isSome) H) : kDIn (.ref b) (.ref d) H Q := ⟨d, _, rfl, DGet.t hd hk, q⟩
theorem v_dnotin (hd : H d = some (.dT kvs)) (hk : H b = some (.tup (ks.map kV))) (q : Q (.bl (!(valV kvs ks).isSome)) H) : kDNi (.ref b) (.ref d) H Q := ⟨d, _, rfl, DGet.t hd hk, q⟩
end
/-- int(truth) or int(int) -/
def rInt1 : List V → Hp → VK → Prop := fun xs H Q => (∃ i, xs = [.int i] ∧ Q (.int i) H) ∨ ∃ k, xs = [.bl k] ∧ Q (.int (if k then 1 else 0)) H
section
variable {X : Cx} {H : Hp} {Q : VK} {i : Int} {b : Bool}
theorem cInt1 : CallR X (.type "int") rInt1 := call_int1
theorem w_intI (k : Q (.int i) H) : rInt1 [.int i] H Q := .inl ⟨i, rfl, k⟩
theorem w_intB (k : Q (.int (b.toNat : Nat)) H) : rInt1 [.bl b] H Q := .inr ⟨b, rfl, by cases b <;> exact k⟩
end
/-! a dict of answers -/
def pk (a b : Nat) : List Key := [.inl (a : Int), .inl (b : Int)]
theorem pk_map {a b : Nat} : (pk a b).map kV = [.int (a : Nat), .int (b : Nat)] := rfl
theorem pk_inj {a b c d : Nat} : pk a b = pk c d ↔ a = c ∧ b = d := by
  unfold pk
  constructor
  · intro h
    injection h with h1 h2
    injection h2 with h2 _
    injection h1 with h1
    injection h2 with h2
    exact ⟨by omega, by omega⟩
  · rintro ⟨rfl, rfl⟩; rfl
/-- what is known behind so many answers -/
def kn (es : List (T3 Nat Nat Bool)) : List (List Key × V) := es.foldl (fun acc e => putK acc (pk e.a e.b) (.bl e.c)) []
theorem kn_app {es : List (T3 Nat Nat Bool)} {e : T3 Nat Nat Bool} : kn (es ++ [e]) = putK (kn es) (pk e.a e.b) (.bl e.c) := by simp [kn]
theorem kn_len (es : List (T3 Nat Nat Bool)) : (kn es).length ≤ es.length := by
  have : ∀ (es : List (T3 Nat Nat Bool)) (acc : List (List Key × V)), (es.foldl (fun acc e => putK acc (pk e.a e.b) (.bl e.c)) acc).length ≤ acc.length + es.length := by
    intro es
    induction es with
    | nil => intro acc; simp
    | cons e es ih => intro acc; have := ih (putK acc (pk e.a e.b) (.bl e.c)); have := length_putK acc (pk e.a e.b) (.bl e.c); simp only [List.foldl_cons, List.length_cons]; omega
  simpa [kn] using this es []
theorem kn_val {es : List (T3 Nat Nat Bool)} {f : Nat → Nat → Bool} (h : ∀ e ∈ es, e.c = f e.a e.b) (a b : Nat) [Decidable (∃ e ∈ es, e.a = a ∧ e.b = b)] : valV (kn es) (pk a b) = if (∃ e ∈ es, e.a = a ∧ e.b = b) then some (.bl (f a b)) else none := by
  have key : ∀ (es : List (T3 Nat Nat Bool)), (∀ e ∈ es, e.c = f e.a e.b) → ((∃ e ∈ es, e.a = a ∧ e.b = b) → valV (kn es) (pk a b) = some (.bl (f a b))) ∧ ((¬ ∃ e ∈ es, e.a = a ∧ e.b = b) → valV (kn es) (pk a b) = none) := by
    intro es h
    obtain ⟨n, hn⟩ : ∃ n, n = es.length := ⟨_, rfl⟩
    induction n generalizing es with
    | zero =>
      have : es = [] := List.length_eq_zero_iff.mp hn.symm
      subst this
      exact ⟨fun ⟨e, he, _⟩ => by simp at he, fun _ => rfl⟩
    | succ n ih =>
      obtain ⟨fs, e, rfl⟩ : ∃ fs e, es = fs ++ [e] := ⟨es.dropLast, es.getLast (by intro z; subst z; simp at hn), (List.dropLast_concat_getLast _).symm⟩
      obtain ⟨i1, i2⟩ := ih fs (fun x hx => h x (by simp [hx])) (by simp at hn; omega)
      rw [kn_app, valV_put]
      have he := h e (by simp)
      by_cases z : pk a b = pk e.a e.b
      · obtain ⟨z1, z2⟩ := pk_inj.mp z
        subst z1; subst z2
        simp only [if_true]
        exact ⟨fun _ => by rw [he], fun n => (n ⟨e, by simp, rfl, rfl⟩).elim⟩
      · rw [if_neg z]
        have z' : ¬ (e.a = a ∧ e.b = b) := fun ⟨p, q⟩ => z (pk_inj.mpr ⟨p.symm, q.symm⟩)
        refine ⟨fun ⟨x, hx, q⟩ => i1 ?_, fun n => i2 fun ⟨x, hx, q⟩ => n ⟨x, by simp [hx], q⟩⟩
        rcases List.mem_append.mp hx with hx | hx
        · exact ⟨x, hx, q⟩
        · rw [List.mem_singleton] at hx; subst hx; exact (z' q).elim
  by_cases c : ∃ e ∈ es, e.a = a ∧ e.b = b
  · rw [if_pos c]; exact (key es h).1 c
  · rw [if_neg c]; exact (key es h).2 c
theorem kn_get {es : List (T3 Nat Nat Bool)} {f : Nat → Nat → Bool} (h : ∀ e ∈ es, e.c = f e.a e.b) {a b : Nat} (hm : ∃ e ∈ es, e.a = a ∧ e.b = b) : valV (kn es) (pk a b) = some (.bl (f a b)) := by
  classical
  rw [kn_val h, if_pos hm]
theorem kn_none {es : List (T3 Nat Nat Bool)} {f : Nat → Nat → Bool} (h : ∀ e ∈ es, e.c = f e.a e.b) {a b : Nat} (hm : ¬ ∃ e ∈ es, e.a = a ∧ e.b = b) : valV (kn es) (pk a b) = none := by
  classical
  rw [kn_val h, if_neg hm]
end SH

set_option Elab.async false
set_option linter.all false
set_option maxRecDepth 100000
set_option maxHeartbeats 4000000
/-! SHJ: (k, p) >= (k', q); t[:2] -/
namespace SH
open PySem PySem.Spec PySem.W PyProof.Rows L2
theorem dataLt_pair {k p k' p' : Int} : dataLt (.tuple [.int k, .int p]) (.tuple [.int k', .int p']) = decide (k < k' ∨ (k = k' ∧ p < p')) := by
  unfold dataLt
  simp only [keyToks, keyToksAll, List.cons_append, List.nil_append]
  rw [lex_self (O := itemOrd)]
  by_cases e : k = k'
  · subst e
    rw [lex_self (O := itemOrd), lex_self (O := itemOrd)]
    by_cases e2 : p = p'
    · subst e2
      rw [lex_self (O := itemOrd), lex_self (O := itemOrd)]
      simp [PyProof.Rows.lexLt]
    · rw [lex_diff (O := itemOrd) (by simpa using e2)]
      show decide (p < p') = _
      exact decide_eq_decide.mpr (by omega)
  · rw [lex_diff (O := itemOrd) (by simpa using e)]
    show decide (k < k') = _
    exact decide_eq_decide.mpr (by omega)
def aGeT (K : PySem.W.Frag) : R2 := fun x y H Q => ∃ a b k p k' p', x = .ref a ∧ y = .ref b ∧ SqT K H a [.int k, .int p] ∧ SqT K H b [.int k', .int p'] ∧ Q (.bl (decide (¬ (k < k' ∨ (k = k' ∧ p < p'))))) H
theorem oGeT {X : Cx} (hu : X.A.units + 64 < cLine) : OpR X (compareOp .GtE) (aGeT X.K) := by
  intro pins s σ H x y v u Q I rx ry h
  obtain ⟨a, b, k, p, k', p', rfl, rfl, h1, h2, q⟩ := h
  obtain ⟨as, r1⟩ := Dp.reads I (.tuple [.int k, .int p]) _ v (.tup h1 (.cons (.int k) (.cons (.int p) .nil))) rx
  obtain ⟨bs, r2⟩ := Dp.reads I (.tuple [.int k', .int p']) _ u (.tup h2 (.cons (.int k') (.cons (.int p') .nil))) ry
  refine ge_data r1 r2 rfl (fun z => by cases z) ?_ ⟨.bl _, H, I, rfl, ?_⟩
  · have : (PyData.tuple [.int k, .int p]).depth ≤ 64 := by show 1 ≤ 64; decide
    omega
  · rw [dataLt_pair]
    have e : (!decide (k < k' ∨ (k = k' ∧ p < p'))) = decide (¬ (k < k' ∨ (k = k' ∧ p < p'))) := decide_not.symm
    rw [e]
    exact q
theorem v_geT {K : PySem.W.Frag} {H : Hp} {Q : VK} {a b : Addr} {k p k' p' : Int} (h1 : SqT K H a [.int k, .int p]) (h2 : SqT K H b [.int k', .int p']) (q : Q (.bl (decide (¬ (k < k' ∨ (k = k' ∧ p < p'))))) H) : aGeT K (.ref a) (.ref b) H Q := ⟨a, b, k, p, k', p', rfl, rfl, h1, h2, q⟩
def aGtT (K : PySem.W.Frag) : R2 := fun x y H Q => ∃ a b k p k' p', x = .ref a ∧ y = .ref b ∧ SqT K H a [.int k, .int p] ∧ SqT K H b [.int k', .int p'] ∧ Q (.bl (decide (k' < k ∨ (k' = k ∧ p' < p)))) H
theorem oGtT {X : Cx} (hu : X.A.units + 64 < cLine) : OpR X (compareOp .Gt) (aGtT X.K) := by
  intro pins s σ H x y v u Q I rx ry h
  obtain ⟨a, b, k, p, k', p', rfl, rfl, h1, h2, q⟩ := h
  obtain ⟨as, r1⟩ := Dp.reads I (.tuple [.int k, .int p]) _ v (.tup h1 (.cons (.int k) (.cons (.int p) .nil))) rx
  obtain ⟨bs, r2⟩ := Dp.reads I (.tuple [.int k', .int p']) _ u (.tup h2 (.cons (.int k') (.cons (.int p') .nil))) ry
  refine gt_data r1 r2 rfl (fun z => by cases z) ?_ ⟨.bl _, H, I, rfl, ?_⟩
  · have : (PyData.tuple [.int k, .int p]).depth ≤ 64 := by show 1 ≤ 64; decide
    omega
  · rw [dataLt_pair]
    exact q
theorem v_gtT {K : PySem.W.Frag} {H : Hp} {Q : VK} {a b : Addr} {k p k' p' : Int} (h1 : SqT K H a [.int k, .int p]) (h2 : SqT K H b [.int k', .int p']) (q : Q (.bl (decide (k' < k ∨ (k' = k ∧ p' < p)))) H) : aGtT K (.ref a) (.ref b) H Q := ⟨a, b, k, p, k', p', rfl, rfl, h1, h2, q⟩
/-- t[:2] of three -/
theorem v_slT2 {K : PySem.W.Frag} {H : Hp} {Q : VK} {a : Addr} {x y z : V} (h : SqT K H a [x, y, z]) (q : ∀ p, H p = none → Q (.ref p) (upd H p (.tup [x, y]))) : rSlT K (.ref a) none (some 2) H Q :=
  ⟨a, _, rfl, h, by rintro ⟨_, h⟩; exact absurd (show (2 : Nat) = 3 from h) (by decide), q⟩
end SH

set_option Elab.async false
set_option linter.all false
set_option maxRecDepth 100000
set_option maxHeartbeats 4000000
/-! SHK: d.update(d2), keys that are tuples; a method whose class is known at the run alone -/
namespace SH
open PySem PySem.Spec PyProof.Rows L2
/-- d.update(d2) -/
def mergK (kvs more : List (List Key × V)) : List (List Key × V) := more.foldl (fun acc p => putK acc p.1 p.2) kvs
theorem mergK_len : ∀ (more kvs : List (List Key × V)), (mergK kvs more).length ≤ kvs.length + more.length
  | [], kvs => by simp [mergK]
  | p :: ps, kvs => by
    have h1 := mergK_len ps (putK kvs p.1 p.2)
    have h2 := length_putK kvs p.1 p.2
    show (mergK (putK kvs p.1 p.2) ps).length ≤ _
    rw [List.length_cons]; omega
theorem mergK_val : ∀ (more kvs : List (List Key × V)) (k : List Key), (∃ p ∈ more, p.1 = k ∧ valV (mergK kvs more) k = some p.2) ∨ ((∀ p ∈ more, p.1 ≠ k) ∧ valV (mergK kvs more) k = valV kvs k)
  | [], kvs, k => .inr ⟨by simp, rfl⟩
  | p :: ps, kvs, k => by
    show (∃ q ∈ p :: ps, q.1 = k ∧ valV (mergK (putK kvs p.1 p.2) ps) k = some q.2) ∨ ((∀ q ∈ p :: ps, q.1 ≠ k) ∧ valV (mergK (putK kvs p.1 p.2) ps) k = valV kvs k)
    rcases mergK_val ps (putK kvs p.1 p.2) k with ⟨q, hq, e1, e2⟩ | ⟨h1, h2⟩
    · exact .inl ⟨q, List.mem_cons_of_mem _ hq, e1, e2⟩
    · rw [valV_put] at h2
      by_cases e : k = p.1
      · rw [if_pos e] at h2
        exact .inl ⟨p, List.mem_cons_self .., e.symm, h2⟩
      · rw [if_neg e] at h2
        refine .inr ⟨fun q hq => ?_, h2⟩
        rcases List.mem_cons.mp hq with rfl | hq
        · exact fun z => e z.symm
        · exact h1 q hq
theorem mem_putK {kvs : List (List Key × V)} {k : List Key} {v : V} {p : List Key × V} (h : p ∈ putK kvs k v) : p = (k, v) ∨ p ∈ kvs := by
  unfold putK at h
  split at h
  · obtain ⟨q, hq, e⟩ := List.mem_map.mp h
    by_cases z : q.1 = k
    · rw [if_pos z] at e
      exact .inl (by rw [← e, z])
    · rw [if_neg z] at e
      exact .inr (by rw [← e]; exact hq)
  · rcases List.mem_append.mp h with h | h
    · exact .inr h
    · exact .inl (List.mem_singleton.mp h)
theorem putK_same {kvs : List (List Key × V)} {k : List Key} {v : V} : (k, v) ∈ putK kvs k v := by
  unfold putK
  split
  · rename_i h
    obtain ⟨q, hq, e⟩ := List.any_eq_true.mp h
    exact List.mem_map.mpr ⟨q, hq, by rw [if_pos (of_decide_eq_true e), of_decide_eq_true e]⟩
  · exact List.mem_append_right _ (List.mem_singleton.mpr rfl)
theorem putK_other {kvs : List (List Key × V)} {k : List Key} {v : V} {p : List Key × V} (h : p ∈ kvs) (n : p.1 ≠ k) : p ∈ putK kvs k v := by
  unfold putK
  split
  · exact List.mem_map.mpr ⟨p, h, by rw [if_neg n]⟩
  · exact List.mem_append_left _ h
theorem KT_all {H : Hp} : ∀ {more : List (List Key × V)} {ps : List (List Key × Addr × Value)} {kvs : List (List Key × V)} {xs : List (List Key × Addr × Value)}, KT H kvs xs → KT H more ps → KT H (mergK kvs more) (storedAllH xs ps)
  | _, _, kvs, xs, h, .nil => h
  | _, _, kvs, xs, h, .cons (a := p) (b := q) (l₁ := more) (l₂ := ps) hq t => by
    obtain ⟨e1, e2, e3⟩ := hq
    show KT H (mergK (putK kvs p.1 p.2) more) (storedAllH (storedH xs q.1 q.2.1 q.2.2) ps)
    exact KT_all (by rw [← e1]; exact h.put p.1 e2 e3) t
def rUpdT : V → List V → Hp → VK → Prop := fun x xs H Q => ∃ (a b : Addr) (kvs more : List (List Key × V)), x = .ref a ∧ xs = [.ref b] ∧ H a = some (.dT kvs) ∧ H b = some (.dT more) ∧ a ≠ b ∧ kvs ≠ [] ∧ kvs.length + more.length ≤ 1000000 ∧ Q .non (upd H a (.dT (mergK kvs more)))
theorem mt_updT {X : Cx} (hu : X.A.units + 1 < cLine) : MtR X "dict.update" rUpdT := by
  intro pins s σ H x xs v us Q I rx rxs h
  obtain ⟨a, b, kvs, more, rfl, rfl, ha, hb, hab, hne, hl, q⟩ := h
  cases rx
  obtain rfl := Vals.ref1 rxs
  obtain ⟨z, hd, xs', rel, dd⟩ := dt_of I.hok ha
  obtain ⟨z2, hd2, ps, rel2, dd2⟩ := dt_of I.hok hb
  have e1 := Paired.length rel
  have e2 := Paired.length rel2
  have hz : xs'.length + ps.length ≤ sizeLine := by rw [← e1, ← e2]; exact Nat.le_trans hl (by decide)
  refine call_update_dictH (knd := tupleKind (mixKind X.prog X.w)) (tupleKind_room_in1 hu) hab hd2 dd dd2 (.inl fun e => hne ?_) hz fun h' dd' _ hs => ?_
  · rw [e] at e1
    exact List.length_eq_zero_iff.mp e1
  · obtain ⟨o, es, ep, hq, h2, h3, h4, _, h5⟩ := dd'
    have hml : (mergK kvs more).length ≤ sizeLine := Nat.le_trans (mergK_len more kvs) (Nat.le_trans hl (by decide))
    have I2 : Inv X pins σ (upd H a (.dT (mergK kvs more))) { s with heap := h' } :=
      d_write (t' := s.toks) I (by rw [ha]; exact True.intro) hs ⟨o, hq⟩ ⟨hml, hd, _, (KT_all rel rel2).keeps (fun c ys ec => (by rw [upd_ne (ne_of ec ha (fun z => nomatch z))]; exact ec)), o, es, ep, hq, h2, h3, h4, h5⟩
    exact ⟨.non, _, I2, rfl, q⟩
theorem w_upd {H : Hp} {Q : VK} {a b : Addr} {kvs more : List (List Key × V)} (ha : H a = some (.dT kvs)) (hb : H b = some (.dT more)) (hab : a ≠ b) (hne : kvs ≠ []) (hl : kvs.length + more.length ≤ 1000000) (q : Q .non (upd H a (.dT (mergK kvs more)))) : rUpdT (.ref a) [.ref b] H Q :=
  ⟨a, b, kvs, more, rfl, rfl, ha, hb, hab, hne, hl, q⟩
theorem ty_dT {K : PySem.W.Frag} {H : Hp} {a : Addr} {kvs : List (List Key × V)} (ha : H a = some (.dT kvs)) : tyV K "dict" (.ref a) H := .inr (.inr (.inl ⟨rfl, .inr ⟨kvs, ha⟩⟩))
/-- either rule will do -/
theorem peOr {X : Cx} {e : Expr} {t u : TE} (h : PE X e t) (k : PE X e u) : PE X e (fun σ H Q => t σ H Q ∨ u σ H Q) := ⟨fun pins s σ H Q I q => q.elim (h.run pins s σ H Q I) (k.run pins s σ H Q I)⟩
/-- either rule will do, by name -/
def tOrE (t u : TE) : TE := fun σ H Q => t σ H Q ∨ u σ H Q
theorem peOrE {X : Cx} {e : Expr} {t u : TE} (h : PE X e t) (k : PE X e u) : PE X e (tOrE t u) := peOr h k
theorem r_orL {t u : TE} {σ : L2.St} {H : Hp} {Q : VK} (h : t σ H Q) : tOrE t u σ H Q := .inl h
theorem r_orR {t u : TE} {σ : L2.St} {H : Hp} {Q : VK} (h : u σ H Q) : tOrE t u σ H Q := .inr h
/-- an if by two tests, whose ways meet again -/
theorem r_waJ {c : Prop} [Decidable c] {te : TT} {t1 t2 : TS} {D : Ends} {σ : L2.St} {H : Hp} (W : L2.St → Hp → Prop) (hk : ∀ σ' H', W σ' H' → D.nx σ' H')
    (h1 : c → ∀ N : L2.St → Hp → Prop, (∀ σ' H', W σ' H' → N σ' H') → te σ H fun b H1 => if b = true then t1 { D with nx := N } σ H1 else t2 { D with nx := N } σ H1) (h2 : ¬ c → ∀ N : L2.St → Hp → Prop, (∀ σ' H', W σ' H' → N σ' H') → t2 { D with nx := N } σ H) :
    if decide c = true then te σ H (fun b H1 => if b = true then t1 D σ H1 else t2 D σ H1) else if false = true then t1 D σ H else t2 D σ H := r_w (fun h => h1 h D.nx hk) fun h => r_F (h2 h D.nx hk)
theorem r_naJ {c : Prop} [Decidable c] {te : TT} {t1 t2 : TS} {D : Ends} {σ : L2.St} {H : Hp} (W : L2.St → Hp → Prop) (hk : ∀ σ' H', W σ' H' → D.nx σ' H')
    (h1 : ¬ c → ∀ N : L2.St → Hp → Prop, (∀ σ' H', W σ' H' → N σ' H') → te σ H fun b H1 => if b = true then t1 { D with nx := N } σ H1 else t2 { D with nx := N } σ H1) (h2 : c → ∀ N : L2.St → Hp → Prop, (∀ σ' H', W σ' H' → N σ' H') → t2 { D with nx := N } σ H) :
    if (!decide c) = true then te σ H (fun b H1 => if b = true then t1 D σ H1 else t2 D σ H1) else if false = true then t1 D σ H else t2 D σ H := r_nw (fun h => h1 h D.nx hk) fun h => r_F (h2 h D.nx hk)
theorem inV_nats {p : Nat} {xs : List Nat} : inV (.int (p : Nat)) (xs.map fun n : Nat => V.int n) = decide (p ∈ xs) := by
  unfold inV
  rw [List.any_map]
  induction xs with
  | nil => simp
  | cons x xs ih =>
    rw [List.any_cons, ih]
    by_cases e : p = x
    · subst e; simp [eqV]
    · have e2 : ¬ ((x : Int) = (p : Int)) := by omega
      simp [eqV, e, e2]
theorem flat_nats {xs : List Nat} : (xs.map fun n : Nat => V.int n).all flatV = true := by
  rw [List.all_map]
  exact List.all_eq_true.mpr fun _ _ => rfl
section
variable {K : PySem.W.Frag} {H : Hp} {Q : VK} {a : Addr} {xs : List Nat} {p : Nat}
theorem v_inN (h : SqL K H a (xs.map fun n : Nat => V.int n)) (k : Q (.bl (decide (p ∈ xs))) H) : rIn K false (.int (p : Nat)) (.ref a) H Q := ⟨a, _, rfl, .inl h, rfl, flat_nats, by rw [inV_nats]; exact k⟩
theorem v_niN (h : SqL K H a (xs.map fun n : Nat => V.int n)) (k : Q (.bl (!decide (p ∈ xs))) H) : rIn K true (.int (p : Nat)) (.ref a) H Q := ⟨a, _, rfl, .inl h, rfl, flat_nats, by rw [inV_nats]; exact k⟩
end
/-! dicts of numbers -/
theorem v_dputK {H : Hp} {P : Hp → Prop} {d : Addr} {kvs : List (Key × V)} {i : Int} {v : V} (hd : H d = some (.dK kvs)) (hl : kvs.length < 1000000) (k : P (upd H d (.dK (putK kvs (.inl i) v)))) : kDPut (.ref d) (.int i) v H P := ⟨d, _, rfl, DPut.k (k := .inl i) hd (Nat.lt_trans hl (by decide)), k⟩
theorem v_dgetK {H : Hp} {Q : VK} {d : Addr} {kvs : List (Key × V)} {i : Int} {v : V} (hd : H d = some (.dK kvs)) (e : valV kvs (.inl i) = some v) (q : Q v H) : kDGet (.ref d) (.int i) H Q := ⟨d, v, rfl, by rw [← e]; exact DGet.k (k := .inl i) hd, q⟩
/-! isinstance of an own class -/
structure IsiC (K : PySem.W.Frag) (C : Addr) : Prop where
  ca : PySem.W.findIn K (.ref C) "__class__" = some (some (.builtin "object.__class__"))
  cn : PySem.W.specialIn K (.builtin "object.__class__") "__get__" = some (some (.builtin "getset_descriptor.__get__"))
  ct : PySem.W.takesIn K (.builtin "object.__class__") = some true
  cm : PySem.W.mroIn K C (.type "object") = some true
theorem isi_ins {K : PySem.W.Frag} {H : Hp} {Q : VK} {a C D dx : Addr} {fs : List (Str × V)} {b : Bool} (ho : H a = some (.ins C dx fs)) (cl : Cls K C) (i : IsiC K C) (kt : PySem.W.kitOne K (.ref C) (.ref D) = some b) (k : Q (.bl b) H) : rIsi K [.ref a, .ref D] H Q :=
  v_isi (.own D) (.base (.ins ho cl i.ca i.cn i.ct i.cm)) kt k
end SH

set_option Elab.async false
set_option linter.all false
set_option maxRecDepth 100000
set_option maxHeartbeats 4000000
/-! SHN: C(e, .., k = v): an instance made with keywords -/
namespace SH
open PySem PySem.Spec PyProof.Rows L2
structure CalCK (P : Program) (w : World) (K : PySem.W.Frag) (mg : Str → Option Value) (base : Heap) (CX : CXT) (k : Nat) (x : Str) (C : Addr) (n : Nat) (ks : List Str) (gV : List V → List V → List V) (sp : Sp) : Prop where
  ex : ∃ (f : Addr) (fd : FuncData) (ps : List Str) (g : List Value → List Value → List Value), mg x = some (.ref C) ∧ L2.Mk K C f ∧ KBn K fd ps (n + 1) ks g gV ∧ FnOk P w K mg base CX k f fd ps sp
section
variable {X : Cx} {CX : CXT} {k j n : Nat} {C : Addr} {sp : Sp} {gV : List V → List V → List V} {ks : List Str} {E : XK} {x : Str} {p pos : Pos} {e : Expr} {es : List Expr} {kws : List Keyword} {t tk : TA}
theorem pe_makeKF (c : CalCK X.prog X.w X.K X.mg X.base CX j x C n ks gV sp) (hr : Room k X.A) (hg : Gl X x) (hx : Passes CX X E) (ha : PA X (e :: es) t) (hkw : PK X kws tk) (hk : j + 1 ≤ k := by decide)
    (hall : (backToKw pos (keywordEach kws X.env)).all (·.1.isSome) = true := by rfl) (hks : (backToKw pos (keywordEach kws X.env)).filterMap (·.1) = ks := by rfl)
    (hdb : (x == ("__debug__" : Str)) = false := by decide) (he : starEach (e :: es) X.env = (false, eval e X.env) :: starEach es X.env := by rfl)
    (hpl : ((backTo pos (starEach (e :: es) X.env)).any (·.1) || (backToKw pos (keywordEach kws X.env)).any (·.1.isNone)) = false := by rfl) :
    PE X (.Call (.Name x p) (e :: es) kws pos) (tMakeN C n ks.length sp gV E t tk) := by
  obtain ⟨f, fd, ps, g, h1, h2, h3, h5⟩ := c.ex
  exact pe_makeN h2 h5 (hr.mono hk) hg h1 h3 hx ha hkw hall hks hdb he hpl
def kMakeN (C : Addr) (n m : Nat) (sp : Sp) (gV : List V → List V → List V) (E : XK) (Q : VK) (vs zs : List V) (H2 : Hp) : Prop := vs.length = n ∧ zs.length = m ∧
  ∀ x dx, H2 x = none → H2 dx = none → dx ≠ x → sp (gV (.ref x :: vs) zs) (upd (upd H2 dx (.own x)) x (.ins C dx [])) (fun v H3 => v = .non ∧ Q (.ref x) H3) E
theorem r_makeN {C : Addr} {n m : Nat} {σ : L2.St} {H : Hp} {Q : VK} (h : t σ H fun vs H1 => tk σ H1 fun zs H2 => kMakeN C n m sp gV E Q vs zs H2) : tMakeN C n m sp gV E t tk σ H Q := h
end
/-! a name of one's own that holds a def of the module -/
section
variable {X : Cx} {k j i : Nat} {f : Addr} {sp : Sp} {x : Str} {p pos : Pos} {e : Expr} {es : List Expr} {t : TA}
theorem pe_callLF (c : Held X.prog X.w X.K X.mg X.base j f sp) (hr : Room k X.A) (hN : X.N[i]? = some x) (hv : Vis X.env.scope x) (ha : PA X (e :: es) t) (hk : j ≤ k := by decide)
    (hdb : (x == ("__debug__" : Str)) = false := by decide) (hcd : (x == ("__classdict__" : Str)) = false := by decide)
    (he : starEach (e :: es) X.env = (false, eval e X.env) :: starEach es X.env := by rfl) (hpl : (backTo pos (starEach es X.env)).any (·.1) = false := by rfl) : PE X (.Call (.Name x p) (e :: es) [] pos) (tCallL i f sp [] (fun _ _ _ => False) t) := by
  obtain ⟨fd, ps, F, h1, h2⟩ := c.ex
  exact pe_callL F (hr.mono hk) hN hv h1 h2 .nil (fun _ _ _ _ _ _ _ z => z.elim) ha hdb hcd he hpl
theorem r_callL {σ : L2.St} {H : Hp} {Q : VK} {E : XK} (hs : σ[i]? = some (some (.ref f))) (k : t σ H fun vs H1 => sp (vs ++ []) H1 Q E) : tCallL i f sp [] E t σ H Q := ⟨hs, k⟩
end
end SH

set_option Elab.async false
set_option linter.all false
set_option maxRecDepth 100000
set_option maxHeartbeats 4000000
/-! SHT: set(xs), xs a list of ints -/
namespace SH
open PySem PySem.Spec PyProof.Rows L2
section
variable {P : Program} {w : World} {A : Around} {E : Value → Shared → Prop} {s : Shared}
abbrev set0O (w : World) : Obj := { cls := .type "set", dict := none, data := .set #[] 0 (.fresh 0 0 (!w.params.followText "set-order")) }
set_option maxHeartbeats 8000000 in
theorem call_set_lst {l : Addr} {items : Array Value} (ns : List Int) {Q : Value → Shared → Prop} (hh : A.handled = none) (hl : s.heap.IsList l items) (hit : IntsAre items.toList ns) (hb : ns.length + 1 < scanBound)
    (k : ∀ (h' : Heap) (tk c : Nat), SetR w h' s.heap.objs.size (fun j => decide (j ∈ ns)) c → c ≤ ns.length → (∀ b o, s.heap.get? b = some o → h'.get? b = some o) → Q (.ref s.heap.objs.size) { s with heap := h', toks := tk }) :
    wpAny (model P w) A (call (.type "set") [.ref l]) Q E s := by
  have hisz : items.size = ns.length := by have q := IntsAre.length hit; rw [Array.length_toList] at q; exact q
  obtain ⟨c, tl, hmro⟩ := F.called_set.mro; have hmade := F.called_set.made; have hsub := F.called_set.sub
  refine wpAny_call (codeAny_of_tree ?_); show wpAny _ _ (callAny (.type "set") _) _ _ _
  refine wpAny_pure ⟨Code.quiet_builtin _ (by decide +kernel), codeAny_builtin F.entry_type_call ?_⟩; rw [Around.under_plain (weight_type_call_type "set" [.ref l] []) rfl]
  have h1 := F.called_set.notType; have h2 := F.called_set.canCreate; have hct := F.typeCall_set_1 (.ref l)
  (repeat (any_goals (first | assumption | wp_step)))
  refine codeAny_mono (code_set_led1 (.ref l) (E := E) (Q₁ := fun obj s1 => obj = .ref s.heap.objs.size ∧ s1 = { s with heap := s.heap.push (set0O w) }) ⟨rfl, rfl⟩) fun r s1 hr => ?_
  match r, hr with
  | .error e, hr => exact hr
  | .ok .next, hr => exact hr.elim
  | .ok .brk, hr => exact hr.elim
  | .ok .cont, hr => exact hr.elim
  | .ok (.ret obj), hr =>
    obtain ⟨e1, e2⟩ := hr; subst e1; subst e2
    have hS : (s.heap.push (set0O w)).get? s.heap.objs.size = some (set0O w) := Heap.get?_push_size _ rfl
    have hT : Shared.TypeIs { s with heap := s.heap.push (set0O w) } (.ref s.heap.objs.size) "set" := ⟨_, hS, rfl⟩
    have hli := F.called_set.init.lookup; have hbi := F.called_set.init.bind (.ref s.heap.objs.size)
    (repeat (any_goals (first | assumption | wp_step)))
    refine codeAny_mono (codeAny_call_builtin (R := wants (fun r s2 => r = .none ∧ ∃ h' tk c, s2 = { s with heap := h', toks := tk } ∧ SetR w h' s.heap.objs.size (fun j => decide (j ∈ ns)) c ∧ c ≤ ns.length ∧ (∀ b o, s.heap.get? b = some o → h'.get? b = some o)) E) F.called_set.init.plain F.entry_set_init (check_set_init_1 hT ?_)) fun r2 s2 hr2 => ?_
    · obtain ⟨⟨ocls, odict, odata, oslots⟩, hol, hcl, nl, hdl⟩ := id hl
      simp only at hcl hdl; subst hcl; subst hdl
      have hol' : (s.heap.push (set0O w)).get? l = some { cls := .type "list", dict := odict, data := .seq items nl, slots := oslots } := Heap.get?_push_of_some _ hol
      have hsls := F.sub_list_set; have hslf := F.sub_list_frozenset
      have hne : (Value.type "list" == Value.type "dict") = false := by decide
      have hl1 : (s.heap.push (set0O w)).IsList l items := ⟨_, hol', rfl, nl, rfl⟩
      unfold Builtin.«set.__init__» noKeywords; unfold Builtin.Frozenset.updateFrom
      generalize hPI : pyIter = PI
      wp_walk; subst hPI
      refine wpAny_pyIter_list hl1 ?_; refine wpAny_bind (wpAny_runValue ?_)
      have hlS : l < s.heap.objs.size := Heap.lt_size hol; have hh3 : A.in1.in1.in1.handled = none := by simp [hh]
      have hz1 : (s.heap.push (set0O w)).objs.size = s.heap.objs.size + 1 := Heap.size_push ..
      have hneI : (s.heap.push (set0O w)).objs.size ≠ l := by rw [hz1]; exact Nat.ne_of_gt (Nat.lt_succ_of_lt hlS)
      have hSf : s.heap.objs.size ∉ [(s.heap.push (set0O w)).objs.size, l] := by rw [hz1]; simp only [List.mem_cons, List.not_mem_nil, or_false, not_or]; exact ⟨Nat.ne_of_lt (Nat.lt_succ_self _), Nat.ne_of_gt hlS⟩
      have hval : ∀ (i : Nat) (v : Value), items[i]? = some v → ∃ k t, ns[i]? = some k ∧ v = .int k t := fun i v hv => by
        have hi : i < ns.length := by have := (Array.getElem?_eq_some_iff.mp hv).1; omega
        obtain ⟨t, e⟩ := PyProof.Rows.IntsAre.int_at hit i v (by rw [Array.getElem?_toList]; exact hv)
        exact ⟨ns[i], t, List.getElem?_eq_getElem hi, by rw [e, List.getD_eq_getElem?_getD, List.getElem?_eq_getElem hi] <;> rfl⟩
      refine set_update_ints ((Walks.list (prog := P) (w := w) hh3 _ l hneI.symm items).toS) s.heap.objs.size hSf ns hisz hb hval (items.size - 0) 0 _ (by omega) (Nat.zero_le _) ⟨⟨_, Heap.get?_push_size _ rfl, rfl, rfl⟩, hl1.push _⟩ ⟨0, Nat.le_refl 0, setR_new_at (Heap.get?_push_of_some _ hS)⟩ ?_
      intro s' c' hm hc' hS'
      obtain ⟨h', g2, d', tk', os'⟩ := s'
      obtain rfl : g2 = s.gens := hm.gens
      obtain rfl : d' = s.drawn := hm.drawn
      obtain rfl : os' = s.os := hm.os
      show wpAny _ _ _ _ _ _; refine wpAny_pure ?_; show wpAny _ _ (ret Value.none) _ _ _
      rw [hisz] at hc'
      refine wpAny_pure ⟨rfl, h', tk', c', rfl, hS', hc', fun b o e => hm.heap b o ?_ (Heap.get?_push_of_some _ (Heap.get?_push_of_some _ e))⟩
      have hb0 : b < s.heap.objs.size := Heap.lt_size e
      rw [hz1]; simp only [List.mem_cons, List.not_mem_nil, or_false, not_or]; exact ⟨Nat.ne_of_lt hb0, Nat.ne_of_lt (Nat.lt_succ_of_lt hb0)⟩
    · match r2, hr2 with
      | .error e, hr2 => exact hr2
      | .ok .next, hr2 => exact hr2.elim
      | .ok .brk, hr2 => exact hr2.elim
      | .ok .cont, hr2 => exact hr2.elim
      | .ok (.ret r), hr2 =>
        obtain ⟨e1, h', tk, c', e2, hS', hc', hk'⟩ := hr2
        subst e1; subst e2
        (repeat (any_goals (first | assumption | wp_step)))
        exact k _ _ _ hS' hc' hk'
end
/-- set(xs) -/
def rSetL (K : PySem.W.Frag) (w : World) : List V → Hp → VK → Prop := fun vs H Q => ∃ (a : Addr) (ns : List Int), vs = [V.ref a] ∧ SqL K H a (ns.map V.int) ∧ ns.length ≤ 1000 ∧
  ∀ (p : Addr) (c : Nat), H p = none → c ≤ ns.length → Q (.ref p) (upd H p (SetO w p (fun j => decide (j ∈ ns)) c))
theorem cr_setL {X : Cx} (hc : X.calm = true) : CallR X (.type "set") (rSetL X.K X.w) := by
  intro pins s σ H vs us Q I r h
  obtain ⟨a, ns, rfl, hq, hl, q⟩ := h
  rw [Vals.ref1 r]
  obtain ⟨its, rv, pt, hz⟩ := I.list hq
  have hi : IntsAre its.toArray.toList ns := ints_of_vals rv
  refine call_set_lst ns (I.ok.hd hc) pt.isList hi (by unfold scanBound; omega) fun h' tk c R1 hcn k => ?_
  exact ⟨.ref _, upd H s.heap.objs.size (SetO X.w s.heap.objs.size (fun j => decide (j ∈ ns)) c), I.laid (t' := tk) k (Nat.le_refl _) (setO_new R1), rfl, q _ c (I.hok.fresh (Nat.le_refl _)) hcn⟩
/-- sorted(set(xs)), xs ints -/
def kSortSet (K : PySem.W.Frag) (w : World) (Q : VK) : VK := fun v H1 => ∃ (a : Addr) (ns : List Int), v = .ref a ∧ SqL K H1 a (ns.map V.int) ∧ ns.length < 64 ∧
  ∀ (ms : List Int) (p q : Addr) (o : HO), ms.Pairwise (· < ·) → (∀ k, k ∈ ms ↔ k ∈ ns) → ms.length ≤ ns.length → H1 p = none → (upd H1 p o) q = none → Q (.ref q) (upd (upd H1 p o) q (.lst (ms.map V.int)))
end SH

set_option Elab.async false
set_option linter.all false
set_option maxRecDepth 100000
set_option maxHeartbeats 4000000
/-! SHX: defs that raise, try, what is caught -/
namespace SH
open PySem PySem.Spec PyProof.Rows L2
section
variable {X : Cx} {CX : CXT} {k j : Nat} {sp : Sp} {dvs : List V} {E : L2.St → XK} {x : Str} {p pos : Pos} {e : Expr} {es : List Expr} {t : TA}
/-- a call in a try: what is raised is wished for at the slots -/
theorem pe_callX (c : Cal X.prog X.w X.K X.mg X.base CX j x dvs sp) (hr : Room k X.A) (hg : Gl X x) (hx : ∀ σ, PassesAt CX X σ (E σ)) (ha : PA X (e :: es) t) (hk : j ≤ k := by decide)
    (hdb : (x == ("__debug__" : Str)) = false := by decide) (he : starEach (e :: es) X.env = (false, eval e X.env) :: starEach es X.env := by rfl) (hpl : (backTo pos (starEach es X.env)).any (·.1) = false := by rfl) :
    PE X (.Call (.Name x p) (e :: es) [] pos) (tCallSD sp dvs E t) := by
  obtain ⟨f, fd, ps, ds, h1, h2, h3, h4, h5⟩ := c.ex
  exact pe_callSD h5 (hr.mono hk) hg h1 h2 h3 h4 hx ha hdb he hpl
theorem r_callX {σ : L2.St} {H : Hp} {Q : VK} (h : t σ H fun vs H1 => sp (vs ++ dvs) H1 Q (E σ)) : tCallSD sp dvs E t σ H Q := h
/-- isinstance of what a suite holds, an error without a dict -/
def rIsX (K : PySem.W.Frag) (cls : Value) (d : Option Addr) (a : Addr) : List V → Hp → VK → Prop := fun xs H Q => ∃ D, cls = .ref D ∧ d = none ∧ ExcC K D ∧ rIsE K D a xs H Q
theorem call_isX {a : Addr} {oe : Obj} {cls : Value} {d : Option Addr} {pn : List (Addr × Obj)} (hz : Zc cls d oe) (hf : ∃ vs, oe.data = .fields vs) : CallR (X.suite a ((a, oe) :: pn)) (.builtin "isinstance") (rIsX X.K cls d a) := by
  intro pins s σ H xs us Q I r h
  obtain ⟨D, rfl, rfl, C, h⟩ := h
  exact call_isE C hz hf pins s σ H xs us Q I r h
theorem v_isX {K : PySem.W.Frag} {D C a : Addr} {H : Hp} {Q : VK} {b : Bool} (hc : ExcC K D) (h : PySem.W.kitOne K (.ref D) (.ref C) = some b) (k : Q (.bl b) H) : rIsX K (.ref D) none a [.ref a, .ref C] H Q :=
  ⟨D, rfl, rfl, hc, .ref C, .ref C, b, rfl, fun _ r => r, h, k⟩
theorem v_isXT {K : PySem.W.Frag} {D a : Addr} {n : String} {H : Hp} {Q : VK} {b : Bool} (hc : ExcC K D) (h : PySem.W.kitOne K (.ref D) (.type n) = some b) (k : Q (.bl b) H) : rIsX K (.ref D) none a [.ref a, .ty n] H Q :=
  ⟨D, rfl, rfl, hc, .ty n, .type n, b, rfl, fun _ r => r, h, k⟩
/-- what an except clause asks: the class is caught -/
theorem r_catch {K : PySem.W.Frag} {c cls : Value} {d : Option Addr} {i : Nat} {ts : Addr → Value → Option Addr → TS} {Wo : WX} {D : Ends} {σ : L2.St} {H : Hp} (h : PySem.W.exmOne K cls c = some true)
    (k : ∀ a, H a = none → ts a cls d { nx := fun σ' H' => D.nx (σ'.set i none) H', rt := D.rt, bk := fun σ' H' => D.bk (σ'.set i none) H', ct := fun σ' H' => D.ct (σ'.set i none) H' } (σ.set i (some (.ref a))) H) : wAs K c i ts Wo D cls d σ H :=
  ⟨true, h, fun _ => k, fun z => by cases z⟩
end
end SH

set_option Elab.async false
set_option linter.all false
set_option maxRecDepth 100000
set_option maxHeartbeats 4000000
/-! SHY: exceptions with fields: made by an own __init__, raised, caught, read; methods and makes that raise in a try -/
namespace SH
open PySem PySem.Spec PyProof.Rows L2
/-- the exception class at C, by its name x, made by an __init__ that keeps sp -/
structure CalE (P : Program) (w : World) (K : PySem.W.Frag) (mg : Str → Option Value) (base : Heap) (k : Nat) (x : Str) (C : Addr) (sp : Sp) : Prop where
  ox : OexC K C
  ex : ∃ (f : Addr) (fd : FuncData) (ps : List Str), mg x = some (.ref C) ∧ PySem.W.findIn K (.ref C) "__init__" = some (some (.ref f)) ∧ PySem.W.typeIn K (.ref f) = some (.type "function") ∧ Binds K fd ps [] ∧ FnOk P w K mg base CX0 k f fd ps sp
section
variable {X : Cx} {CX : CXT} {k j : Nat} {C : Addr} {sp : Sp} {dvs : List V} {E : L2.St → XK} {x m : Str} {p pos apos : Pos} {e o : Expr} {es : List Expr} {ta : TE} {t : TA}
theorem pmk_oexF (c : CalE X.prog X.w X.K X.mg X.base j x C sp) (hr : Room k X.A) (hg : Gl X x) (ha : PA X (e :: es) t) (hk : j + 1 ≤ k := by decide)
    (hdb : (x == ("__debug__" : Str)) = false := by decide) (he : starEach (e :: es) X.env = (false, eval e X.env) :: starEach es X.env := by rfl) (hpl : (backTo pos (starEach es X.env)).any (·.1) = false := by rfl) :
    PMk X (.Call (.Name x p) (e :: es) [] pos) (tMkO C sp [] t) := by
  obtain ⟨f, fd, ps, h1, h2, h3, h4, h5⟩ := c.ex
  exact pmk_oex c.ox h2 h3 h5 (hr.mono hk) h4 .nil pass0 hg h1 ha hdb he hpl
def tMethSD (C : Addr) (m : Str) (sp : Sp) (dvs : List V) (E : L2.St → XK) (ta : TE) (t : TA) : TE := fun σ H Q => ta σ H fun x H1 => ∃ a dx fs, x = .ref a ∧ H1 a = some (.ins C dx fs) ∧ fs.lookup m = none ∧ t σ H1 fun vs H2 => sp (x :: (vs ++ dvs)) H2 Q (E σ)
theorem pe_methX {pl : Sem Bool} (he : PE X o ta) (c : CalM X.prog X.w X.K X.mg X.base CX j C m dvs sp) (hr : Room k X.A) (hx : ∀ σ, PassesAt CX X σ (E σ)) (ha : PA X (e :: es) t) (hk : j ≤ k := by decide)
    (hst : starEach (e :: es) X.env = (false, eval e X.env) :: starEach es X.env := by rfl) (hpl : (backTo pos (starEach es X.env)).any (·.1) = false := by rfl)
    (ht : eval (.Call (.Attribute o m apos) (e :: es) [] pos) X.env = (do
      let ov ← eval o X.env; standAt apos.atName
      let (f, first) ← holding [ov] (getMethod ov m pl); callWith pos f first (backTo pos (starEach (e :: es) X.env)) (backToKw pos (keywordEach [] X.env))) := by rfl) :
    PE X (.Call (.Attribute o m apos) (e :: es) [] pos) (tMethSD C m sp dvs E ta t) := by
  obtain ⟨f, fd, ps, ds, h1, h3, h4, h5⟩ := c.ex
  refine ⟨fun pins s σ H Q I h => PySem.W.methodCall_KW (pl := pl) (thn (he.run pins s σ H _ I h) fun u s1 ⟨x, H1, I1, rx, a, dx, fs, ex, ea, l, q⟩ => ?_) ht⟩
  subst ex; obtain rfl : u = Value.ref a := rx
  refine getmeth_ok I1 ea c.cl h1 l (PySem.W.callWith_K (first := [.ref a]) (h₀ := X.base) I.ok.mod.kin h1.kp (thn (ha.run pos pins s1 σ H1 _ I1 q) fun us s2 ⟨vs, H2, I2, r, q2⟩ => ⟨I2.kIn, ?_⟩) hst hpl)
  exact run_fnSD (us := .ref a :: us) (vs := .ref a :: vs) h5 (hr.mono hk) h3 h4 (hx σ) I2 (.cons rfl r) q2
theorem pe_methX0 {pl : Sem Bool} (he : PE X o ta) (c : CalM X.prog X.w X.K X.mg X.base CX j C m dvs sp) (hr : Room k X.A) (hx : ∀ σ, PassesAt CX X σ (E σ)) (hk : j ≤ k := by decide)
    (ht : eval (.Call (.Attribute o m apos) [] [] pos) X.env = (do
      let ov ← eval o X.env; standAt apos.atName
      let (f, first) ← holding [ov] (getMethod ov m pl); callWith pos f first (backTo pos (starEach [] X.env)) (backToKw pos (keywordEach [] X.env))) := by rfl) :
    PE X (.Call (.Attribute o m apos) [] [] pos) (tMethSD C m sp dvs E ta tNil) := by
  obtain ⟨f, fd, ps, ds, h1, h3, h4, h5⟩ := c.ex
  refine ⟨fun pins s σ H Q I h => PySem.W.methodCall_KW (pl := pl) (thn (he.run pins s σ H _ I h) fun u s1 ⟨x, H1, I1, rx, a, dx, fs, ex, ea, l, q⟩ => ?_) ht⟩
  subst ex; obtain rfl : u = Value.ref a := rx
  exact getmeth_ok I1 ea c.cl h1 l (PySem.W.callWith_K0 (first := [.ref a]) I1.kIn h1.kp (run_fnSD (us := [.ref a]) (vs := [.ref a]) h5 (hr.mono hk) h3 h4 (hx σ) I1 (.cons rfl .nil) q))
def tMakeSD (C : Addr) (sp : Sp) (dvs : List V) (E : L2.St → XK) (t : TA) : TE := fun σ H Q => t σ H fun vs H1 => ∀ x dx, H1 x = none → H1 dx = none → dx ≠ x → sp (.ref x :: (vs ++ dvs)) (upd (upd H1 dx (.own x)) x (.ins C dx [])) (fun v H2 => v = .non ∧ Q (.ref x) H2) (E σ)
theorem run_makeSD {f : Addr} {fd : FuncData} {ps : List Str} {ds : List Value} {pins : List (Addr × Obj)} {σ : L2.St} {H : Hp} {s : Shared} {Q : VK} {us : List Value} {vs : List V} (M : L2.Mk X.K C f) (F : FnOk X.prog X.w X.K X.mg X.base CX k f fd ps sp) (hr : Room (k + 1) X.A) (hb : Binds X.K fd ps ds) (hd : Vals dvs ds)
    (hx : PassesAt CX X σ (E σ)) (I : Inv X pins σ H s) (r : Vals vs us) (h : ∀ x dx, H x = none → H dx = none → dx ≠ x → sp (.ref x :: (vs ++ dvs)) (upd (upd H dx (.own x)) x (.ins C dx [])) (fun v H2 => v = .non ∧ Q (.ref x) H2) (E σ)) :
    wpAny (model X.prog X.w) X.A (call (.ref C) us) (EP X pins σ Q) X.xe s := by
  have hq := h (s.heap.objs.size + 1) s.heap.objs.size (I.hok.fresh (Nat.le_succ _)) (I.hok.fresh (Nat.le_refl _)) (Nat.ne_of_lt (Nat.lt_succ_self _)); have I2 := Inv.made (C := C) I
  have r2 : Vals (V.ref (s.heap.objs.size + 1) :: (vs ++ dvs)) (Value.ref (s.heap.objs.size + 1) :: (us ++ ds)) := .cons rfl (r.append hd); have hl : (Value.ref (s.heap.objs.size + 1) :: us ++ ds).length = ps.length := by have e := r2.length; rw [F.len _ _ _ _ hq] at e; exact e.symm
  refine wpAny_call (make_map (f := f) I.kIn M.makes M.init (beq_iff_eq.mp M.fn) (codeAny_mono (F.run _ X.stack _ _ ⟨Value.ref (s.heap.objs.size + 1) :: us, []⟩ (Value.ref (s.heap.objs.size + 1) :: (us ++ ds)) _ _ (E σ) (hr.make C us []) (I2.env0.make C us []) (hb _ (Value.ref (s.heap.objs.size + 1) :: us) I2.kIn hl) r2 hq) fun r s' hq' => ?_))
  match r, hq' with
  | .error e, hq' => exact hx pins _ _ e s' I2 hq'
  | .ok (.ret u), hq' => obtain ⟨v, H', I3, rv, ev, q3⟩ := I2.after hq'; subst ev; exact ⟨rv, ⟨V.ref (s.heap.objs.size + 1), H', I3, rfl, q3⟩⟩
  | .ok .next, hq' => exact False.elim hq'
  | .ok .brk, hq' => exact False.elim hq'
  | .ok .cont, hq' => exact False.elim hq'
theorem pe_makeX (c : CalC X.prog X.w X.K X.mg X.base CX j x C dvs sp) (hr : Room k X.A) (hg : Gl X x) (hx : ∀ σ, PassesAt CX X σ (E σ)) (ha : PA X (e :: es) t) (hk : j + 1 ≤ k := by decide)
    (hdb : (x == ("__debug__" : Str)) = false := by decide) (he : starEach (e :: es) X.env = (false, eval e X.env) :: starEach es X.env := by rfl) (hpl : (backTo pos (starEach es X.env)).any (·.1) = false := by rfl) :
    PE X (.Call (.Name x p) (e :: es) [] pos) (tMakeSD C sp dvs E t) := by
  obtain ⟨f, fd, ps, ds, h1, h2, h3, h4, h5⟩ := c.ex
  refine ⟨fun pins s σ H Q I h => wpAny_Call_Name_kw (ld_glob I hg h1 (PySem.W.callWith_K (h₀ := X.base) I.ok.mod.kin h2.kp (thn (ha.run pos pins s σ H _ I h) fun us s1 ⟨vs, H1, I1, r, q⟩ => ⟨I1.kIn, ?_⟩) he hpl) hdb)⟩
  exact run_makeSD h2 h5 (hr.mono hk) h3 h4 (hx σ) I1 r q
end
section
variable {K : PySem.W.Frag} {σ : L2.St} {H : Hp} {Q : VK} {C : Addr} {f : Str} {v : V}
/-- what is asked of the own __init__ of a class with one field -/
def sp1 (f : Str) (C : Addr) : Sp := fun vs H Q _ => ∃ (a : Addr) (v : V), vs = [.ref a, v] ∧ H a = some (exo a C none) ∧ ∀ dx, H dx = none → dx ≠ a → Q .non (upd (upd H dx (exd dx [(f, v)])) a (exo a C (some dx)))
def kMkO (C : Addr) (sp : Sp) (dvs : List V) (R : XK) : List V → Hp → Prop := fun vs H1 => vs.length ≤ 1000 ∧ ∀ a, H1 a = none → sp (.ref a :: (vs ++ dvs)) (upd H1 a (exo a C none))
  (fun v H2 => v = .non ∧ ∃ (d : Addr) (fs : List (Str × V)), H2 a = some (exo a C (some d)) ∧ H2 d = some (exd d fs) ∧ H1 d = none ∧ R (.ref C) (some d) (upd (del H2 a) d (.xd fs))) (fun _ _ _ => False)
theorem r_mkO {sp : Sp} {dvs : List V} {t : TA} {R : XK} (h : t σ H (kMkO C sp dvs R)) : tMkO C sp dvs t σ H R := h
theorem v_raise1 {R : XK} (q : ∀ d, H d = none → R (.ref C) (some d) (upd H d (.xd [(f, v)]))) : kMkO C (sp1 f C) [] R [v] H := by
  refine ⟨by simp, fun a ha => ⟨a, v, rfl, upd_same, fun dx hdx hne => ⟨rfl, dx, _, upd_same, by rw [upd_ne hne]; exact upd_same, (upd_free hdx).1, ?_⟩⟩⟩
  have hd := (upd_free hdx).1
  have e : upd (del (upd (upd (upd H a (exo a C none)) dx (exd dx [(f, v)])) a (exo a C (some dx))) a) dx (.xd [(f, v)]) = upd H dx (.xd [(f, v)]) := by
    funext b
    by_cases c1 : b = dx
    · rw [c1, upd_same, upd_same]
    · rw [upd_ne c1, upd_ne c1]
      by_cases c2 : b = a
      · rw [c2, del_same, ha]
      · rw [del_ne c2, upd_ne c2, upd_ne c1, upd_ne c2]
  rw [e]
  exact q dx hd
end
section
variable {σ : L2.St} {H : Hp} {Q : VK} {C a dx : Addr} {m : Str} {sp : Sp} {dvs : List V} {ta : TE} {t : TA} {fs : List (Str × V)} {vs : List V}
def kMethX (C : Addr) (m : Str) (sp : Sp) (dvs : List V) (E : XK) (t : TA) (σ : L2.St) (Q : VK) : VK := fun x H1 => ∃ a dx fs, x = .ref a ∧ H1 a = some (.ins C dx fs) ∧ fs.lookup m = none ∧ t σ H1 fun vs H2 => sp (x :: (vs ++ dvs)) H2 Q E
theorem r_methX {E : L2.St → XK} (h : ta σ H (kMethX C m sp dvs (E σ) t σ Q)) : tMethSD C m sp dvs E ta t σ H Q := h
theorem v_methX {E : XK} (h : H a = some (.ins C dx fs)) (l : fs.lookup m = none) (k : t σ H fun vs H2 => sp (.ref a :: (vs ++ dvs)) H2 Q E) : kMethX C m sp dvs E t σ Q (.ref a) H := ⟨a, dx, fs, rfl, h, l, k⟩
def kMakeX (C : Addr) (sp : Sp) (dvs : List V) (E : XK) (Q : VK) : List V → Hp → Prop := fun vs H1 => ∀ x dx, H1 x = none → H1 dx = none → dx ≠ x → sp (.ref x :: (vs ++ dvs)) (upd (upd H1 dx (.own x)) x (.ins C dx [])) (fun v H2 => v = .non ∧ Q (.ref x) H2) E
theorem r_makeX {E : L2.St → XK} (h : t σ H (kMakeX C sp dvs (E σ) Q)) : tMakeSD C sp dvs E t σ H Q := h
theorem v_makeX {E : XK} (k : ∀ x dx, H x = none → H dx = none → dx ≠ x → sp (.ref x :: (vs ++ dvs)) (upd (upd H dx (.own x)) x (.ins C dx [])) (fun v H2 => v = .non ∧ Q (.ref x) H2) E) : kMakeX C sp dvs E Q vs H := k
end
/-! isinstance of what a suite holds -/
def rIsY (K : PySem.W.Frag) (cls : Value) (d : Option Addr) (a : Addr) : List V → Hp → VK → Prop := fun xs H Q => ∃ D, cls = .ref D ∧ (∀ dd, d = some dd → ∃ fs, H dd = some (.xd fs)) ∧ ExcC K D ∧ rIsE K D a xs H Q
theorem call_isY {X : Cx} {a : Addr} {oe : Obj} {cls : Value} {d : Option Addr} {pn : List (Addr × Obj)} (hz : Zc cls d oe) (hf : ∃ vs, oe.data = .fields vs) : CallR (X.suite a ((a, oe) :: pn)) (.builtin "isinstance") (rIsY X.K cls d a) := by
  intro pins s σ H xs us Q I r h
  obtain ⟨D, rfl, hdd, C, c, cv, b, rfl, hcv, e, q⟩ := h
  cases r with
  | cons rx rr =>
    cases rr with
    | cons rt rr =>
      cases rr; cases rx
      have ec := hcv _ rt; subst ec
      obtain ⟨hget, _⟩ := I.pin (a, oe) (List.mem_append.mpr (.inl List.mem_cons_self)); obtain ⟨vs, hv⟩ := hf
      have hcl : (PySem.W.clsIn X.K D).isSome = true := by
        obtain ⟨cd, hc, _⟩ := PySem.W.any_some C.hd
        rw [hc]; rfl
      have J : ∃ od, PySem.W.InstAt s.heap a oe D od := by
        cases d with
        | none => exact ⟨none, hget, hz.1, by unfold PySem.W.notCls; rw [hv] <;> rfl, by rw [hz.2]; trivial⟩
        | some dd =>
          obtain ⟨fs, hfs⟩ := hdd dd rfl
          obtain ⟨mA, hns, _⟩ := (show ObjOk X.prog X.w H s.heap dd (.xd fs) from I.hok dd _ hfs)
          obtain ⟨od, ho, hl⟩ := lookIn_ns hns
          exact ⟨some od, hget, hz.1, by unfold PySem.W.notCls; rw [hv] <;> rfl, by rw [hz.2]; exact ho⟩
      obtain ⟨od, J⟩ := J
      exact PySem.W.kia_one (PySem.W.kitx_exc (od := od) hcl C.hg C.hk C.hs C.ha C.hn C.ht C.hm) I.kIn J e (fun z => nomatch z) fun tk => ⟨.bl b, H, I.kept (t' := tk) fun _ _ z => z, rfl, q⟩
section
variable {K : PySem.W.Frag} {D C a : Addr} {n : String} {H : Hp} {Q : VK} {b : Bool} {σ : L2.St}
theorem v_isY {d : Option Addr} (hd : ∀ dd, d = some dd → ∃ fs, H dd = some (.xd fs)) (hc : ExcC K D) (h : PySem.W.kitOne K (.ref D) (.ref C) = some b) (k : Q (.bl b) H) : rIsY K (.ref D) d a [.ref a, .ref C] H Q := ⟨D, rfl, hd, hc, .ref C, .ref C, b, rfl, fun _ r => r, h, k⟩
theorem v_isYT {d : Option Addr} (hd : ∀ dd, d = some dd → ∃ fs, H dd = some (.xd fs)) (hc : ExcC K D) (h : PySem.W.kitOne K (.ref D) (.type n) = some b) (k : Q (.bl b) H) : rIsY K (.ref D) d a [.ref a, .ty n] H Q := ⟨D, rfl, hd, hc, .ty n, .type n, b, rfl, fun _ r => r, h, k⟩
theorem xfOf (c : ExcC K D) : XfC K D := ⟨c.hg, c.hk, c.hs, c.hd⟩
theorem nodict : ∀ dd : Addr, (none : Option Addr) = some dd → ∃ fs, H dd = some (.xd fs) := fun _ z => nomatch z
theorem adict {d : Addr} {fs : List (Str × V)} (h : H d = some (.xd fs)) : ∀ dd : Addr, some d = some dd → ∃ fs, H dd = some (.xd fs) := fun _ z => by cases z; exact ⟨fs, h⟩
/-- e.f in a suite -/
def kXf (a : Addr) (cls : Value) (d : Option Addr) (C : Addr) (f : Str) (Q : VK) : VK := fun x H1 => x = .ref a ∧ cls = .ref C ∧ ∃ (dd : Addr) (fs : List (Str × V)) (v : V), d = some dd ∧ H1 dd = some (.xd fs) ∧ fs.lookup f = some v ∧ Q v H1
theorem r_xf {cls : Value} {d : Option Addr} {f : Str} {te : TE} (h : te σ H (kXf a cls d C f Q)) : tXf a cls d C f te σ H Q := h
theorem v_xf {d : Addr} {f : Str} {fs : List (Str × V)} {v : V} (h : H d = some (.xd fs)) (l : fs.lookup f = some v) (k : Q v H) : kXf a (.ref C) (some d) C f Q (.ref a) H := ⟨rfl, rfl, d, fs, v, rfl, h, l, k⟩
/-- self.f = e in an exception's __init__ -/
def kOst (K : PySem.W.Frag) (f : Str) (y : V) (R : Hp → Prop) : VK := fun x H2 => ∃ a C : Addr, x = .ref a ∧ OexC K C ∧ PySem.W.findIn K (.ref C) f = some none ∧
  ((H2 a = some (exo a C none) ∧ ∀ dx, H2 dx = none → dx ≠ a → R (upd (upd H2 dx (exd dx [(f, y)])) a (exo a C (some dx)))) ∨ ∃ (dx : Addr) (fs : List (Str × V)), H2 a = some (exo a C (some dx)) ∧ H2 dx = some (exd dx fs) ∧ fs.length ≤ 900 ∧ R (upd H2 dx (exd dx ((f, y) :: fs))))
theorem r_ost {D : Ends} {f : Str} {to te : TE} (h : te σ H fun y H1 => to σ H1 (kOst K f y (D.nx σ))) : tOst K f to te D σ H := h
end
end SH

set_option Elab.async false
set_option linter.all false
set_option maxRecDepth 100000
set_option maxHeartbeats 4000000
/-! SHZ: the same for exceptions whose context is None (L2N), and defs called within an except suite -/
namespace SH
open PySem PySem.Spec PyProof.Rows L2
section
variable {P : Program} {w : World} {K : PySem.W.Frag} {mg : Str → Option Value} {base : Heap}
theorem okN {x qual : Str} {st : Stmt} {f : Addr} {fd : FuncData} {N ps : List Str} {k : Nat} {sp : Sp} (F : Fun K x qual st f fd) (S : FnScope N ps (defScope st)) (len : ∀ vs H Q E, sp vs H Q E → vs.length = ps.length)
    (hb : ∀ (cdv : Value) (A : Around) (outer : List Env) (s : Shared) (H : Hp) (vs : List V) (Q : VK) (E : XK), Room k (A.deeper (envOfC qual (defScope st) s.heap.objs.size f cdv)) → sp vs H Q E →
      ∃ t, PSs (cxOf (L2N.CX P w) P w K mg base N qual (defScope st) f cdv A outer s H E) (defBody st) t ∧ t { nx := fun _ H' => Q .non H', rt := Q } (start N vs) H) : FnOk P w K mg base (L2N.CX P w) (k + 1) f fd ps sp := by
  obtain ⟨oc, od, kV, doc, pm, an, cdv, ct, osl, rfl, lk, hcd⟩ := F.ex
  exact fn_of lk hcd S len fun A outer s H vs Q E hr h => hb cdv A outer s H vs Q E hr h
theorem okND {x qual : Str} {st : Stmt} {dvs : List V} {f : Addr} {fd : FuncData} {N ps : List Str} {k : Nat} {sp : Sp} (F : FunD K x qual (defArgs st) (defBody st) (defScope st) dvs [] f fd) (S : FnScope N ps (defScope st)) (len : ∀ vs H Q E, sp vs H Q E → vs.length = ps.length)
    (hb : ∀ (cdv : Value) (A : Around) (outer : List Env) (s : Shared) (H : Hp) (vs : List V) (Q : VK) (E : XK), Room k (A.deeper (envOfC qual (defScope st) s.heap.objs.size f cdv)) → sp vs H Q E →
      ∃ t, PSs (cxOf (L2N.CX P w) P w K mg base N qual (defScope st) f cdv A outer s H E) (defBody st) t ∧ t { nx := fun _ H' => Q .non H', rt := Q } (start N vs) H) : FnOk P w K mg base (L2N.CX P w) (k + 1) f fd ps sp :=
  F.ok S len hb
theorem passLN {X : Cx} : Passes (L2N.CX X.prog X.w) X E0 := fun _ _ _ _ _ _ _ h => by
  obtain ⟨_, _, _, _, _, _, _, _, _, _, _, _, z⟩ := h
  exact z.elim
theorem takes0N {X : Cx} : L2N.Takes X (fun _ _ _ _ => False) := fun _ _ x => by
  obtain ⟨_, _, _, _, _, _, _, _, _, _, _, _, _, _, _, _, z⟩ := x
  exact z.elim
/-- a def that is called while an exception is handled; it raises nothing -/
theorem okH {x qual : Str} {st : Stmt} {f : Addr} {fd : FuncData} {N ps : List Str} {k : Nat} {sp : Sp} (F : Fun K x qual st f fd) (S : FnScope N ps (defScope st)) (len : ∀ vs H Q E, sp vs H Q E → vs.length = ps.length)
    (hb : ∀ (cdv : Value) (A : Around) (outer : List Env) (s : Shared) (H : Hp) (vs : List V) (Q : VK) (E : XK) (p : Addr × Obj), L2H.Hot1 A p → L2H.RoomH k (A.deeper (envOfC qual (defScope st) s.heap.objs.size f cdv)) → sp vs H Q E →
      ∃ t, PSs (L2H.cxH CX0 P w K mg base N qual (defScope st) f cdv A outer s H E p) (defBody st) t ∧ t { nx := fun _ H' => Q .non H', rt := Q } (start N vs) H) : L2H.FnH P w K mg base CX0 (k + 1) f fd ps sp := by
  obtain ⟨oc, od, kV, doc, pm, an, cdv, ct, osl, rfl, lk, hcd⟩ := F.ex
  exact L2H.fn_ofH lk hcd S len fun A outer s H vs Q E p hot hr h => hb cdv A outer s H vs Q E p hot hr h
end
structure CalH (P : Program) (w : World) (K : PySem.W.Frag) (mg : Str → Option Value) (base : Heap) (k : Nat) (x : Str) (sp : Sp) : Prop where
  ex : ∃ (f : Addr) (fd : FuncData) (ps : List Str), mg x = some (.ref f) ∧ PySem.W.keepIn K (.ref f) = true ∧ Binds K fd ps [] ∧ L2H.FnH P w K mg base CX0 k f fd ps sp
section
variable {X : Cx} {CX : CXT} {k j : Nat} {C : Addr} {sp : Sp} {x : Str} {p pos : Pos} {e : Expr} {es : List Expr} {t : TA}
theorem hotc {a : Addr} {oe : Obj} {cls : Value} {d : Option Addr} {pn : List (Addr × Obj)} (hz : L2N.Zn cls d oe) (hf : ∃ vs, oe.data = .fields vs) : L2H.HotC (X.suite a ((a, oe) :: pn)) := by
  obtain ⟨vs, hv⟩ := hf
  exact ⟨(a, oe), ⟨rfl, vs, hv, hz.2.2 vs hv⟩, List.mem_cons_self⟩
theorem pe_callHF (c : CalH X.prog X.w X.K X.mg X.base j x sp) (hr : L2H.RoomH k X.A) (hc : L2H.HotC X) (hg : Gl X x) (ha : PA X (e :: es) t) (hk : j ≤ k := by decide)
    (hdb : (x == ("__debug__" : Str)) = false := by decide) (he : starEach (e :: es) X.env = (false, eval e X.env) :: starEach es X.env := by rfl) (hpl : (backTo pos (starEach es X.env)).any (·.1) = false := by rfl) :
    PE X (.Call (.Name x p) (e :: es) [] pos) (tCallS sp (fun _ => E0) t) := by
  obtain ⟨f, fd, ps, h1, h2, h3, h4⟩ := c.ex
  exact L2H.pe_callH h4 (hr.mono hk) hc hg h1 h2 h3 (fun σ pins H s e s' _ z => z.elim) ha hdb he hpl
theorem r_callS {σ : L2.St} {H : Hp} {Q : VK} {E : L2.St → XK} (h : t σ H fun vs H1 => sp vs H1 Q (E σ)) : tCallS sp E t σ H Q := h
set_option maxHeartbeats 8000000 in
theorem pmk_oexN (c : CalE X.prog X.w X.K X.mg X.base j x C sp) (hr : Room k X.A) (hg : Gl X x) (ha : PA X (e :: es) t) (hk : j + 1 ≤ k := by decide)
    (hdb : (x == ("__debug__" : Str)) = false := by decide) (he : starEach (e :: es) X.env = (false, eval e X.env) :: starEach es X.env := by rfl) (hpl : (backTo pos (starEach es X.env)).any (·.1) = false := by rfl) :
    L2N.PMk X (.Call (.Name x p) (e :: es) [] pos) (tMkO C sp [] t) := by
  obtain ⟨fI, fd, ps, hm, iC, tI, hb, F1⟩ := c.ex; have T := c.ox
  intro pins s σ H Q I h
  obtain ⟨nm, q, N, bs, bm, sn, sub, ab, col, dd, k0, k1, k2, k3, k5, hC, hbm⟩ := c.ox.cls
  refine wpAny_Call_Name_kw (ld_glob I hg hm (PySem.W.callWith_K (h₀ := X.base) I.ok.mod.kin T.kC (thn (ha.run pos pins s σ H _ I h) fun us s1 ⟨vs, H1, I1, r1, hz, q1⟩ => ⟨I1.kIn, ?_⟩) he hpl) hdb)
  show wpAny _ _ (call (.ref C) us) _ _ _; obtain ⟨hp, g, dr, tk, os⟩ := s1
  have hsz : hp.objs.size ≤ hp.objs.size + 1 := Nat.le_succ _; have hn : H1 (hp.objs.size + 1) = none := I1.hok.fresh hsz
  have hq := q1 (hp.objs.size + 1) hn; rw [List.append_nil] at hq
  have kk : ∀ b o, hp.get? b = some o → ((hp.push (PySem.W.kdv_tup us)).push (PySem.HandSPX.excO C hp.objs.size)).get? b = some o := fun b o e => by exact Heap.get?_push_of_some _ (Heap.get?_push_of_some _ e)
  have hget : ((hp.push (PySem.W.kdv_tup us)).push (PySem.HandSPX.excO C hp.objs.size)).get? (hp.objs.size + 1) = some (PySem.HandSPX.excO C hp.objs.size) := by (heap_get)
  have I2 : Inv X pins σ (upd H1 (hp.objs.size + 1) (exo (hp.objs.size + 1) C none)) ⟨(hp.push (PySem.W.kdv_tup us)).push (PySem.HandSPX.excO C hp.objs.size), g, dr, tk, os⟩ := by
    exact I1.laid (t' := tk) (a := hp.objs.size + 1) (o := exo (hp.objs.size + 1) C none) (h' := (hp.push (PySem.W.kdv_tup us)).push (PySem.HandSPX.excO C hp.objs.size)) kk hsz (exo_ok hget)
  have r2 : Vals (V.ref (hp.objs.size + 1) :: vs) (Value.ref (hp.objs.size + 1) :: us) := .cons rfl r1
  have hl : (Value.ref (hp.objs.size + 1) :: us ++ []).length = ps.length := by have e := r2.length; rw [F1.len _ _ _ _ hq] at e; rw [List.append_nil]; exact e.symm
  have hus : us.length ≤ sizeLine := by rw [← Paired.length r1, sizeLine_eq]; omega
  have b2 := hb _ (Value.ref (hp.objs.size + 1) :: us) I2.kIn hl; rw [List.append_nil] at b2
  refine wpAny_call (PySem.HandSPX.call_own F.excBase_ValueError (fun Y => PySem.HandSPX.refsVE_contains Y bm hbm) (I1.kIn _ _ hC) (PySem.W.looks_findIn I1.kIn iC) (fun self => PySem.W.bind_fn I1.kIn self tI) hus
    (codeAny_mono (F1.run _ X.stack _ _ ⟨Value.ref (hp.objs.size + 1) :: us, []⟩ (Value.ref (hp.objs.size + 1) :: us) _ _ (fun _ _ _ => False) ((hr.mono hk).make C us []) (I2.env0.make C us []) b2 r2 hq) fun r s' hq' => ?_))
  match r, hq' with
  | .error er, hq' => exact False.elim hq'
  | .ok .next, hq' => exact False.elim hq'
  | .ok .brk, hq' => exact False.elim hq'
  | .ok .cont, hq' => exact False.elim hq'
  | .ok (.ret u), hq' =>
    obtain ⟨v, H2, os2, bare2, un2, hok2, rv, ev, d, fs, ea, ed, hd1, q2⟩ := hq'; subst ev
    obtain ⟨h2, g2, d2, t2, os'⟩ := s'; obtain ⟨t0, G, J, kG, ge, hoe, na⟩ := mk_end0 (d2 := d2) (t2 := t2) I1 hsz kk un2 hok2 os2 bare2 ea ed hd1
    exact ⟨rv, ⟨hp.objs.size + 1, _, _, ⟨G, g2, d2, t2, os'⟩, _, .ref C, some d, rfl, J, kG, ge, hoe, ⟨rfl, rfl, fun vs hv => by cases hv; rfl⟩, rfl, rfl, na, rfl, bare2, raises_own T.exC T.tyC, q2⟩⟩
end
theorem r_catchM {K : PySem.W.Frag} {c cls : Value} {d : Option Addr} {ts : Addr → Value → Option Addr → TS} {r : List (Value × (Addr → Value → Option Addr → TS))} {Wo : WX} {D : Ends} {σ : L2.St} {H : Hp} (h : PySem.W.exmOne K cls c = some true)
    (k : ∀ a, H a = none → ts a cls d D σ H) : L2.wMany K Wo D ((c, ts) :: r) cls d σ H := ⟨true, h, fun _ => k, fun z => by cases z⟩
theorem r_catchM2 {K : PySem.W.Frag} {c cls : Value} {d : Option Addr} {ts : Addr → Value → Option Addr → TS} {r : List (Value × (Addr → Value → Option Addr → TS))} {Wo : WX} {D : Ends} {σ : L2.St} {H : Hp} (h : PySem.W.exmOne K cls c = some false)
    (k : L2.wMany K Wo D r cls d σ H) : L2.wMany K Wo D ((c, ts) :: r) cls d σ H := ⟨false, h, (fun z => by cases z), fun _ => k⟩
section
variable {X : Cx} {o e : Expr} {es : List Expr} {to : TE} {t : TA} {name : Str} {apos cpos : Pos} {T id : String} {r : V → List V → Hp → VK → Prop}
theorem pe_bmK (K : PySem.W.Frag) (pa : PlainAttrs T) (slot : Slot T name id) (hty : typeOf (.builtin id) = pure (.type "method_descriptor")) (hm : MtR X id r) (ho : PE X o to) (ha : PA X (e :: es) t) (hK : X.K = K := by rfl)
    (hbase : attributeBase o name X.env (eval o X.env) = eval o X.env := by rfl)
    (hfew : ((backTo cpos (starEach (e :: es) X.env)).all (fun x => !x.1) && (backToKw cpos (keywordEach [] X.env)).all (fun x => x.1.isSome)
      && decide ((e :: es).length + ([] : List Keyword).length + (if ([] : List Keyword).isEmpty then 0 else 1) < 30)) = true := by rfl)
    (hline : (apos.endLine == cpos.line) = true := by rfl) (hs : starEach (e :: es) X.env = (false, eval e X.env) :: starEach es X.env := by rfl) (hplain : (backTo cpos (starEach es X.env)).any (·.1) = false := by rfl) :
    PE X (.Call (.Attribute o name apos) (e :: es) [] cpos) (tBM K T r to t) := by
  subst hK
  exact pe_bm pa slot hty hm ho ha hbase hfew hline hs hplain
end
end SH

set_option Elab.async false
set_option linter.all false
set_option maxRecDepth 100000
set_option maxHeartbeats 8000000
/-! the step -/
local macro_rules | `(tactic| walk_at "slot") => `(tactic| (with_reducible first | exact SH.get_z | (apply SH.get_s; walk_at "slot")))
local macro_rules | `(tactic| walk_at "put") => `(tactic| (with_reducible first | exact SH.set_z | (apply SH.set_s; walk_at "put")))
local macro_rules | `(tactic| walk_at "wipe") => `(tactic| (with_reducible first | exact SH.wp_z | apply SH.wp_s (by walk_at "wipe") (by walk_at "put")))
local macro_rules | `(tactic| walk_at "begin") => `(tactic| ((apply SH.r_start (by (repeat (with_reducible first | exact SH.st_z | apply SH.st_c | apply SH.st_n)))); (try dsimp only [L2.Cx.nox, L2.Cx.wish, L2.cxOf])))
local macro_rules | `(tactic| walk_at "r0") => `(tactic| with_reducible first
  | ((apply SH.r_nx (by walk_at "put")))
  | refine SH.r_seq ?_ | refine SH.r_asg ?_ | (apply SH.r_gnw (by walk_at "wipe")) | (apply SH.r_gtw (by walk_at "wipe")) | ((apply SH.r_gname (by walk_at "put")))
  | ((apply SH.r_var (by walk_at "slot"))) | refine SH.r_c ?_ | refine SH.r_op ?_ | refine SH.r_cons ?_ | refine SH.r_nil ?_
  | refine SH.v_addI ?_ | refine SH.v_subI ?_ | refine SH.v_ltI ?_ | refine SH.v_leI ?_ | refine SH.v_gtI ?_ | refine SH.v_geI ?_ | refine SH.v_eqI ?_ | refine SH.v_neI ?_
  | refine SH.v_eqB ?_ | refine SH.v_neB ?_ | refine SH.w_isB ?_ | refine SH.w_notB ?_ | refine SH.v_isN ?_ | refine SH.v_notN ?_ | refine SH.v_ipA ?_ | refine SH.v_ipS ?_ | refine SH.v_and ?_
  | refine SH.r_ifS ?_ | refine SH.r_test ?_ | refine SH.r_bl ?_ | refine SH.r_B ?_ | refine SH.r_and ?_ | refine SH.r_or ?_ | refine SH.r_not ?_ | refine SH.r_andV ?_ | refine SH.r_orV ?_ | refine SH.r_notV ?_
  | refine SH.r_T ?_ | refine SH.r_F ?_ | refine SH.r_nT ?_ | refine SH.r_nF ?_
  | refine SH.r_ret ?_ | refine SH.r_retN ?_ | refine SH.r_drop ?_ | ((apply SH.r_aug (by walk_at "slot"))) | refine SH.r_next ?_ | refine SH.r_if ?_
  | refine SH.r_call ?_ | refine SH.r_cb ?_ | refine SH.r_tup ?_ | refine SH.r_lst ?_ | refine SH.r_part ?_ | refine SH.r_nopart ?_ | refine SH.r_int ?_ | refine SH.r_sl ?_ | refine SH.r_chain ?_
  | refine SH.r_bm ?_ | refine SH.r_bm0 ?_ | refine SH.r_un ?_ | refine SH.r_neg ?_ | refine SH.r_gcons ?_ | refine SH.r_gnil ?_ | refine SH.r_gsub ?_ | refine SH.r_brk ?_ | refine SH.r_cont ?_ | refine SH.r_yes ?_
  | refine SH.r_for ?_ | refine SH.r_lc ?_ | refine SH.r_iList ?_ | refine SH.r_iTup ?_ | refine SH.r_iRng1 ?_ | refine SH.r_iRng2 ?_ | refine SH.r_iRng3 ?_ | refine SH.r_iEnum ?_ | refine SH.r_iZip ?_ | refine SH.r_iRev ?_
  | refine SH.r_fldF ?_ | refine SH.r_sfldF ?_ | refine SH.r_sfldAugF ?_ | refine SH.r_meth ?_ | refine SH.r_make ?_ | refine SH.r_lrg1 ?_ | refine SH.r_lrg2 ?_ | refine SH.r_bits ?_ | refine SH.v_bits ?_ | refine SH.w_max ?_ | refine SH.w_min ?_
  | refine SH.r_par ?_ | refine SH.r_par3 ?_ | (apply SH.v_par (by walk_at "put") (by walk_at "put")) | (apply SH.v_par3 (by walk_at "put") (by walk_at "put") (by walk_at "put"))
  | refine SH.r_callS ?_ | refine SH.r_mkO ?_ | refine SH.r_xf ?_ | refine SH.r_ost ?_ | refine SH.r_methX ?_ | refine SH.r_makeX ?_ | refine SH.r_augS ?_ | refine SH.r_dnewT ?_ | refine SH.r_dput ?_ | refine SH.r_dget1 ?_ | refine SH.r_dgetI ?_ | refine SH.r_din ?_ | refine SH.r_dnotin ?_ | refine SH.w_intI ?_ | refine SH.w_intB ?_ | ((apply SH.v_dget1 (by assumption))))
/-! heap facts -/
local macro_rules | `(tactic| walk_at "ne") => `(tactic| with_reducible first
  | assumption | (apply Ne.symm; assumption)
  | ((apply SH.ne_of_none'); (focus (assumption; done)); (focus (walk_at "lk"))) | ((apply Ne.symm); (apply SH.ne_of_none'); (focus (assumption; done)); (focus (walk_at "lk")))
  | ((apply L2.ne_of); (focus (walk_at "lk")); (focus (walk_at "lk")); (focus (intro z; cases z; done))))
local macro_rules | `(tactic| walk_at "lk") => `(tactic| (focus
  ((repeat (with_reducible first
  | assumption | exact L2.upd_same
  | (apply SH.off_old (by assumption))
  | ((apply SH.off_far); (focus (walk_at "ne")))
  | (apply SH.Stp.keep0 (by assumption))));
        done)))
local macro_rules | `(tactic| walk_at "sq") => `(tactic| (focus
  ((repeat (with_reducible first
  | assumption | exact L2.SqL.of L2.upd_same | exact L2.SqT.of L2.upd_same | exact L2.SqL.of (by assumption) | exact L2.SqT.of (by assumption)
  | (apply SH.sql_off (by assumption)) | (apply SH.sqt_off (by assumption))
  | ((apply SH.sql_offar); (focus (walk_at "ne"))) | ((apply SH.sqt_offar); (focus (walk_at "ne")))
  | (apply SH.Stp.sql0 (by assumption)) | (apply SH.Stp.sqt0 (by assumption))));
        done)))
local macro_rules | `(tactic| walk_at "st") => `(tactic| (focus
  ((repeat (with_reducible first
  | assumption | exact SH.Stp.refl _ _
  | (apply SH.st_new (by assumption)) | (apply SH.st_trans (by assumption)) | ((apply SH.st_put); (focus (walk_at "fr")))));
        done)))
local macro_rules | `(tactic| walk_at "fr") => `(tactic| with_reducible first | assumption | ((apply SH.st_fr (by assumption)); (walk_at "st")))
local macro_rules | `(tactic| walk_at "few") => `(tactic| first | exact SH.few0 | exact SH.few1 | exact SH.few2 | exact SH.few3 | exact SH.few4 | exact SH.few5 | exact SH.few6 | (simp; done))
local macro_rules | `(tactic| walk_at "pf") => `(tactic| first | exact SH.pf_nil | exact SH.pf_hit | (apply SH.pf_miss (by decide) (by walk_at "pf")))
/-! steps with a side -/
local macro_rules | `(tactic| walk_at "r2") => `(tactic| first
  | ((with_reducible refine SH.v_mulI ?_ ?_); (focus (first | exact L2.CMul.ok (.inl ⟨by omega, by omega⟩) | exact L2.CMul.ok (.inr ⟨by omega, by omega⟩) | exact SH.mul64 ⟨by omega, by omega⟩ ⟨by omega, by omega⟩)))
  | ((with_reducible refine SH.v_divS ?_ ?_ ?_); (focus omega); (focus omega))
  | ((with_reducible refine SH.v_mod ?_ ?_); (focus omega))
  | (with_reducible refine SH.v_pow60 ?_)
  | ((with_reducible apply SH.v_lenQ); (focus (walk_at "sq")); (focus (first | exact List.length_map _ | rfl))) | ((with_reducible apply SH.v_lenU); (focus (walk_at "sq")); (focus (first | exact List.length_map _ | rfl)))
  | ((with_reducible apply SH.v_slL); (focus (walk_at "sq"))) | ((with_reducible apply SH.v_iList); (focus (walk_at "sq")))
  | ((with_reducible refine SH.v_rng2 ?_ ?_); (focus (refine ⟨by omega, by omega, by omega, by omega⟩)))
  | ((with_reducible refine SH.v_rng1 ?_ ?_); (focus (refine ⟨by omega, by omega⟩)))
  | ((with_reducible apply SH.v_fld); (focus (walk_at "lk")); (focus rfl)) | ((with_reducible apply SH.v_sfld); (focus (walk_at "lk")); (focus (walk_at "few")); (focus (walk_at "pf"))) | ((with_reducible apply SH.v_aug1); (focus (walk_at "lk")); (focus rfl)) | ((with_reducible apply SH.v_aug2); (focus (walk_at "lk")); (focus (walk_at "few")); (focus (walk_at "pf")))
  | ((with_reducible apply SH.v_enum); (focus (walk_at "sq"))) | ((with_reducible apply SH.v_rev1); (focus (walk_at "sq"))) | ((with_reducible apply SH.v_zip); (focus (walk_at "sq")); (focus (walk_at "sq"))) | ((with_reducible apply SH.v_iTup); (focus (walk_at "sq")))
  | (with_reducible refine SH.v_tup1 ?_) | (with_reducible refine SH.v_tup2 ?_) | (with_reducible refine SH.v_tup3 ?_) | (with_reducible refine SH.v_lst0 ?_) | (with_reducible refine SH.v_lst1 ?_) | (with_reducible refine SH.v_lst2 ?_) | (with_reducible refine SH.v_lst3 ?_) | (with_reducible refine SH.v_lst4 ?_)
  | ((with_reducible apply SH.r_ty); (focus (walk_at "lk")))
  | ((with_reducible apply SH.w_listL); (focus (walk_at "sq"))) | ((with_reducible apply SH.w_listT); (focus (walk_at "sq"))) | ((with_reducible apply SH.w_tupL); (focus (walk_at "sq"))) | ((with_reducible apply SH.w_tupT); (focus (walk_at "sq")))
  | ((with_reducible apply SH.r_gtup); (focus (walk_at "sq")); (focus rfl))
  | ((with_reducible apply SH.r_glst); (focus (walk_at "sq")); (focus rfl))
  | (with_reducible refine SH.r_callX ?_)
  | ((with_reducible refine SH.r_wp ?_ ?_); (focus rfl))
  | ((with_reducible apply SH.v_methX); (focus (walk_at "lk")); (focus rfl)) | ((with_reducible apply SH.v_xf); (focus (walk_at "lk")); (focus rfl)) | ((with_reducible apply SH.v_meth); (focus (walk_at "lk")); (focus rfl)) | ((with_reducible apply SH.isi_L); (focus (walk_at "lk"))) | ((with_reducible apply SH.isi_T); (focus (walk_at "lk"))) | (with_reducible refine SH.isi_bl_bool ?_) | (with_reducible refine SH.isi_bl_int ?_)
  | (with_reducible refine SH.r_ckw ?_) | (with_reducible refine SH.r_ckw2 ?_) | (with_reducible refine SH.r_lrev ?_) | ((with_reducible apply SH.v_lrev); (focus (walk_at "sq")))
  | ((with_reducible refine SH.v_isiIT ?_)) | ((with_reducible refine SH.v_isiIB ?_)) )
local macro_rules | `(tactic| walk_at "r1") => `(tactic| first | walk_at "r0" | walk_at "r2")
local macro_rules | `(tactic| walk_at "rd") => `(tactic| repeat walk_at "r1")
/-! the same, up to the making of an instance, or a call -/
local macro_rules | `(tactic| walk_at "rq") => `(tactic| repeat ((fail_if_success (with_reducible refine SH.r_make ?_)); walk_at "r1"))
local macro_rules | `(tactic| walk_at "rc") => `(tactic| repeat ((fail_if_success (with_reducible refine SH.r_call ?_)); walk_at "r1"))
/-! the same, up to an if -/
local macro_rules | `(tactic| walk_at "ri") => `(tactic| repeat ((fail_if_success (with_reducible refine SH.r_ifS ?_)); walk_at "r1"))

namespace Law
open PySem PySem.Spec PyProof.Rows L2 SH NdefX LamX
def top (i : Nat) : Stmt := PySem.Challenge.pw_sorthall_k58_whole_stopped_and_given_mor.main.body.getD i (.Pass ⟨0, 0, 0, 0⟩)
abbrev s_halved_between : Stmt := top 2
theorem sc_halved_between : FnScope ["asker", "order", "place", "low", "high", "middle"] ["asker", "order", "place", "low", "high"] (defScope s_halved_between) := ⟨rfl, rfl, rfl, by decide +kernel, rfl, by decide +kernel, by decide +kernel⟩
abbrev s_leap : Stmt := top 3
theorem sc_leap : FnScope ["asker", "order", "first", "place", "low", "step", "at"] ["asker", "order", "first", "place"] (defScope s_leap) := ⟨rfl, rfl, rfl, by decide +kernel, rfl, by decide +kernel, by decide +kernel⟩
abbrev s_leap_taken : Stmt := top 6
theorem sc_leap_taken : FnScope ["asker", "sides", "at", "side", "told", "mine", "theirs", "found"] ["asker", "sides", "at", "side", "told"] (defScope s_leap_taken) := ⟨rfl, rfl, rfl, by decide +kernel, rfl, by decide +kernel, by decide +kernel⟩
abbrev s_joined : Stmt := top 7
theorem sc_joined : FnScope ["asker", "left", "right", "sides", "at", "told", "last", "wins", "side"] ["asker", "left", "right"] (defScope s_joined) := ⟨rfl, rfl, rfl, by decide +kernel, rfl, by decide +kernel, by decide +kernel⟩
abbrev s_stretch_from : Stmt := top 9
theorem sc_stretch_from : FnScope ["asker", "first", "end", "at", "falling"] ["asker", "first", "end"] (defScope s_stretch_from) := ⟨rfl, rfl, rfl, by decide +kernel, rfl, by decide +kernel, by decide +kernel⟩
abbrev s_in_turn : Stmt := top 10
theorem sc_in_turn : FnScope ["first", "beyond", "falling", "places"] ["first", "beyond", "falling"] (defScope s_in_turn) := ⟨rfl, rfl, rfl, by decide +kernel, rfl, by decide +kernel, by decide +kernel⟩
abbrev s_spot_of : Stmt := top 12
theorem sc_spot_of : FnScope ["asker", "order", "place", "low", "high", "middle"] ["asker", "order", "place"] (defScope s_spot_of) := ⟨rfl, rfl, rfl, by decide +kernel, rfl, by decide +kernel, by decide +kernel⟩
abbrev s_filled : Stmt := top 13
theorem sc_filled : FnScope ["asker", "first", "least", "end", "found", "falling", "order", "place"] ["asker", "first", "least", "end"] (defScope s_filled) := ⟨rfl, rfl, rfl, by decide +kernel, rfl, by decide +kernel, by decide +kernel⟩
abbrev s_grade : Stmt := top 15
theorem sc_grade : FnScope ["many", "first", "middle", "beyond", "low", "high", "told"] ["many", "first", "middle", "beyond"] (defScope s_grade) := ⟨rfl, rfl, rfl, by decide +kernel, rfl, by decide +kernel, by decide +kernel⟩
abbrev s_Pile___init__ : Stmt := inClass (top 17) 0
theorem sc_Pile___init__ : FnScope ["self", "asker", "least", "part"] ["self", "asker", "least", "part"] (defScope s_Pile___init__) := ⟨rfl, rfl, rfl, by decide +kernel, rfl, by decide +kernel, by decide +kernel⟩
abbrev s_Pile_step : Stmt := inClass (top 17) 1
theorem sc_Pile_step : FnScope ["self", "stands"] ["self"] (defScope s_Pile_step) := ⟨rfl, rfl, rfl, by decide +kernel, rfl, by decide +kernel, by decide +kernel⟩
abbrev s_Pile_lay : Stmt := inClass (top 17) 2
theorem sc_Pile_lay : FnScope ["self", "first", "told", "beyond", "many"] ["self"] (defScope s_Pile_lay) := ⟨rfl, rfl, rfl, by decide +kernel, rfl, by decide +kernel, by decide +kernel⟩
abbrev s_Pile_put_together : Stmt := inClass (top 17) 3
theorem sc_Pile_put_together : FnScope ["self", "at", "lower", "upper", "order"] ["self", "at"] (defScope s_Pile_put_together) := ⟨rfl, rfl, rfl, by decide +kernel, rfl, by decide +kernel, by decide +kernel⟩
abbrev s_Pile_standing : Stmt := inClass (top 17) 4
theorem sc_Pile_standing : FnScope ["self", "told", "span", "over"] ["self"] (defScope s_Pile_standing) := ⟨rfl, rfl, rfl, by decide +kernel, rfl, by decide +kernel, by decide +kernel⟩
abbrev s_Pile_paper : Stmt := inClass (top 17) 5
theorem sc_Pile_paper : FnScope ["self", "told", "span"] ["self"] (defScope s_Pile_paper) := ⟨rfl, rfl, rfl, by decide +kernel, rfl, by decide +kernel, by decide +kernel⟩
abbrev s_by_pile : Stmt := top 18
theorem sc_by_pile : FnScope ["asker", "least", "part", "pile"] ["asker", "least", "part"] (defScope s_by_pile) := ⟨rfl, rfl, rfl, by decide +kernel, rfl, by decide +kernel, by decide +kernel⟩
abbrev s_Spent___init__ : Stmt := inClass (top 21) 0
theorem sc_Spent___init__ : FnScope ["self", "asked"] ["self", "asked"] (defScope s_Spent___init__) := ⟨rfl, rfl, rfl, by decide +kernel, rfl, by decide +kernel, by decide +kernel⟩
abbrev s_Asker___init__ : Stmt := inClass (top 23) 0
theorem sc_Asker___init__ : FnScope ["self", "row", "rule", "most"] ["self", "row", "rule", "most"] (defScope s_Asker___init__) := ⟨rfl, rfl, rfl, by decide +kernel, rfl, by decide +kernel, by decide +kernel⟩
abbrev s_Asker_many : Stmt := inClass (top 23) 1
theorem sc_Asker_many : FnScope ["self"] ["self"] (defScope s_Asker_many) := ⟨rfl, rfl, rfl, by decide +kernel, rfl, by decide +kernel, by decide +kernel⟩
abbrev s_Asker_ahead : Stmt := inClass (top 23) 2
theorem sc_Asker_ahead : FnScope ["self", "p", "q", "later", "earlier", "said"] ["self", "p", "q"] (defScope s_Asker_ahead) := ⟨rfl, rfl, rfl, by decide +kernel, rfl, by decide +kernel, by decide +kernel⟩
abbrev s_Asker_widen : Stmt := inClass (top 23) 4
theorem sc_Asker_widen : FnScope ["self", "more"] ["self", "more"] (defScope s_Asker_widen) := ⟨rfl, rfl, rfl, by decide +kernel, rfl, by decide +kernel, by decide +kernel⟩
abbrev s_Rule_before : Stmt := inClass (top 25) 0
theorem sc_Rule_before : FnScope ["self", "x", "y"] ["self", "x", "y"] (defScope s_Rule_before) := ⟨rfl, rfl, rfl, by decide +kernel, rfl, by decide +kernel, by decide +kernel⟩
abbrev s_AskedRule___init__ : Stmt := inClass (top 26) 0
theorem sc_AskedRule___init__ : FnScope ["self", "teller"] ["self", "teller"] (defScope s_AskedRule___init__) := ⟨rfl, rfl, rfl, by decide +kernel, rfl, by decide +kernel, by decide +kernel⟩
abbrev s_AskedRule_before : Stmt := inClass (top 26) 1
theorem sc_AskedRule_before : FnScope ["self", "x", "y", "ask"] ["self", "x", "y"] (defScope s_AskedRule_before) := ⟨rfl, rfl, rfl, by decide +kernel, rfl, by decide +kernel, by decide +kernel⟩
abbrev s__law_cell_at : Stmt := top 28
theorem sc__law_cell_at : FnScope ["_law_script", "_law_k"] ["_law_script", "_law_k"] (defScope s__law_cell_at) := ⟨rfl, rfl, rfl, by decide +kernel, rfl, by decide +kernel, by decide +kernel⟩
abbrev s__law_blocks : Stmt := top 29
theorem sc__law_blocks : FnScope ["_law_keys", "_law_one", "_law_two", "_law_row", "_law_k", "_law_block"] ["_law_keys", "_law_one", "_law_two"] (defScope s__law_blocks) := ⟨rfl, rfl, rfl, by decide +kernel, rfl, by decide +kernel, by decide +kernel⟩
abbrev s__law_keys_by : Stmt := top 30
theorem sc__law_keys_by : FnScope ["_law_script", "_law_many", "_law_most", "_law_number", "_law_keys", "_law_k", "_law_cell"] ["_law_script", "_law_many", "_law_most"] (defScope s__law_keys_by) := ⟨rfl, rfl, rfl, by decide +kernel, rfl, by decide +kernel, by decide +kernel⟩
abbrev s__law_row_by : Stmt := top 31
theorem sc__law_row_by : FnScope ["_law_script", "_law_many", "_law_keys", "_law_way", "_law_one", "_law_two", "_law_k"] ["_law_script"] (defScope s__law_row_by) := ⟨rfl, rfl, rfl, by decide +kernel, rfl, by decide +kernel, by decide +kernel⟩
abbrev s__law_first : Stmt := top 32
theorem sc__law_first : FnScope ["_law_one", "_law_other"] ["_law_one", "_law_other"] (defScope s__law_first) := ⟨rfl, rfl, rfl, by decide +kernel, rfl, by decide +kernel, by decide +kernel⟩
abbrev s__law_stepped : Stmt := top 33
theorem sc__law_stepped : FnScope ["_law_pile", "_law_asker", "_law_more", "_law_stood", "_law_given", "e"] ["_law_pile", "_law_asker", "_law_more"] (defScope s__law_stepped) := ⟨rfl, rfl, rfl, by decide +kernel, rfl, by decide +kernel, by decide +kernel⟩
abbrev s__law_by_pile : Stmt := top 34
theorem sc__law_by_pile : FnScope ["_law_row", "_law_least", "_law_bounds", "_law_most", "_law_asker", "_law_found", "e"] ["_law_row", "_law_least", "_law_bounds", "_law_most"] (defScope s__law_by_pile) := ⟨rfl, rfl, rfl, by decide +kernel, rfl, by decide +kernel, by decide +kernel⟩
abbrev s_law : Stmt := top 35
theorem sc_law : FnScope ["_law_script", "_law_row", "_law_least", "_law_low", "_law_bounds", "_law_free", "_law_plain", "_law_asker", "_law_pile", "_law_step", "_law_needed", "_law_paper", "_law_more", "_law_fewer", "_law_pair"] ["_law_script"] (defScope s_law) := ⟨rfl, rfl, rfl, by decide +kernel, rfl, by decide +kernel, by decide +kernel⟩
structure Ad where
  Pile : Addr
  HallError : Addr
  Spent : Addr
  Asker : Addr
  Rule : Addr
  AskedRule : Addr
  f__law_first : Addr
structure Txt (K : PySem.W.Frag) (mg : Str → Option Value) (A : Ad) : Prop where
  z_ValueError : mg "ValueError" = Option.none
  z_list : mg "list" = Option.none
  z_len : mg "len" = Option.none
  z_range : mg "range" = Option.none
  z_int : mg "int" = Option.none
  z_zip : mg "zip" = Option.none
  z_max : mg "max" = Option.none
  z_min : mg "min" = Option.none
  z_sorted : mg "sorted" = Option.none
  z_abs : mg "abs" = Option.none
  z_isinstance : mg "isinstance" = Option.none
  g_Pile : mg "Pile" = some (.ref A.Pile)
  cl_Pile : Cls K A.Pile
  na_Pile_asker : NoAttr K A.Pile "asker"
  na_Pile_least : NoAttr K A.Pile "least"
  na_Pile_low : NoAttr K A.Pile "low"
  na_Pile_end : NoAttr K A.Pile "end"
  na_Pile_come : NoAttr K A.Pile "come"
  na_Pile_newest : NoAttr K A.Pile "newest"
  na_Pile_spans : NoAttr K A.Pile "spans"
  na_Pile_grades : NoAttr K A.Pile "grades"
  g_HallError : mg "HallError" = some (.ref A.HallError)
  xn_HallError : PySem.W.excIn K A.HallError [.type "ValueError", .type "Exception", .type "BaseException", .type "object"] "ValueError.__new__" = true
  kp_HallError : PySem.W.keepIn K (.ref A.HallError) = true
  sb_HallError : PySem.W.subIn K (.ref A.HallError) (.type "BaseException") = some true
  ty_HallError : PySem.W.typeIn K (.ref A.HallError) = some (.type "type")
  ec_HallError : L2.ExcC K A.HallError
  g_Spent : mg "Spent" = some (.ref A.Spent)
  ox_Spent : L2.OexC K A.Spent
  na_Spent_asked : PySem.W.findIn K (.ref A.Spent) "asked" = some none
  kp_Spent : PySem.W.keepIn K (.ref A.Spent) = true
  sb_Spent : PySem.W.subIn K (.ref A.Spent) (.type "BaseException") = some true
  ty_Spent : PySem.W.typeIn K (.ref A.Spent) = some (.type "type")
  ec_Spent : L2.ExcC K A.Spent
  g_Asker : mg "Asker" = some (.ref A.Asker)
  cl_Asker : Cls K A.Asker
  na_Asker_row : NoAttr K A.Asker "row"
  na_Asker_rule : NoAttr K A.Asker "rule"
  na_Asker_most : NoAttr K A.Asker "most"
  na_Asker_asked : NoAttr K A.Asker "asked"
  na_Asker_log : NoAttr K A.Asker "log"
  g_Rule : mg "Rule" = some (.ref A.Rule)
  cl_Rule : Cls K A.Rule
  g_AskedRule : mg "AskedRule" = some (.ref A.AskedRule)
  cl_AskedRule : Cls K A.AskedRule
  na_AskedRule_teller : NoAttr K A.AskedRule "teller"
  k_WINS : ∃ u, mg "WINS" = some u ∧ RelV (.int 4) u
  gf__law_first : mg "_law_first" = some (.ref A.f__law_first)
  exm_Spent_HallError : PySem.W.exmOne K (.ref A.Spent) (.ref A.HallError) = some true
  exm_Spent_Spent : PySem.W.exmOne K (.ref A.Spent) (.ref A.Spent) = some true
  kits_Spent_Spent : PySem.W.kitOne K (.ref A.Spent) (.ref A.Spent) = some true
/-! ### papers -/
/-- nats in a list of the heap -/
abbrev nv (ps : List Nat) : List V := ps.map fun n : Nat => V.int n
def Pap (ps : List Nat) : Prop := ps.Perm (List.range ps.length)
theorem Pap.lt {ps : List Nat} (h : Pap ps) {p : Nat} (hp : p ∈ ps) : p < ps.length := List.mem_range.mp (h.mem_iff.mp hp)
theorem Pap.mem {ps : List Nat} (h : Pap ps) {p : Nat} (hp : p < ps.length) : p ∈ ps := h.mem_iff.mpr (List.mem_range.mpr hp)
theorem Pap.nodup {ps : List Nat} (h : Pap ps) : ps.Nodup := h.nodup_iff.mpr List.nodup_range
theorem pap_range (n : Nat) : Pap (List.range n) := by unfold Pap; rw [List.length_range]
/-- the paper back -/
def inv (ps : List Nat) : List Nat := (List.range ps.length).map fun i => ps.idxOf i
theorem inv_len (ps : List Nat) : (inv ps).length = ps.length := by simp [inv]
theorem inv_at {ps : List Nat} {i : Nat} (h : i < ps.length) : (inv ps)[i]? = some (ps.idxOf i) := by simp [inv, h]
theorem Pap.idx {ps : List Nat} (h : Pap ps) {i : Nat} (hi : i < ps.length) : ps.idxOf i < ps.length ∧ ps[ps.idxOf i]? = some i := by
  have hm := h.mem hi
  have hl := List.idxOf_lt_length_of_mem hm
  exact ⟨hl, by rw [List.getElem?_eq_getElem hl]; simp⟩
theorem Pap.idx_at {ps : List Nat} (h : Pap ps) {a p : Nat} (e : ps[a]? = some p) : ps.idxOf p = a := by
  obtain ⟨ha, e⟩ := List.getElem?_eq_some_iff.mp e
  rw [← e]
  exact List.Nodup.idxOf_getElem h.nodup a ha
/-- told[ps[a]] = a all through -/
theorem Pap.inv_of {ps told : List Nat} (h : Pap ps) (hl : told.length = ps.length) (ht : ∀ (a p : Nat), ps[a]? = some p → told[p]? = some a) : told = inv ps := by
  refine List.ext_getElem? fun i => ?_
  by_cases hi : i < ps.length
  · rw [inv_at hi]
    exact ht _ _ (h.idx hi).2
  · rw [List.getElem?_eq_none (by omega), List.getElem?_eq_none (by rw [inv_len]; omega)]
theorem Pap.inv {ps : List Nat} (h : Pap ps) : Pap (inv ps) := by
  unfold Pap
  rw [inv_len]
  refine (List.perm_ext_iff_of_nodup ?_ List.nodup_range).mpr fun a => ?_
  · unfold Law.inv
    refine List.pairwise_map.mpr (List.Pairwise.imp_of_mem ?_ List.nodup_range)
    intro x y hx hy hne e
    have ex := (h.idx (List.mem_range.mp hx)).2
    have ey := (h.idx (List.mem_range.mp hy)).2
    rw [e] at ex
    exact hne (Option.some.inj (ex.symm.trans ey))
  · unfold Law.inv
    rw [List.mem_map, List.mem_range]
    constructor
    · rintro ⟨i, hi, rfl⟩; exact (h.idx (List.mem_range.mp hi)).1
    · intro ha
      refine ⟨ps[a], List.mem_range.mpr (h.lt (List.getElem_mem ha)), h.idx_at (by simp [ha])⟩
/-- what is laid -/
def lay {α : Type} (d : α) (row : List α) (ps : List Nat) : List α := ps.map fun p => row.getD p d
theorem lay_len {α : Type} {d : α} {row : List α} {ps : List Nat} : (lay d row ps).length = ps.length := by simp [lay]
theorem lay_map {α β : Type} (f : α → β) (d : α) (row : List α) (ps : List Nat) : lay (f d) (row.map f) ps = (lay d row ps).map f := by
  unfold lay
  rw [List.map_map]
  refine List.map_congr_left fun p _ => ?_
  simp [List.getD_eq_getElem?_getD, Option.getD_map]
/-- laid by a paper and then by another one -/
theorem lay_lay {α : Type} {d : α} {row : List α} {ps qs : List Nat} (h : ∀ q ∈ qs, q < ps.length) : lay d (lay d row ps) qs = lay d row (lay 0 ps qs) := by
  unfold lay
  rw [List.map_map]
  refine List.map_congr_left fun q hq => ?_
  have := h q hq
  simp [this]
theorem lay_stay {α : Type} {d : α} {row : List α} : lay d row (List.range row.length) = row := by
  refine List.ext_getElem? fun i => ?_
  by_cases hi : i < row.length
  · simp [lay, hi]
  · rw [List.getElem?_eq_none (by rw [lay_len, List.length_range]; omega), List.getElem?_eq_none (by omega)]
theorem Pap.lay_inv {ps : List Nat} (h : Pap ps) : lay 0 ps (Law.inv ps) = List.range ps.length := by
  unfold lay Law.inv
  rw [List.map_map]
  refine (List.map_congr_left (g := id) fun i hi => ?_).trans (List.map_id _)
  have := (h.idx (List.mem_range.mp hi)).2
  simp [List.getD_eq_getElem?_getD, this]
theorem Pap.inv_lay {ps : List Nat} (h : Pap ps) : lay 0 (Law.inv ps) ps = List.range ps.length := by
  refine List.ext_getElem? fun i => ?_
  by_cases hi : i < ps.length
  · have e : ps[i]? = some ps[i] := List.getElem?_eq_getElem hi
    have e2 := inv_at (h.lt (List.getElem_mem hi))
    rw [h.idx_at e] at e2
    simp [lay, hi, List.getD_eq_getElem?_getD, e2]
  · rw [List.getElem?_eq_none (by rw [lay_len]; omega), List.getElem?_eq_none (by rw [List.length_range]; omega)]
theorem Pap.lay {ps qs : List Nat} (h : Pap ps) (k : Pap qs) (e : ps.length = qs.length) : Pap (lay 0 ps qs) := by
  unfold Pap
  rw [lay_len]
  have h1 : (Law.lay 0 ps qs).Perm (Law.lay 0 ps (List.range qs.length)) := List.Perm.map _ k
  rw [← e, lay_stay] at h1
  rw [← e]
  exact h1.trans h
/-- the back of two behind one another -/
theorem Pap.inv_two {ps qs : List Nat} (h : Pap ps) (k : Pap qs) (e : ps.length = qs.length) : Law.inv (Law.lay 0 ps qs) = Law.lay 0 (Law.inv qs) (Law.inv ps) := by
  have hb := h.lay k e
  refine (hb.inv_of (by rw [lay_len, inv_len, lay_len]; exact e) fun a p hp => ?_).symm
  have ha : a < qs.length := by
    have := (List.getElem?_eq_some_iff.mp hp).1
    rwa [lay_len] at this
  have hq : qs[a]? = some qs[a] := List.getElem?_eq_getElem ha
  have hlt := k.lt (List.getElem_mem ha)
  have hp2 : ps[qs[a]]? = some p := by
    simp only [Law.lay, List.getElem?_map, hq, Option.map_some, List.getD_eq_getElem?_getD] at hp
    rw [List.getElem?_eq_getElem (by omega)] at hp ⊢
    exact hp
  have hpl : p < ps.length := h.lt (List.mem_of_getElem? hp2)
  simp only [Law.lay, List.getElem?_map, inv_at hpl, Option.map_some, h.idx_at hp2, List.getD_eq_getElem?_getD, inv_at hlt, k.idx_at hq, Option.getD_some]
/-- put in anywhere -/
theorem Pap.insert {ps : List Nat} (h : Pap ps) (i : Nat) : Pap (ps.take i ++ [ps.length] ++ ps.drop i) := by
  unfold Pap
  have hl : (ps.take i ++ [ps.length] ++ ps.drop i).length = ps.length + 1 := by
    simp only [List.length_append, List.length_take, List.length_drop, List.length_singleton]; omega
  rw [hl, List.range_succ]
  have : (ps.take i ++ [ps.length] ++ ps.drop i).Perm (ps ++ [ps.length]) := by
    have h1 : (ps.take i ++ [ps.length] ++ ps.drop i).Perm (ps.take i ++ (ps.drop i ++ [ps.length])) := by
      rw [List.append_assoc]
      exact List.Perm.append_left _ List.perm_append_comm
    rw [← List.append_assoc, List.take_append_drop] at h1
    exact h1
  exact this.trans (List.Perm.append_right _ h)
theorem lay_succ {α : Type} {d : α} {row : List α} {qs : List Nat} {j q : Nat} (h : qs[j]? = some q) : lay d row (qs.take (j + 1)) = lay d row (qs.take j) ++ [row.getD q d] := by
  unfold lay
  rw [List.take_succ, h]
  simp
theorem nv_at {ps : List Nat} {q : Nat} (h : q < ps.length) : (nv ps)[q]? = some (.int (ps.getD q 0)) := by simp [nv, h]
theorem nv_app {ps : List Nat} {q : Nat} : nv (ps ++ [q]) = nv ps ++ [.int q] := by simp [nv]
/-! ### asks: the later place, the earlier one, what was told -/
abbrev Ent := T3 Nat Nat Bool
/-- all entries are what the oracle tells -/
def Told (or : List Ent → Nat → Nat → Bool) : List Ent → List Ent → Prop
  | _, [] => True
  | log, e :: es => e.c = or log e.a e.b ∧ Told or (log ++ [e]) es
theorem Told.app {or : List Ent → Nat → Nat → Bool} : ∀ {log es fs : List Ent}, Told or log es → Told or (log ++ es) fs → Told or log (es ++ fs)
  | log, [], fs, _, h => by simpa using h
  | log, e :: es, fs, h, k => ⟨h.1, Told.app h.2 (by simpa using k)⟩
theorem Told.one {or : List Ent → Nat → Nat → Bool} {log : List Ent} {e : Ent} (h : e.c = or log e.a e.b) : Told or log [e] := ⟨h, True.intro⟩
/-- an oracle that doesn't look at the log -/
theorem Told.all {lt : Nat → Nat → Bool} : ∀ {log es : List Ent}, Told (fun _ => lt) log es → ∀ e ∈ es, e.c = lt e.a e.b
  | log, [], _, e, h => by cases h
  | log, e' :: es, h, e, he => by
    rcases List.mem_cons.mp he with z | he
    · rw [z]; exact h.1
    · exact Told.all h.2 e he
theorem max_v (p q : Nat) : (if (q : Int) > (p : Int) then (q : Int) else (p : Int)) = ((max p q : Nat) : Int) := by split <;> omega
theorem min_v (p q : Nat) : (if (q : Int) < (p : Int) then (q : Int) else (p : Int)) = ((min p q : Nat) : Int) := by split <;> omega
def AskF (r : Addr) (u : V) (n : Nat) (l : Addr) : List (Str × V) := [("row", .ref r), ("rule", u), ("most", .non), ("asked", .int n), ("log", .ref l)]
def sp_Spent___init__ (K : PySem.W.Frag) (A : Ad) : Sp := sp1 "asked" A.Spent
theorem ok_Spent___init__ {P : Program} {w : World} {K : PySem.W.Frag} {mg : Str → Option Value} {base : Heap} {A : Ad} {f : Addr} {fd : FuncData} (F : Fun K "__init__" "Spent.__init__" s_Spent___init__ f fd) (T : Txt K mg A)  : FnOk P w K mg base CX0 1 f fd ["self", "asked"] (sp_Spent___init__ K A) := by
  refine F.ok sc_Spent___init__ (fun vs H Q E h => by obtain ⟨_, _, rfl, _⟩ := h; rfl) (fun cdv A' outer s H vs Q E hr h => ?_)
  obtain ⟨a, v, rfl, ha, k⟩ := h
  refine ⟨_, (pss_one (L2.ps_ost (pv 0) (pv 1))), ?_⟩
  walk_at "begin"
  walk_at "rd"
  refine ⟨a, A.Spent, rfl, T.ox_Spent, T.na_Spent_asked, .inl ⟨ha, fun dx h1 h2 => ?_⟩⟩
  exact k dx h1 h2
theorem r_J {t : TS} {D : Ends} {σ : L2.St} {H : Hp} (P : L2.St → Hp → Prop) (hk : ∀ σ' H', P σ' H' → D.nx σ' H') (h : ∀ N : L2.St → Hp → Prop, (∀ σ' H', P σ' H' → N σ' H') → t { D with nx := N } σ H) : t D σ H := h D.nx hk
def mV : Option Nat → V
  | none => .non
  | some n => .int (n : Nat)
def AskM (r : Addr) (u : V) (m : Option Nat) (n : Nat) (l : Addr) : List (Str × V) := [("row", .ref r), ("rule", u), ("most", mV m), ("asked", .int n), ("log", .ref l)]
def sp_AskedRule___init__ (K : PySem.W.Frag) (A : Ad) : Sp := fun vs H Q _ => ∃ (s : Addr) (f : V), vs = [.ref s, f] ∧ (∃ dx, H s = some (.ins A.AskedRule dx [])) ∧ ∀ dx, Q .non (upd H s (.ins A.AskedRule dx [("teller", f)]))
theorem ok_AskedRule___init__ {P : Program} {w : World} {K : PySem.W.Frag} {mg : Str → Option Value} {base : Heap} {A : Ad} {f : Addr} {fd : FuncData} (F : Fun K "__init__" "AskedRule.__init__" s_AskedRule___init__ f fd) (T : Txt K mg A)  : FnOk P w K mg base CX0 1 f fd ["self", "teller"] (sp_AskedRule___init__ K A) := by
  refine F.ok sc_AskedRule___init__ (fun vs H Q E h => by obtain ⟨_, _, rfl, _⟩ := h; rfl) (fun cdv A' outer s H vs Q E hr h => ?_)
  obtain ⟨s', f', rfl, ⟨dx, hs⟩, k⟩ := h
  refine ⟨_, (pss_one (SH.ps_fldF T.cl_AskedRule T.na_AskedRule_teller (pv 0) (pv 1) rfl)), ?_⟩
  walk_at "begin"
  walk_at "rd"
  exact k dx

def sp__law_first (K : PySem.W.Frag) (A : Ad) : Sp := fun vs H Q _ => ∃ (x y : Addr) (kx ky : Int) (px py : Nat), vs = [.ref x, .ref y] ∧ (H x = some (.tup [.int kx, .int px]) ∧ H y = some (.tup [.int ky, .int py])) ∧ Q (.bl (decide (kx < ky))) H
theorem ok__law_first {P : Program} {w : World} {K : PySem.W.Frag} {mg : Str → Option Value} {base : Heap} {A : Ad} {f : Addr} {fd : FuncData} (F : Fun K "_law_first" "_law_first" s__law_first f fd) (T : Txt K mg A)  : FnOk P w K mg base CX0 1 f fd ["_law_one", "_law_other"] (sp__law_first K A) := by
  refine F.ok sc__law_first (fun vs H Q E h => by obtain ⟨_, _, _, _, _, _, rfl, _⟩ := h; rfl) (fun cdv A' outer s H vs Q E hr h => ?_)
  obtain ⟨x, y, kx, ky, px, py, rfl, ⟨hx, hy⟩, k⟩ := h
  refine ⟨_, (pss_one (ps_ret (pe_cmpR (SH.oLt hr.units0) (pe_ix SH.ixA (pv 0) pe_int (fun _ _ => rfl)) (pe_ix SH.ixA (pv 1) pe_int (fun _ _ => rfl)) (nomark _)))), ?_⟩
  walk_at "begin"
  walk_at "rd"
  refine v_ixTn (n := 0) (SqT.of hx) rfl rfl ?_
  walk_at "rd"
  refine v_ixTn (n := 0) (SqT.of hy) rfl rfl ?_
  walk_at "rd"
  exact k
def sp_AskedRule_before (K : PySem.W.Frag) (A : Ad) : Sp := fun vs H Q E => ∃ (u x y d : Addr) (kx ky : Int) (px py : Nat), vs = [.ref u, .ref x, .ref y] ∧ (H u = some (.ins A.AskedRule d [("teller", .ref A.f__law_first)]) ∧ H x = some (.tup [.int kx, .int px]) ∧ H y = some (.tup [.int ky, .int py])) ∧ Q (.bl (decide (kx < ky))) H
theorem ok_AskedRule_before {P : Program} {w : World} {K : PySem.W.Frag} {mg : Str → Option Value} {base : Heap} {A : Ad} {f : Addr} {fd : FuncData} (F : Fun K "before" "AskedRule.before" s_AskedRule_before f fd) (T : Txt K mg A) (TELF : Held P w K mg base 1 A.f__law_first (sp__law_first K A)) : FnOk P w K mg base CX0 2 f fd ["self", "x", "y"] (sp_AskedRule_before K A) := by
  refine F.ok sc_AskedRule_before (fun vs H Q E h => by obtain ⟨_, _, _, _, _, _, _, _, rfl, _⟩ := h; rfl) (fun cdv A' outer s H vs Q E hr h => ?_)
  obtain ⟨u, x, y, d, kx, ky, px, py, rfl, ⟨hu, hx, hy⟩, k⟩ := h
  refine ⟨_, (pss_cons (ps_set (i := 3) sc_AskedRule_before.nd rfl (Or.inl rfl) (SH.pe_fldF T.cl_AskedRule T.na_AskedRule_teller (pv 0)))
        (pss_one (ps_ret (SH.pe_callLF (i := 3) TELF hr rfl (Or.inl rfl) (pa_cons (pv 1) (pa_cons (pv 2) pa_nil)))))), ?_⟩
  walk_at "begin"
  walk_at "rd"
  refine SH.r_callL rfl ?_
  walk_at "rd"
  exact ⟨x, y, kx, ky, px, py, rfl, ⟨hx, hy⟩, k⟩
/-! ### the asker of a function that goes by keys and writes down -/
/-- a row of pairs (key, place) -/
def RowP (H : Hp) (row : List V) (ks : List Int) : Prop := row.length = ks.length ∧ ∀ (i : Nat) (v : V), row[i]? = some v → ∃ (t : Addr), v = .ref t ∧ H t = some (.tup [.int (getE ks i), .int (i : Nat)])
theorem RowP.stp {M : List Addr} {H H' : Hp} {row : List V} {ks : List Int} (h : RowP H row ks) (S : Stp M H H') : RowP H' row ks :=
  ⟨h.1, fun i v e => by obtain ⟨t, h1, h2⟩ := h.2 i v e; exact ⟨t, h1, S.tup h2⟩⟩
theorem RowP.app {H : Hp} {row : List V} {ks : List Int} {t : Addr} {k : Int} (h : RowP H row ks) (ht : H t = some (.tup [.int k, .int (row.length : Nat)])) : RowP H (row ++ [.ref t]) (ks ++ [k]) := by
  refine ⟨by simp [h.1], fun i v e => ?_⟩
  by_cases hi : i < row.length
  · rw [List.getElem?_append_left hi] at e
    obtain ⟨t', a, b⟩ := h.2 i v e
    exact ⟨t', a, by rw [getE_app (by rw [← h.1]; exact hi)]; exact b⟩
  · rw [List.getElem?_append_right (by omega)] at e
    have hz : i = row.length := by
      have := (List.getElem?_eq_some_iff.mp e).1
      simp at this; omega
    subst hz
    simp at e
    exact ⟨t, e.symm, by rw [getE_last h.1.symm]; exact ht⟩
structure Ask where
  s : Addr
  r : Addr
  l : Addr
  dx : Addr
  u : Addr
  du : Addr
  ks : List Int
  row : List V
  pre : List Ent
  m : Option Nat
def Ask.n (I : Ask) : Nat := I.ks.length
def Ask.M (I : Ask) : List Addr := [I.s, I.l]
def Ask.own (I : Ask) : List Addr := [I.s, I.l, I.r, I.u]
def Ask.lt (I : Ask) (p q : Nat) : Bool := decide (getE I.ks p < getE I.ks q)
def Ask.or (I : Ask) : List Ent → Nat → Nat → Bool := fun _ => I.lt
structure Ask.At (I : Ask) (K : PySem.W.Frag) (A : Ad) (H : Hp) (log : List Ent) : Prop where
  hs : H I.s = some (.ins A.Asker I.dx (AskM I.r (.ref I.u) I.m log.length I.l))
  hr : H I.r = some (.lst I.row)
  hl : ∃ evs, H I.l = some (.lst evs) ∧ IsL K H evs log
  hu : H I.u = some (.ins A.AskedRule I.du [("teller", .ref A.f__law_first)])
  rk : RowP H I.row I.ks
  d1 : I.s ≠ I.u
  d2 : I.l ≠ I.r
  few : log.length + I.pre.length ≤ 100000
  rows : I.row.length ≤ 100000
  bd : ∀ m, I.m = some m → log.length ≤ m
theorem Ask.At.stp {I : Ask} {K : PySem.W.Frag} {A : Ad} {M : List Addr} {H H' : Hp} {log : List Ent} (h : I.At K A H log) (S : Stp M H H') (hM : ∀ m ∈ M, m ∉ I.own) : I.At K A H' log := by
  have k : ∀ b o, b ∈ I.own → H b = some o → H' b = some o := fun b o hb e => S.keep e fun z => hM b z hb
  obtain ⟨evs, h1, h2⟩ := h.hl
  exact ⟨k _ _ (by simp [Ask.own]) h.hs, k _ _ (by simp [Ask.own]) h.hr, ⟨evs, k _ _ (by simp [Ask.own]) h1, isl_stpM S h2⟩, k _ _ (by simp [Ask.own]) h.hu, h.rk.stp S, h.d1, h.d2, h.few, h.rows, h.bd⟩
theorem Ask.At.n_row {I : Ask} {K : PySem.W.Frag} {A : Ad} {H : Hp} {log : List Ent} (h : I.At K A H log) : I.row.length = I.n := h.rk.1

/-- a way is stopped: the asks so far, es, are the first of those that it would have made, es ++ es' -/
def Stop (I : Ask) (K : PySem.W.Frag) (A : Ad) (H : Hp) (log : List Ent) (R : List Ent → Prop) (E : XK) : Prop := ∀ (H' : Hp) (d : Addr) (es es' : List Ent), R (es ++ es') → es' ≠ [] → Told I.or log (es ++ es') → I.m = some (log.length + es.length) → Stp I.M H H' → I.At K A H' (log ++ es) → H d = none → H' d = some (.xd [("asked", .int ((log.length + es.length : Nat) : Int))]) → E (.ref A.Spent) (some d) H'
theorem Stop.free {I : Ask} {K : PySem.W.Frag} {A : Ad} {H : Hp} {log : List Ent} {R : List Ent → Prop} {E : XK} (h : I.m = none) : Stop I K A H log R E := fun _ _ _ _ _ _ _ hm => by rw [h] at hm; cases hm
theorem Stop.sub {I : Ask} {K : PySem.W.Frag} {A : Ad} {H H1 : Hp} {log es1 : List Ent} {R R1 : List Ent → Prop} {E : XK} (h : Stop I K A H log R E) (S : Stp I.M H H1) (hT : Told I.or log es1) (hR : ∀ es2, R1 es2 → Told I.or (log ++ es1) es2 → ∃ es3, Told I.or (log ++ es1 ++ es2) es3 ∧ R (es1 ++ es2 ++ es3)) : Stop I K A H1 (log ++ es1) R1 E := fun H' d es es' h1 hne hT1 hm S' hA hd hx => by
  obtain ⟨es3, hT3, hR3⟩ := hR _ h1 hT1
  have e : es1 ++ (es ++ es') ++ es3 = es1 ++ es ++ (es' ++ es3) := by simp
  have el : (log ++ es1).length + es.length = log.length + (es1 ++ es).length := by simp; omega
  rw [e] at hR3
  rw [el] at hm hx
  refine h H' d (es1 ++ es) (es' ++ es3) hR3 (by simp [hne]) ?_ hm (S.trans S') (by rw [← List.append_assoc]; exact hA) (S.dom _ hd) hx
  rw [← e]
  exact Told.app (Told.app hT hT1) (by rw [← List.append_assoc]; exact hT3)
theorem Stop.ask {I : Ask} {K : PySem.W.Frag} {A : Ad} {H H1 : Hp} {log es : List Ent} {R : List Ent → Prop} {E : XK} {x y : Nat} (h : Stop I K A H log R E) (S : Stp I.M H H1) (hT : Told I.or log es) (hr : ∃ c es3, Told I.or (log ++ es) ((⟨x, y, c⟩ : Ent) :: es3) ∧ R (es ++ (⟨x, y, c⟩ : Ent) :: es3)) : Stop I K A H1 (log ++ es) (fun es2 => ∃ said, es2 = [(⟨x, y, said⟩ : Ent)]) E := by
  refine h.sub S hT fun es2 ⟨said, e⟩ hT2 => ?_
  subst e
  obtain ⟨c, es3, hT3, hR⟩ := hr
  obtain rfl : said = c := hT2.1.trans hT3.1.symm
  exact ⟨es3, hT3.2, by rw [List.append_assoc]; exact hR⟩
theorem Stop.sub0 {I : Ask} {K : PySem.W.Frag} {A : Ad} {H : Hp} {log : List Ent} {R R1 : List Ent → Prop} {E : XK} (h : Stop I K A H log R E) (hR : ∀ es2, R1 es2 → Told I.or log es2 → ∃ es3, Told I.or (log ++ es2) es3 ∧ R (es2 ++ es3)) : Stop I K A H log R1 E := by
  have := h.sub (R1 := R1) (es1 := []) (.refl _ _) True.intro fun es2 h1 h2 => by
    rw [List.append_nil] at h2 ⊢
    exact hR es2 h1 h2
  rw [List.append_nil] at this
  exact this
theorem Stop.imp {I : Ask} {K : PySem.W.Frag} {A : Ad} {H : Hp} {log : List Ent} {R R1 : List Ent → Prop} {E : XK} (h : Stop I K A H log R E) (hR : ∀ es2, R1 es2 → Told I.or log es2 → R es2) : Stop I K A H log R1 E := fun H' d es es' h1 hne hT => h H' d es es' (hR _ h1 hT) hne hT
def sp_Asker_ahead (K : PySem.W.Frag) (A : Ad) : Sp := fun vs H Q E => ∃ (I : Ask) (log : List Ent) (p q : Nat), vs = [.ref I.s, .int p, .int q] ∧ (I.At K A H log ∧ p < I.n ∧ q < I.n ∧ p ≠ q ∧ log.length + I.pre.length < 100000) ∧
  Stop I K A H log (fun es => ∃ said, es = [⟨max p q, min p q, said⟩]) E ∧
  ∀ H' said, said = I.or log (max p q) (min p q) → Stp I.M H H' → I.At K A H' (log ++ [⟨max p q, min p q, said⟩]) → Q (.bl (decide (said = decide (q < p)))) H'
theorem ok_Asker_ahead {P : Program} {w : World} {K : PySem.W.Frag} {mg : Str → Option Value} {base : Heap} {A : Ad} {f : Addr} {fd : FuncData} (F : Fun K "ahead" "Asker.ahead" s_Asker_ahead f fd) (T : Txt K mg A) (M_AskedRule_before : SH.CalM P w K mg base CX0 2 A.AskedRule "before" [] (sp_AskedRule_before K A)) (X_Spent : SH.CalE P w K mg base 1 "Spent" A.Spent (sp_Spent___init__ K A)) : FnOk P w K mg base (L2N.CX P w) 3 f fd ["self", "p", "q"] (sp_Asker_ahead K A) := by
  refine SH.okN F sc_Asker_ahead (fun vs H Q E h => by obtain ⟨_, _, _, _, rfl, _⟩ := h; rfl) (fun cdv A' outer s H vs Q E hr h => ?_)
  obtain ⟨I, log, p, q, rfl, ⟨hA, hp, hq, hne, hlog⟩, kx, k⟩ := h
  refine ⟨_, (pss_cons (ps_if (PW.pt (pw_and (pt_cmpR SH.oNotN (SH.pe_fldF T.cl_Asker T.na_Asker_most (pv 0)) pe_non (nomark _)) (pw_and1 (pt_cmpR SH.oGe (SH.pe_fldF T.cl_Asker T.na_Asker_asked (pv 0)) (SH.pe_fldF T.cl_Asker T.na_Asker_most (pv 0)) (nomark _))))) (pss_one (L2N.ps_raise rfl (L2N.takes_of rfl rfl rfl rfl) (SH.pmk_oexN X_Spent hr (by rfl) (pa_cons (SH.pe_fldF T.cl_Asker T.na_Asker_asked (pv 0)) pa_nil)))) pss_nil)
        (pss_cons (ps_set (i := 3) sc_Asker_ahead.nd rfl (Or.inl rfl) (pe_callB (SH.cMax2 rfl) (by rfl) T.z_max (by decide +kernel) (pa_cons (pv 1) (pa_cons (pv 2) pa_nil))))
        (pss_cons (ps_set (i := 4) sc_Asker_ahead.nd rfl (Or.inl rfl) (pe_callB (SH.cMin2 rfl) (by rfl) T.z_min (by decide +kernel) (pa_cons (pv 1) (pa_cons (pv 2) pa_nil))))
        (pss_cons (ps_set (i := 5) sc_Asker_ahead.nd rfl (Or.inl rfl) (SH.pe_methF (SH.pe_fldF T.cl_Asker T.na_Asker_rule (pv 0)) M_AskedRule_before hr pass0 (pa_cons (pe_ix SH.ixA (SH.pe_fldF T.cl_Asker T.na_Asker_row (pv 0)) (pv 3) (fun _ _ => rfl)) (pa_cons (pe_ix SH.ixA (SH.pe_fldF T.cl_Asker T.na_Asker_row (pv 0)) (pv 4) (fun _ _ => rfl)) pa_nil))))
        (pss_cons (SH.ps_fldaugF T.cl_Asker T.na_Asker_asked (pv 0) pe_int SH.in_add')
        (pss_cons (ps_expr (pe_bm PySem.F.plainAttrs_list PySem.F.slot_list_append PySem.F.type_list_append mt_append (SH.pe_fldF T.cl_Asker T.na_Asker_log (pv 0)) (pa_cons (pe_tup (pa_cons (pv 3) (pa_cons (pv 4) (pa_cons (pv 5) pa_nil)))) pa_nil)))
        (pss_one (ps_ret (pe_cmpR (SH.oEq hr.units) (pv 5) (pe_cmpR (SH.oEq hr.units) (pv 1) (pv 3) (nomark _)) (nomark _)))))))))), ?_⟩
  walk_at "begin"
  have hA0 := hA
  have hn := hA.n_row
  obtain ⟨hs, hr, ⟨evs, hl, hev⟩, hu, rk, d1, d2, few, rows, bd⟩ := hA
  have nsl : I.s ≠ I.l := ne_of hs hl (by intro z; cases z)
  have nsr : I.s ≠ I.r := ne_of hs hr (by intro z; cases z)
  have nlu : I.l ≠ I.u := ne_of hl hu (by intro z; cases z)
  unfold AskM at hs
  walk_at "ri"
  refine r_J (fun σ' H' => (I.m ≠ some log.length ∧ H' = H) ∧ σ' = [some (.ref I.s), some (.int p), some (.int q), none, none, none]) ?_ fun N hN => ?_
  rotate_left
  · walk_at "rd"
    cases hm : I.m with
    | none =>
      rw [hm] at hs
      rw [show (!decide (mV none = V.non)) = false by simp [mV], if_neg (by simp)]
      walk_at "rd"
      exact hN _ _ ⟨⟨by rw [hm]; simp, rfl⟩, rfl⟩
    | some m =>
      have hbm := bd m hm
      rw [hm] at hs
      rw [show (!decide (mV (some m) = V.non)) = true by simp [mV], if_pos rfl]
      unfold mV at hs
      walk_at "rd"
      refine r_w (fun hc => ?_) fun hc => ?_
      · obtain rfl : m = log.length := by omega
        walk_at "rd"
        refine v_raise1 fun d hd => ?_
        have S := (Stp.refl [] H).new (o := .xd [("asked", .int (log.length : Nat))]) hd
        exact kx _ d [] [⟨max p q, min p q, I.or log (max p q) (min p q)⟩] ⟨_, rfl⟩ (by simp) ⟨rfl, True.intro⟩ hm (S.mono (by simp)) (by rw [List.append_nil]; exact hA0.stp S (by simp)) hd upd_same
      · walk_at "rd"
        exact hN _ _ ⟨⟨by rw [hm]; simp; omega, rfl⟩, rfl⟩
  rintro σ' H0 ⟨⟨hm, hHH⟩, rfl⟩
  subst H0
  dsimp only
  walk_at "rd"
  rw [max_v, min_v]
  have hmx : max p q < I.row.length := by omega
  have hmn : min p q < I.row.length := by omega
  obtain ⟨t1, e1, ht1⟩ := rk.2 (max p q) _ (List.getElem?_eq_getElem hmx)
  obtain ⟨t2, e2, ht2⟩ := rk.2 (min p q) _ (List.getElem?_eq_getElem hmn)
  walk_at "rd"
  refine v_ixLn (n := max p q) (SqL.of hr) rfl ((List.getElem?_eq_getElem hmx).trans (congrArg some e1)) ?_
  walk_at "rd"
  refine v_ixLn (n := min p q) (SqL.of hr) rfl ((List.getElem?_eq_getElem hmn).trans (congrArg some e2)) ?_
  walk_at "rd"
  refine ⟨I.u, t1, t2, I.du, _, _, _, _, rfl, ⟨hu, ht1, ht2⟩, ?_⟩
  have ek : decide (getE I.ks (max p q) < getE I.ks (min p q)) = I.or log (max p q) (min p q) := rfl
  rw [ek]
  generalize hsaid : I.or log (max p q) (min p q) = said
  walk_at "rd"
  intro tp htp
  have htp0 : H tp = none := (upd_free htp).1
  walk_at "rd"
  have hl2 : upd (upd H I.s (.ins A.Asker I.dx [("row", .ref I.r), ("rule", .ref I.u), ("most", mV I.m), ("asked", .int (log.length + 1)), ("log", .ref I.l)])) tp (.tup [.int (max p q : Nat), .int (min p q : Nat), .bl said]) I.l = some (.lst evs) := by
    rw [upd_ne (ne_of_none hl htp0), upd_ne nsl.symm]; exact hl
  have hel := isl_len hev
  refine v_app hl2 (by omega) ?_
  walk_at "rd"
  have epl : decide ((p : Int) = ((max p q : Nat) : Int)) = decide (q < p) := by
    apply decide_eq_decide.mpr; omega
  rw [epl]
  have S2 : Stp I.M H (upd (upd (upd H I.s (.ins A.Asker I.dx [("row", .ref I.r), ("rule", .ref I.u), ("most", mV I.m), ("asked", .int (log.length + 1)), ("log", .ref I.l)])) tp (.tup [.int (max p q : Nat), .int (min p q : Nat), .bl said])) I.l (.lst (evs ++ [.ref tp]))) :=
    (((Stp.refl I.M H).putM (by simp [Ask.M]) hs (fun z => z)).new htp).putM (by simp [Ask.M]) hl2 (fun z => z)
  have S := S2
  refine k _ said hsaid.symm S ?_
  have ntl : tp ≠ I.l := (ne_of_none hl htp0).symm
  have nts : tp ≠ I.s := (ne_of_none hs htp0).symm
  have keep : ∀ {b o}, b ≠ I.l → b ≠ I.s → H b = some o → upd (upd (upd H I.s (.ins A.Asker I.dx [("row", .ref I.r), ("rule", .ref I.u), ("most", mV I.m), ("asked", .int (log.length + 1)), ("log", .ref I.l)])) tp (.tup [.int (max p q : Nat), .int (min p q : Nat), .bl said])) I.l (.lst (evs ++ [.ref tp])) b = some o := fun {b o} h1 h2 h3 => by
    rw [upd_ne h1, upd_ne (ne_of_none h3 htp0), upd_ne h2]; exact h3
  refine ⟨?_, keep d2.symm nsr.symm hr, ⟨evs ++ [.ref tp], upd_same, isl_app (isl_stpM S hev) (isl_cons (is_t3 (SqT.of (by rw [upd_ne ntl]; exact upd_same)) is_nat is_nat is_bl) isl_nil)⟩, keep nlu.symm d1.symm hu,
    rk.stp S, d1, d2, by simp; omega, rows, fun m e => by
      have := bd m e
      have : m ≠ log.length := fun z => hm (by rw [e, z])
      simp; omega⟩
  rw [upd_ne nsl, upd_ne nts.symm, upd_same]
  simp [AskM]
def Ask.wide (I : Ask) (n : Nat) : Ask := { I with m := I.m.map (· + n) }
theorem wide_some {I : Ask} {n m : Nat} (h : I.m = some m) : (I.wide n).m = some (m + n) := by unfold Ask.wide; rw [h]; rfl
theorem wide_none {I : Ask} {n : Nat} (h : I.m = none) : I.wide n = I := by unfold Ask.wide; rw [h]; cases I; dsimp only at h; subst h; rfl
def sp_Asker_widen (K : PySem.W.Frag) (A : Ad) : Sp := fun vs H Q _ => ∃ (I : Ask) (log : List Ent) (n : Nat), vs = [.ref I.s, .int n] ∧ I.At K A H log ∧ ∀ H', Stp [I.s] H H' → (I.wide n).At K A H' log → Q .non H'
theorem ok_Asker_widen {P : Program} {w : World} {K : PySem.W.Frag} {mg : Str → Option Value} {base : Heap} {A : Ad} {f : Addr} {fd : FuncData} (F : Fun K "widen" "Asker.widen" s_Asker_widen f fd) (T : Txt K mg A)  : FnOk P w K mg base CX0 1 f fd ["self", "more"] (sp_Asker_widen K A) := by
  refine F.ok sc_Asker_widen (fun vs H Q E h => by obtain ⟨_, _, _, rfl, _⟩ := h; rfl) (fun cdv A' outer s H vs Q E hr h => ?_)
  obtain ⟨I, log, n, rfl, hA, k⟩ := h
  refine ⟨_, (pss_one (ps_if (pt_cmpR SH.oNotN (SH.pe_fldF T.cl_Asker T.na_Asker_most (pv 0)) pe_non (nomark _)) (pss_one (SH.ps_fldaugF T.cl_Asker T.na_Asker_most (pv 0) (pv 1) SH.in_add')) pss_nil)), ?_⟩
  walk_at "begin"
  have hA0 := hA
  obtain ⟨hs, hr, ⟨evs, hl, hev⟩, hu, rk, d1, d2, few, rows, bd⟩ := hA
  unfold AskM at hs
  walk_at "rd"
  cases hm : I.m with
  | none =>
    rw [hm] at hs
    rw [show (!decide (mV none = V.non)) = false by simp [mV], if_neg (by simp)]
    walk_at "rd"
    refine k H (.refl _ _) ?_
    rw [wide_none hm]
    exact hA0
  | some m =>
    rw [hm] at hs
    rw [show (!decide (mV (some m) = V.non)) = true by simp [mV], if_pos rfl]
    unfold mV at hs
    walk_at "rd"
    have S : Stp [I.s] H (upd H I.s (.ins A.Asker I.dx [("row", .ref I.r), ("rule", .ref I.u), ("most", .int ((m : Int) + (n : Int))), ("asked", .int log.length), ("log", .ref I.l)])) := (Stp.refl _ _).putI (by simp) hs
    have nsl : I.s ≠ I.l := ne_of hs hl (by intro z; cases z)
    have nsr : I.s ≠ I.r := ne_of hs hr (by intro z; cases z)
    refine k _ S ⟨?_, S.keep1 hr nsr.symm, ⟨evs, S.keep1 hl nsl.symm, isl_stpM S hev⟩, S.keep1 hu d1.symm, rk.stp S, d1, d2, few, rows, fun m' e => ?_⟩
    · show upd H I.s _ I.s = some (.ins A.Asker I.dx (AskM I.r (.ref I.u) (I.wide n).m log.length I.l))
      rw [upd_same, wide_some hm]
      have e : mV (some (m + n)) = .int ((m : Int) + (n : Int)) := by unfold mV; congr 1
      unfold AskM
      rw [e]
    · rw [wide_some hm] at e
      cases e
      have := bd m hm
      omega
def sp_Asker_many (K : PySem.W.Frag) (A : Ad) : Sp := fun vs H Q _ => ∃ (I : Ask) (log : List Ent), vs = [.ref I.s] ∧ I.At K A H log ∧ Q (.int I.n) H
theorem ok_Asker_many {P : Program} {w : World} {K : PySem.W.Frag} {mg : Str → Option Value} {base : Heap} {A : Ad} {f : Addr} {fd : FuncData} (F : Fun K "many" "Asker.many" s_Asker_many f fd) (T : Txt K mg A)  : FnOk P w K mg base CX0 1 f fd ["self"] (sp_Asker_many K A) := by
  refine F.ok sc_Asker_many (fun vs H Q E h => by obtain ⟨_, _, rfl, _⟩ := h; rfl) (fun cdv A' outer s H vs Q E hr h => ?_)
  obtain ⟨I, log, rfl, hA, k⟩ := h
  refine ⟨_, (pss_one (ps_ret (pe_callB SH.cLen (by rfl) T.z_len (by decide +kernel) (pa_cons (SH.pe_fldF T.cl_Asker T.na_Asker_row (pv 0)) pa_nil)))), ?_⟩
  walk_at "begin"
  have hn := hA.n_row
  obtain ⟨hs, hr, _⟩ := hA
  unfold AskM at hs
  walk_at "rd"
  rw [hn]
  exact k

def sp_Asker___init__ (K : PySem.W.Frag) (A : Ad) : Sp := fun vs H Q _ => ∃ (s b : Addr) (u : V) (row : List V) (m : Option Nat), vs = [.ref s, .ref b, u, mV m] ∧ (∃ dx, H s = some (.ins A.Asker dx [])) ∧ (SqL K H b row ∧ row.length ≤ 100000) ∧
  ∀ dx r l H', H r = none → H l = none → l ≠ r → s ≠ r → s ≠ l → Stp [s] H H' → H' s = some (.ins A.Asker dx (AskM r u m 0 l)) → H' r = some (.lst row) → H' l = some (.lst []) → Q .non H'
theorem ok_Asker___init__ {P : Program} {w : World} {K : PySem.W.Frag} {mg : Str → Option Value} {base : Heap} {A : Ad} {f : Addr} {fd : FuncData} (F : FunD K "__init__" "Asker.__init__" (defArgs s_Asker___init__) (defBody s_Asker___init__) (defScope s_Asker___init__) [.non] [] f fd) (T : Txt K mg A)  : FnOk P w K mg base CX0 1 f fd ["self", "row", "rule", "most"] (sp_Asker___init__ K A) := by
  refine SH.funD_ok F sc_Asker___init__ (fun vs H Q E h => by obtain ⟨_, _, _, _, _, rfl, _⟩ := h; rfl) (fun cdv A' outer s H vs Q E hr h => ?_)
  obtain ⟨s', b, u, row, m, rfl, ⟨dx, hs⟩, ⟨hb, hl⟩, k⟩ := h
  refine ⟨_, (pss_cons (SH.ps_fldF T.cl_Asker T.na_Asker_row (pv 0) (pe_callTy SH.cListOf (by rfl) T.z_list (by decide +kernel) (pa_cons (pv 1) pa_nil)) rfl)
        (pss_cons (SH.ps_fldF T.cl_Asker T.na_Asker_rule (pv 0) (pv 2) rfl)
        (pss_cons (SH.ps_fldF T.cl_Asker T.na_Asker_most (pv 0) (pv 3) rfl)
        (pss_cons (SH.ps_fldF T.cl_Asker T.na_Asker_asked (pv 0) pe_int rfl)
        (pss_one (SH.ps_fldF T.cl_Asker T.na_Asker_log (pv 0) (pe_lst pa_nil) rfl)))))), ?_⟩
  walk_at "begin"
  walk_at "rd"
  intro r hr
  have nsr : s' ≠ r := ne_of_none hs hr
  walk_at "rd"
  intro l hl2
  have hl0 : H l = none := (upd_free (upd_free (upd_free (upd_free (upd_free hl2).1).1).1).1).1
  have nsl : s' ≠ l := ne_of_none hs hl0
  have nlr : l ≠ r := fun e => by subst e; simp [upd_ne nsr.symm, upd_same] at hl2
  walk_at "rd"
  refine k dx r l _ hr hl0 nlr nsr nsl ?_ upd_same ?_ ?_
  · exact ((((((Stp.refl [s'] H).new hr).putI (by simp) (upd_old hs hr)).putI (by simp) upd_same).putI (by simp) upd_same).putI (by simp) upd_same).new hl2 |>.putI (by simp) (upd_old upd_same hl2)
  · rw [upd_ne nsr.symm, upd_ne nlr.symm, upd_ne nsr.symm, upd_ne nsr.symm, upd_ne nsr.symm, upd_ne nsr.symm]; exact upd_same
  · rw [upd_ne nsl.symm]; exact upd_same
theorem Ask.At.fresh {I : Ask} {K : PySem.W.Frag} {A : Ad} {H : Hp} {log : List Ent} (h : I.At K A H log) {b : Addr} (hb : H b = none) : b ∉ I.M := by
  obtain ⟨evs, h2, _⟩ := h.hl
  simp only [Ask.M, List.mem_cons, List.not_mem_nil, or_false, not_or]
  exact ⟨(ne_of_none h.hs hb).symm, (ne_of_none h2 hb).symm⟩
theorem Ask.At.freshO {I : Ask} {K : PySem.W.Frag} {A : Ad} {H : Hp} {log : List Ent} (h : I.At K A H log) {b : Addr} (hb : H b = none) : b ∉ I.own := by
  obtain ⟨evs, h2, _⟩ := h.hl
  simp only [Ask.own, List.mem_cons, List.not_mem_nil, or_false, not_or]
  exact ⟨(ne_of_none h.hs hb).symm, (ne_of_none h2 hb).symm, (ne_of_none h.hr hb).symm, (ne_of_none h.hu hb).symm⟩
/-! ### the spot of a place in an order, by halving -/
inductive Halv (ord : List Nat) (place : Nat) : Nat → Nat → List Ent → Nat → Prop
  | done (low : Nat) : Halv ord place low low [] low
  | up {low high o : Nat} {es : List Ent} {spot : Nat} (h : low < high) (ho : ord[(low + high) / 2]? = some o) (k : Halv ord place ((low + high) / 2 + 1) high es spot) : Halv ord place low high (⟨max o place, min o place, decide (place < o)⟩ :: es) spot
  | down {low high o : Nat} {es : List Ent} {spot : Nat} (h : low < high) (ho : ord[(low + high) / 2]? = some o) (k : Halv ord place low ((low + high) / 2) es spot) : Halv ord place low high (⟨max o place, min o place, !decide (place < o)⟩ :: es) spot
/-! ### each way has a full run, whatever is told; and its first ask -/
theorem Halv.total (or : List Ent → Nat → Nat → Bool) {ord : List Nat} {place : Nat} : ∀ (m low high : Nat) (log : List Ent), high - low = m → low ≤ high → high ≤ ord.length → ∃ es r, Halv ord place low high es r ∧ Told or log es := by
  intro m
  induction m using Nat.strongRecOn with
  | _ m ih =>
    intro low high log hm h1 h2
    by_cases h : low < high
    · have hmid : (low + high) / 2 < ord.length := by omega
      have ho : ord[(low + high) / 2]? = some ord[(low + high) / 2] := List.getElem?_eq_getElem hmid
      generalize ord[(low + high) / 2] = o at ho
      by_cases c : or log (max o place) (min o place) = decide (place < o)
      · obtain ⟨es, r, hk, hT⟩ := ih (high - ((low + high) / 2 + 1)) (by omega) ((low + high) / 2 + 1) high (log ++ [⟨max o place, min o place, decide (place < o)⟩]) rfl (by omega) h2
        exact ⟨_, r, .up h ho hk, c.symm, hT⟩
      · have c' : or log (max o place) (min o place) = !decide (place < o) := by
          cases e : or log (max o place) (min o place) <;> cases d : decide (place < o) <;> simp_all
        obtain ⟨es, r, hk, hT⟩ := ih ((low + high) / 2 - low) (by omega) low ((low + high) / 2) (log ++ [⟨max o place, min o place, !decide (place < o)⟩]) rfl (by omega) (by omega)
        exact ⟨_, r, .down h ho hk, c'.symm, hT⟩
    · obtain rfl : low = high := by omega
      exact ⟨[], low, .done low, True.intro⟩
theorem Halv.first {ord : List Nat} {place low high r o : Nat} {es : List Ent} (h : Halv ord place low high es r) (hlt : low < high) (ho : ord[(low + high) / 2]? = some o) : ∃ c es3, es = (⟨max o place, min o place, c⟩ : Ent) :: es3 := by
  cases h with
  | done => omega
  | up _ ho2 k => rw [ho] at ho2; cases ho2; exact ⟨_, _, rfl⟩
  | down _ ho2 k => rw [ho] at ho2; cases ho2; exact ⟨_, _, rfl⟩
def sp_spot_of (K : PySem.W.Frag) (A : Ad) : Sp := fun vs H Q E => ∃ (I : Ask) (log : List Ent) (a : Addr) (ord : List Nat) (place : Nat), vs = [.ref I.s, .ref a, .int place] ∧ (I.At K A H log ∧ SqL K H a (nv ord) ∧ a ∉ I.M ∧ place < I.n ∧ (∀ o ∈ ord, o < I.n ∧ o ≠ place) ∧ log.length + I.pre.length + ord.length < 100000) ∧
  Stop I K A H log (fun es => ∃ spot, Halv ord place 0 ord.length es spot) E ∧
  ∀ H' spot es, Told I.or log es → Halv ord place 0 ord.length es spot → Stp I.M H H' → I.At K A H' (log ++ es) → Q (.int (spot : Nat)) H'
theorem ok_spot_of {P : Program} {w : World} {K : PySem.W.Frag} {mg : Str → Option Value} {base : Heap} {A : Ad} {f : Addr} {fd : FuncData} (F : Fun K "spot_of" "spot_of" s_spot_of f fd) (T : Txt K mg A) (M_Asker_ahead : SH.CalM P w K mg base (L2N.CX P w) 3 A.Asker "ahead" [] (sp_Asker_ahead K A)) : FnOk P w K mg base (L2N.CX P w) 4 f fd ["asker", "order", "place"] (sp_spot_of K A) := by
  refine SH.okN F sc_spot_of (fun vs H Q E h => by obtain ⟨_, _, _, _, _, rfl, _⟩ := h; rfl) (fun cdv A' outer s H vs Q E hr h => ?_)
  obtain ⟨I, log, a, ord, place, rfl, ⟨hA, hS, hnM, hp, hord, hlog⟩, kx, k⟩ := h
  refine ⟨_, (pss_cons (ps_set (i := 3) sc_spot_of.nd rfl (Or.inl rfl) pe_int)
        (pss_cons (ps_set (i := 4) sc_spot_of.nd rfl (Or.inl rfl) (pe_callB SH.cLen (by rfl) T.z_len (by decide +kernel) (pa_cons (pv 1) pa_nil)))
        (pss_cons (ps_while (L2.passes_of rfl) (pt_cmpR (SH.oLt hr.units0) (pv 3) (pv 4) (nomark _)) (pss_cons (ps_set (i := 5) sc_spot_of.nd rfl (Or.inl rfl) (pe_op SH.oDiv (pe_op SH.oAdd (pv 3) (pv 4)) pe_int))
        (pss_one (ps_if (pt_val (SH.pe_methF (pv 0) M_Asker_ahead hr (L2N.passes_call (L2N.takes_of rfl rfl rfl rfl) fun _ _ _ _ h => h) (pa_cons (pe_ix SH.ixA (pv 1) (pv 5) (fun _ _ => rfl)) (pa_cons (pv 2) pa_nil)))) (pss_one (ps_set (i := 3) sc_spot_of.nd rfl (Or.inl rfl) (pe_op SH.oAdd (pv 5) pe_int))) (pss_one (ps_set (i := 4) sc_spot_of.nd rfl (Or.inl rfl) (pv 5)))))))
        (pss_one (ps_ret (pv 3)))))), ?_⟩
  walk_at "begin"
  walk_at "rd"
  refine r_while (fun m σ H' => ∃ (low high : Nat) (es : List Ent) (v5 : Option V), m = high - low ∧ low ≤ high ∧ high ≤ ord.length ∧ es.length + (high - low) ≤ ord.length ∧ (∀ rest spot, Halv ord place low high rest spot → Halv ord place 0 ord.length (es ++ rest) spot) ∧
    Told I.or log es ∧ Stp I.M H H' ∧ I.At K A H' (log ++ es) ∧ σ = [some (.ref I.s), some (.ref a), some (.int place), some (.int low), some (.int high), v5])
    ⟨_, 0, ord.length, [], _, rfl, by omega, by omega, by simp, fun rest spot h => h, True.intro, .refl _ _, by rw [List.append_nil]; exact hA, rfl⟩ ?_
  rintro m σ H1 ⟨low, high, es, v5, rfl, h1, h2, h3, hH, hT, S, hA1, rfl⟩
  walk_at "rd"
  refine r_w (fun hlt => ?_) fun hlt => ?_
  · refine r_next_turn ?_
    walk_at "rd"
    have em : ((low : Int) + high) / 2 = (((low + high) / 2 : Nat) : Int) := by omega
    rw [em]
    have hm : (low + high) / 2 < ord.length := by omega
    have ho : ord[(low + high) / 2]? = some ord[(low + high) / 2] := List.getElem?_eq_getElem hm
    obtain ⟨o1, o2⟩ := hord _ (List.getElem_mem hm)
    generalize ord[(low + high) / 2] = o at ho o1 o2
    have hs1 := hA1.hs
    have hS1 := S.sql hS hnM
    walk_at "rd"
    refine v_ixLn (n := (low + high) / 2) (v := .int o) hS1 rfl (by unfold nv; rw [List.getElem?_map, ho]; rfl) ?_
    walk_at "rd"
    refine ⟨I, _, o, place, rfl, ⟨hA1, o1, hp, o2, by rw [List.length_append]; omega⟩, kx.ask S hT (by
      obtain ⟨rest, r, hb, hT'⟩ := Halv.total I.or (place := place) _ low high (log ++ es) rfl (by omega) h2
      obtain ⟨c, es3, rfl⟩ := hb.first (by omega) ho
      exact ⟨c, es3, hT', r, hH _ _ hb⟩), fun H2 said hsaid S2 hA2 => ?_⟩
    have hT2 := Told.app hT (Told.one (e := ⟨max o place, min o place, said⟩) hsaid)
    rw [List.append_assoc] at hA2
    walk_at "rd"
    refine r_w (fun hb => ?_) fun hb => ?_
    · walk_at "rd"
      refine ⟨high - ((low + high) / 2 + 1), by omega, (low + high) / 2 + 1, high, es ++ [⟨max o place, min o place, said⟩], _, rfl, by omega, h2, by rw [List.length_append, List.length_singleton]; omega, fun rest spot h => ?_, hT2, S.trans S2, hA2, rfl⟩
      rw [List.append_assoc, hb]
      exact hH _ _ (.up (by omega) ho h)
    · walk_at "rd"
      have hb' : said = !decide (place < o) := by cases said <;> cases hd : decide (place < o) <;> simp_all
      refine ⟨(low + high) / 2 - low, by omega, low, (low + high) / 2, es ++ [⟨max o place, min o place, said⟩], _, rfl, by omega, by omega, by rw [List.length_append, List.length_singleton]; omega, fun rest spot h => ?_, hT2, S.trans S2, hA2, rfl⟩
      rw [List.append_assoc, hb']
      exact hH _ _ (.down (by omega) ho h)
  · walk_at "rd"
    have e : low = high := by omega
    subst e
    have := hH [] low (.done low)
    rw [List.append_nil] at this
    exact k _ low es hT this S hA1
/-! ### orders by keys, and what halving finds -/
/-- o stands ahead of p -/
def Ahd (ks : List Int) (o p : Nat) : Prop := getE ks o < getE ks p ∨ (getE ks o = getE ks p ∧ o < p)
instance (ks : List Int) (o p : Nat) : Decidable (Ahd ks o p) := inferInstanceAs (Decidable (_ ∨ _))
theorem ahd_told {ks : List Int} {o p : Nat} (h : o ≠ p) : (decide (getE ks (max o p) < getE ks (min o p)) = decide (p < o)) ↔ Ahd ks o p := by
  unfold Ahd
  by_cases e : p < o
  · rw [Nat.max_eq_left (by omega), Nat.min_eq_right (by omega), decide_eq_true e]
    simp only [decide_eq_true_eq]
    omega
  · rw [Nat.max_eq_right (by omega), Nat.min_eq_left (by omega), decide_eq_false e]
    simp only [decide_eq_false_iff_not]
    omega
theorem Ahd.trans {ks : List Int} {a b c : Nat} (h : Ahd ks a b) (k : Ahd ks b c) : Ahd ks a c := by unfold Ahd at *; omega
theorem Ahd.asym {ks : List Int} {a b : Nat} (h : Ahd ks a b) : ¬ Ahd ks b a := by unfold Ahd at *; omega
theorem Ahd.tot {ks : List Int} {a b : Nat} (h : a ≠ b) : Ahd ks a b ∨ Ahd ks b a := by unfold Ahd; omega
theorem not_eq_ite {a b : Bool} (h : a = !b) : ¬ a = b := by cases a <;> cases b <;> simp_all
/-- what the halving tells: all before the spot stand ahead, all others don't -/
theorem Halv.spot {ks : List Int} {ord : List Nat} {place low high spot : Nat} {es : List Ent} (h : Halv ord place low high es spot) (hT : ∀ e ∈ es, e.c = decide (getE ks e.a < getE ks e.b)) (hne : ∀ o ∈ ord, o ≠ place)
    (hm : ∀ (i j : Nat) (a b : Nat), i < j → ord[i]? = some a → ord[j]? = some b → Ahd ks b place → Ahd ks a place) (h1 : low ≤ high) (h2 : high ≤ ord.length)
    (hlo : ∀ (i a : Nat), i < low → ord[i]? = some a → Ahd ks a place) (hhi : ∀ (i a : Nat), high ≤ i → ord[i]? = some a → ¬ Ahd ks a place) :
    spot ≤ ord.length ∧ (∀ (i a : Nat), i < spot → ord[i]? = some a → Ahd ks a place) ∧ (∀ (i a : Nat), spot ≤ i → ord[i]? = some a → ¬ Ahd ks a place) := by
  induction h with
  | done low => exact ⟨by omega, hlo, hhi⟩
  | @up low high o es spot h ho k ih =>
    have hA : Ahd ks o place := (ahd_told (hne o (List.mem_of_getElem? ho))).mp (hT _ (List.mem_cons_self ..)).symm
    refine ih (fun e he => hT e (by simp [he])) (by omega) h2 (fun i a hi ha => ?_) hhi
    by_cases e : i = (low + high) / 2
    · subst e; rw [ho] at ha; cases ha; exact hA
    · exact hm i _ a o (by omega) ha ho hA
  | @down low high o es spot h ho k ih =>
    have hA : ¬ Ahd ks o place := fun z => by
      have t : (!decide (place < o)) = decide (getE ks (max o place) < getE ks (min o place)) := hT _ (List.mem_cons_self ..)
      rw [(ahd_told (hne o (List.mem_of_getElem? ho))).mpr z] at t
      revert t
      cases decide (place < o) <;> decide
    refine ih (fun e he => hT e (by simp [he])) (by omega) (by omega) hlo (fun i a hi ha => ?_)
    by_cases e : i = (low + high) / 2
    · subst e; rw [ho] at ha; cases ha; exact hA
    · exact fun z => hA (hm _ i o a (by omega) ho ha z)
theorem filter_spot {α : Type} {p : α → Bool} {l : List α} {n : Nat} (h : n ≤ l.length) (h1 : ∀ (i : Nat) (a : α), i < n → l[i]? = some a → p a = true) (h2 : ∀ (i : Nat) (a : α), n ≤ i → l[i]? = some a → p a = false) : (l.filter p).length = n := by
  have e : l = l.take n ++ l.drop n := (List.take_append_drop n l).symm
  rw [e, List.filter_append]
  have a1 : (l.take n).filter p = l.take n := List.filter_eq_self.mpr fun a ha => by
    obtain ⟨i, hi, e⟩ := List.getElem_of_mem ha
    rw [List.length_take] at hi
    exact h1 i a (by omega) (by rw [← e, List.getElem_take]; exact List.getElem?_eq_getElem (by omega))
  have a2 : (l.drop n).filter p = [] := List.filter_eq_nil_iff.mpr fun a ha => by
    obtain ⟨i, hi, e⟩ := List.getElem_of_mem ha
    rw [List.length_drop] at hi
    rw [h2 (n + i) a (by omega) (by rw [← e, List.getElem_drop]; exact List.getElem?_eq_getElem (by omega))]
    simp
  rw [a1, a2, List.append_nil, List.length_take]
  omega
theorem bits_half {d : Nat} (h : 0 < d) : Builtin.Int.intBits (d : Int) = Builtin.Int.intBits ((d / 2 : Nat) : Int) + 1 := by
  unfold Builtin.Int.intBits
  rw [if_neg (by simp; omega)]
  have e1 : ((d : Nat) : Int).natAbs = d := by omega
  have e2 : ((d / 2 : Nat) : Int).natAbs = d / 2 := by omega
  rw [e1, e2]
  by_cases h2 : d / 2 = 0
  · have : d = 1 := by omega
    subst this
    rfl
  · rw [if_neg (by simp; omega), Nat.log2_def d, if_pos (by omega)]
theorem bits_mono {a b : Nat} (h : a ≤ b) : Builtin.Int.intBits (a : Int) ≤ Builtin.Int.intBits (b : Int) := by
  induction b using Nat.strongRecOn generalizing a with
  | _ b ih =>
    by_cases ha : a = 0
    · subst ha; simp [Builtin.Int.intBits]
    · rw [bits_half (by omega : 0 < a), bits_half (by omega : 0 < b)]
      have := ih (b / 2) (by omega) (a := a / 2) (by omega)
      omega
/-- at most as many asks as the number of places has bits -/
theorem Halv.few {ord : List Nat} {place low high spot : Nat} {es : List Ent} (h : Halv ord place low high es spot) : es.length ≤ Builtin.Int.intBits ((high - low : Nat) : Int) := by
  induction h with
  | done low => simp
  | @up low high o es spot h ho k ih =>
    rw [bits_half (by omega : 0 < high - low), List.length_cons]
    have := bits_mono (show high - ((low + high) / 2 + 1) ≤ (high - low) / 2 by omega)
    omega
  | @down low high o es spot h ho k ih =>
    rw [bits_half (by omega : 0 < high - low), List.length_cons]
    have := bits_mono (show (low + high) / 2 - low ≤ (high - low) / 2 by omega)
    omega
theorem Halv.inv {ord : List Nat} {place low high spot : Nat} {e : Ent} {es : List Ent} (h : Halv ord place low high (e :: es) spot) : low < high ∧ ∃ o, ord[(low + high) / 2]? = some o ∧ e.a = max o place ∧ e.b = min o place ∧
    ((e.c = decide (place < o) ∧ Halv ord place ((low + high) / 2 + 1) high es spot) ∨ (e.c = (!decide (place < o)) ∧ Halv ord place low ((low + high) / 2) es spot)) := by
  cases h with
  | up h ho k => exact ⟨h, _, ho, rfl, rfl, .inl ⟨rfl, k⟩⟩
  | down h ho k => exact ⟨h, _, ho, rfl, rfl, .inr ⟨rfl, k⟩⟩
theorem Halv.nil {ord : List Nat} {place low high spot : Nat} (h : Halv ord place low high [] spot) : low = high ∧ spot = low := by
  cases h; exact ⟨rfl, rfl⟩
/-! ### mathematics -/
/-- the grade -/
structure Grd (many first middle beyond : Int) (r : Nat) : Prop where
  one : 1 ≤ r
  bits : r ≤ Builtin.Int.intBits (many - 1)
  like : ∀ k : Nat, 1 ≤ k → k < r → (first + middle) * 2 ^ k / (2 * many) = (middle + beyond) * 2 ^ k / (2 * many)
  part : (first + middle) * 2 ^ r / (2 * many) ≠ (middle + beyond) * 2 ^ r / (2 * many)
theorem bits_lt {n : Int} (h : 1 ≤ n) : n < 2 ^ Builtin.Int.intBits n := by
  unfold Builtin.Int.intBits
  rw [if_neg (by simp; omega)]
  have h1 : n.natAbs < 2 ^ (n.natAbs.log2 + 1) := Nat.lt_log2_self
  have h2 : n = (n.natAbs : Int) := by omega
  rw [h2]
  have h3 : ((n.natAbs : Nat) : Int) < ((2 ^ (n.natAbs.log2 + 1) : Nat) : Int) := by exact_mod_cast h1
  simpa using h3
theorem bits_le {n : Int} {k : Nat} (h : n < 2 ^ k) (h0 : 0 ≤ n) : Builtin.Int.intBits n ≤ k := by
  unfold Builtin.Int.intBits
  by_cases e : n = 0
  · subst e; simp
  · rw [if_neg (by simp; omega)]
    have h2 : n = (n.natAbs : Int) := by omega
    have h3 : n.natAbs < 2 ^ k := by
      rw [h2] at h
      exact_mod_cast h
    have h4 : n.natAbs ≠ 0 := by omega
    exact (Nat.log2_lt h4).mpr h3
theorem part_at {many first middle beyond : Int} (h0 : 0 ≤ first) (h1 : first < middle) (h2 : middle < beyond) (h3 : beyond ≤ many) {k : Nat} (hk : many ≤ 2 ^ k) :
    (first + middle) * 2 ^ k / (2 * many) ≠ (middle + beyond) * 2 ^ k / (2 * many) := by
  intro e
  have hm : 0 < 2 * many := by omega
  generalize hp : (2 : Int) ^ k = p at hk e
  have q1 : (first + middle) * p + 2 * many ≤ (middle + beyond) * p := by
    have : (middle + beyond) * p = (first + middle) * p + (beyond - first) * p := by rw [← Int.add_mul]; congr 1; omega
    rw [this]
    have : 2 * many ≤ (beyond - first) * p := by
      have a1 : 2 * many ≤ 2 * p := by omega
      have a2 : 2 * p ≤ (beyond - first) * p := Int.mul_le_mul_of_nonneg_right (by omega) (by omega)
      omega
    omega
  have d1 := Int.ediv_mul_add_emod ((first + middle) * p) (2 * many)
  have d2 := Int.ediv_mul_add_emod ((middle + beyond) * p) (2 * many)
  have m1 := Int.emod_lt_of_pos ((middle + beyond) * p) hm
  have m2 := Int.emod_nonneg ((first + middle) * p) (by omega : 2 * many ≠ 0)
  rw [e] at d1
  omega
theorem three {x p m : Int} (hm : 0 < m) : (3 * x) * p / (2 * (3 * m)) = x * p / (2 * m) := by
  rw [show 3 * x * p = 3 * (x * p) by rw [Int.mul_assoc], show 2 * (3 * m) = 3 * (2 * m) by omega]
  exact Int.mul_ediv_mul_of_pos _ _ (by omega)
theorem Grd.same {many first middle beyond : Int} (hm : 0 < many) {r q : Nat} (a : Grd many first middle beyond r) (b : Grd (3 * many) (3 * first) (3 * middle) (3 * beyond) q) : q = r := by
  have e : ∀ k : Nat, (3 * first + 3 * middle) * 2 ^ k / (2 * (3 * many)) = (first + middle) * 2 ^ k / (2 * many) := fun k => by rw [← Int.mul_add]; exact three hm
  have e' : ∀ k : Nat, (3 * middle + 3 * beyond) * 2 ^ k / (2 * (3 * many)) = (middle + beyond) * 2 ^ k / (2 * many) := fun k => by rw [← Int.mul_add]; exact three hm
  rcases Nat.lt_trichotomy q r with h | h | h
  · have x := a.like q b.one h
    exact (b.part (by rw [e, e']; exact x)).elim
  · exact h
  · have x := b.like r a.one h
    rw [e, e'] at x
    exact (a.part x).elim
theorem Grd.uniq {many first middle beyond : Int} {r q : Nat} (a : Grd many first middle beyond r) (b : Grd many first middle beyond q) : r = q := by
  rcases Nat.lt_trichotomy q r with h | h | h
  · exact (b.part (a.like q b.one h)).elim
  · exact h.symm
  · exact (a.part (b.like r a.one h)).elim
theorem mul_ok {i j : Int} {a b : Nat} (ha : i.natAbs < 2 ^ a) (hb : j.natAbs < 2 ^ b) (h : a + b ≤ 134217728) : IntMulOk i j := (mulx_ok ha hb h).ok
theorem mul2 (j : Int) : IntMulOk 2 j := .of_left (by decide)
theorem mul3 (j : Int) : IntMulOk 3 j := .of_left (by decide)
theorem nat_lt {n : Int} {k : Nat} (h0 : 0 ≤ n) (h : n < 2 ^ k) : n.natAbs < 2 ^ k := by
  have h2 : n = (n.natAbs : Int) := by omega
  rw [h2] at h
  exact_mod_cast h
theorem pow_le {a b : Nat} (h : a ≤ b) : (2 : Int) ^ a ≤ 2 ^ b := by
  have : (2 : Nat) ^ a ≤ 2 ^ b := Nat.pow_le_pow_right (by decide) h
  exact_mod_cast this
theorem pow_pos' (a : Nat) : (0 : Int) < 2 ^ a := Int.pow_pos (by decide)
theorem mul_lt_pow {x : Int} {a t b : Nat} (h0 : 0 ≤ x) (h : x < 2 ^ a) (ht : t ≤ b) : x * 2 ^ t < 2 ^ (a + b) := by
  have h1 : x * 2 ^ t < 2 ^ a * 2 ^ t := Int.mul_lt_mul_of_pos_right h (pow_pos' t)
  have h2 : (2 : Int) ^ a * 2 ^ t ≤ 2 ^ a * 2 ^ b := Int.mul_le_mul_of_nonneg_left (pow_le ht) (Int.le_of_lt (pow_pos' a))
  have h3 : (2 : Int) ^ a * 2 ^ b = 2 ^ (a + b) := (Int.pow_add _ _ _).symm
  omega

/-! ### promises -/
def sp_grade (K : PySem.W.Frag) (A : Ad) : Sp := fun vs H Q _ => ∃ (many first middle beyond : Int), vs = [.int many, .int first, .int middle, .int beyond] ∧ (0 ≤ first ∧ first < middle ∧ middle < beyond ∧ beyond ≤ many ∧ many < 2 ^ 220) ∧
  ∀ r : Nat, Grd many first middle beyond r → Q (.int r) H
theorem ok_grade {P : Program} {w : World} {K : PySem.W.Frag} {mg : Str → Option Value} {base : Heap} {A : Ad} {f : Addr} {fd : FuncData} (F : Fun K "grade" "grade" s_grade f fd) (T : Txt K mg A)  : FnOk P w K mg base CX0 1 f fd ["many", "first", "middle", "beyond"] (sp_grade K A) := by
  refine F.ok sc_grade (fun vs H Q E h => by obtain ⟨_, _, _, _, rfl, _⟩ := h; rfl) (fun cdv A' outer s H vs Q E hr h => ?_)
  obtain ⟨many, first, middle, beyond, rfl, ⟨h0, h1, h2, h3, h4⟩, k⟩ := h
  refine ⟨_, (pss_cons (ps_set (i := 4) sc_grade.nd rfl (Or.inl rfl) (pe_op SH.oMul pe_int (pe_op SH.oAdd (pv 1) (pv 2))))
        (pss_cons (ps_set (i := 5) sc_grade.nd rfl (Or.inl rfl) (pe_op SH.oMul pe_int (pe_op SH.oAdd (pv 2) (pv 3))))
        (pss_cons (ps_set (i := 6) sc_grade.nd rfl (Or.inl rfl) pe_int)
        (pss_cons (ps_while PassesOwn.never (pt_cmpR (SH.oEq hr.units) (pe_op SH.oDiv (pv 4) (pe_op SH.oMul pe_int (pv 0))) (pe_op SH.oDiv (pv 5) (pe_op SH.oMul pe_int (pv 0))) (nomark _)) (pss_cons (ps_set (i := 4) sc_grade.nd rfl (Or.inl rfl) (pe_op SH.oShl (pv 4) pe_int))
        (pss_cons (ps_set (i := 5) sc_grade.nd rfl (Or.inl rfl) (pe_op SH.oShl (pv 5) pe_int))
        (pss_one (ps_aug (i := 6) sc_grade.nd rfl (Or.inl rfl) pe_int SH.ip_add')))))
        (pss_one (ps_ret (pv 6))))))), ?_⟩
  walk_at "begin"
  walk_at "rd"
  refine SH.r_while (fun m σ H' => ∃ t : Nat, H' = H ∧ m + t = 222 ∧ (∀ k : Nat, 1 ≤ k → k ≤ t → (first + middle) * 2 ^ k / (2 * many) = (middle + beyond) * 2 ^ k / (2 * many)) ∧
    σ = [some (.int many), some (.int first), some (.int middle), some (.int beyond), some (.int (2 * (first + middle) * 2 ^ t)), some (.int (2 * (middle + beyond) * 2 ^ t)), some (.int (1 + t))]) ⟨222, 0, rfl, rfl, ?_, ?_⟩ ?_
  · intro k h1 h2; omega
  · simp
  rintro m σ H' ⟨t, rfl, hm, like, rfl⟩
  have ht : t < Builtin.Int.intBits (many - 1) := by
    refine Nat.lt_of_not_le fun z => ?_
    have b1 := bits_lt (n := many - 1) (by omega)
    have b2 := pow_le z
    have hp := part_at h0 h1 h2 h3 (k := t) (by omega)
    by_cases e : t = 0
    · subst e
      have q : many - 1 < 1 := by simpa using Int.lt_of_lt_of_le b1 b2
      omega
    · exact hp (like t (by omega) (Nat.le_refl _))
  have hb : Builtin.Int.intBits (many - 1) ≤ 220 := bits_le (by omega) (by omega)
  have e2 : ∀ x : Int, 2 * x * 2 ^ t = x * 2 ^ (t + 1) := fun x => by rw [Int.pow_succ, Int.mul_comm 2 x, Int.mul_assoc, Int.mul_comm 2 (2 ^ t)]
  have sz : ∀ x : Int, 0 ≤ x → x ≤ 2 * many → (2 * x * 2 ^ t).natAbs < 2 ^ (222 + 220) := fun x a b => by
    refine nat_lt (Int.mul_nonneg (by omega) (Int.le_of_lt (pow_pos' t))) ?_
    exact mul_lt_pow (by omega) (by omega) (by omega)
  have s1 := sz (first + middle) (by omega) (by omega)
  have s2 := sz (middle + beyond) (by omega) (by omega)
  have lg : (2 * many).natAbs.log2 < 9000 := PySem.Flt.log2_lt_of (by decide) (Nat.lt_trans (nat_lt (n := 2 * many) (k := 221) (by omega) (by omega)) (Nat.pow_lt_pow_right (by decide) (by decide)))
  walk_at "rd"
  refine SH.v_divW (by omega) lg ?_
  walk_at "rd"
  refine SH.v_divW (by omega) lg ?_
  walk_at "rd"
  have ea : 2 * (first + middle) * 2 ^ t / (2 * many) = (first + middle) * 2 ^ (t + 1) / (2 * many) := by rw [e2]
  have eb : 2 * (middle + beyond) * 2 ^ t / (2 * many) = (middle + beyond) * 2 ^ (t + 1) / (2 * many) := by rw [e2]
  rw [ea, eb]
  refine SH.r_w (fun hc => ?_) (fun hc => ?_)
  · refine SH.r_next_turn ?_
    walk_at "rd"
    refine SH.v_shl (shl_ok (j := 1) s1 (by decide)) ?_
    walk_at "rd"
    refine SH.v_shl (shl_ok (j := 1) s2 (by decide)) ?_
    walk_at "rd"
    refine ⟨m - 1, by omega, t + 1, rfl, by omega, ?_, ?_⟩
    · intro k hk1 hk2
      by_cases e : k = t + 1
      · subst e; exact hc
      · exact like k hk1 (by omega)
    · have e3 : ∀ x : Int, x * 2 ^ t * 2 ^ (1 : Int).toNat = x * 2 ^ (t + 1) := fun x => by rw [Int.pow_succ, Int.mul_assoc]; rfl
      rw [e3, e3]
      congr 7
  · walk_at "rd"
    have := k (t + 1) ⟨by omega, ht, fun k a b => like k a (by omega), hc⟩
    rw [show (1 : Int) + (t : Int) = ((t + 1 : Nat) : Int) by omega]
    exact this
/-! ### leaps -/
/-- the halving above lo - 1 and up to high -/
inductive HB (ord : List Nat) (place : Nat) : Nat → Nat → List Ent → Nat → Prop
  | done (lo : Nat) : HB ord place lo lo [] lo
  | up {lo high o : Nat} {es : List Ent} {r : Nat} (h : lo < high) (ho : ord[(lo + high - 1) / 2]? = some o) (k : HB ord place ((lo + high - 1) / 2 + 1) high es r) : HB ord place lo high (⟨max o place, min o place, decide (place < o)⟩ :: es) r
  | down {lo high o : Nat} {es : List Ent} {r : Nat} (h : lo < high) (ho : ord[(lo + high - 1) / 2]? = some o) (k : HB ord place lo ((lo + high - 1) / 2) es r) : HB ord place lo high (⟨max o place, min o place, !decide (place < o)⟩ :: es) r
theorem HB.bd {ord : List Nat} {place lo high r : Nat} {es : List Ent} (h : HB ord place lo high es r) : lo ≤ r ∧ r ≤ high ∧ es.length ≤ high - lo := by
  induction h with
  | done lo => exact ⟨Nat.le_refl _, Nat.le_refl _, by simp⟩
  | up h ho k ih => exact ⟨by omega, by omega, by rw [List.length_cons]; omega⟩
  | down h ho k ih => exact ⟨by omega, by omega, by rw [List.length_cons]; omega⟩
/-- a leap: by steps that double, then by halving -/
inductive LP (ord : List Nat) (place first : Nat) : Nat → Nat → List Ent → Nat → Prop
  | more {lo step o : Nat} {es : List Ent} {r : Nat} (h : first + step ≤ ord.length) (ho : ord[first + step - 1]? = some o) (k : LP ord place first (first + step) (step * 2) es r) : LP ord place first lo step (⟨max o place, min o place, decide (place < o)⟩ :: es) r
  | stop {lo step o : Nat} {es : List Ent} {r : Nat} (h : first + step ≤ ord.length) (ho : ord[first + step - 1]? = some o) (k : HB ord place lo (first + step - 1) es r) : LP ord place first lo step (⟨max o place, min o place, !decide (place < o)⟩ :: es) (r - first)
  | over {lo step : Nat} {es : List Ent} {r : Nat} (h : ord.length < first + step) (k : HB ord place lo ord.length es r) : LP ord place first lo step es (r - first)
/-! ### whatever is told, a way comes to an end: the asks that it would make -/
theorem HB.total (or : List Ent → Nat → Nat → Bool) {ord : List Nat} {place : Nat} : ∀ (m lo high : Nat) (log : List Ent), high - lo = m → lo ≤ high → high ≤ ord.length → ∃ es r, HB ord place lo high es r ∧ Told or log es := by
  intro m
  induction m using Nat.strongRecOn with
  | ind m ih =>
    intro lo high log hm h1 h2
    by_cases h : lo < high
    · have hi : (lo + high - 1) / 2 < ord.length := by omega
      have ho := List.getElem?_eq_getElem hi
      generalize ord[(lo + high - 1) / 2] = o at ho
      by_cases hc : or log (max o place) (min o place) = decide (place < o)
      · obtain ⟨es, r, k, hT⟩ := ih (high - ((lo + high - 1) / 2 + 1)) (by omega) ((lo + high - 1) / 2 + 1) high (log ++ [⟨max o place, min o place, decide (place < o)⟩]) rfl (by omega) h2
        exact ⟨_, r, .up h ho k, hc.symm, hT⟩
      · obtain ⟨es, r, k, hT⟩ := ih ((lo + high - 1) / 2 - lo) (by omega) lo ((lo + high - 1) / 2) (log ++ [⟨max o place, min o place, !decide (place < o)⟩]) rfl (by omega) (by omega)
        exact ⟨_, r, .down h ho k, by show (!decide (place < o)) = _; cases hd : decide (place < o) <;> cases hz : or log (max o place) (min o place) <;> simp_all, hT⟩
    · obtain rfl : lo = high := by omega
      exact ⟨[], lo, .done lo, True.intro⟩
theorem LP.total (or : List Ent → Nat → Nat → Bool) {ord : List Nat} {place first : Nat} : ∀ (m lo step : Nat) (log : List Ent), ord.length + 1 - (first + step) = m → 1 ≤ step → lo < first + step → lo ≤ ord.length → ∃ es r, LP ord place first lo step es r ∧ Told or log es := by
  intro m
  induction m using Nat.strongRecOn with
  | ind m ih =>
    intro lo step log hm h0 h1 h2
    by_cases h : first + step ≤ ord.length
    · have hi : first + step - 1 < ord.length := by omega
      have ho := List.getElem?_eq_getElem hi
      generalize ord[first + step - 1] = o at ho
      by_cases hc : or log (max o place) (min o place) = decide (place < o)
      · obtain ⟨es, r, k, hT⟩ := ih (ord.length + 1 - (first + step * 2)) (by omega) (first + step) (step * 2) (log ++ [⟨max o place, min o place, decide (place < o)⟩]) rfl (by omega) (by omega) h
        exact ⟨_, r, .more h ho k, hc.symm, hT⟩
      · obtain ⟨es, r, k, hT⟩ := HB.total or (ord := ord) (place := place) _ lo (first + step - 1) (log ++ [⟨max o place, min o place, !decide (place < o)⟩]) rfl (by omega) (by omega)
        exact ⟨_, _, .stop h ho k, by show (!decide (place < o)) = _; cases hd : decide (place < o) <;> cases hz : or log (max o place) (min o place) <;> simp_all, hT⟩
    · obtain ⟨es, r, k, hT⟩ := HB.total or (ord := ord) (place := place) _ lo ord.length log rfl h2 (Nat.le_refl _)
      exact ⟨es, _, .over (by omega) k, hT⟩
theorem HB.first {ord : List Nat} {place lo high r o : Nat} {es : List Ent} (h : HB ord place lo high es r) (hl : lo < high) (ho : ord[(lo + high - 1) / 2]? = some o) : ∃ c es3, es = (⟨max o place, min o place, c⟩ : Ent) :: es3 := by
  cases h with
  | done => omega
  | up h ho2 k => rw [ho] at ho2; cases ho2; exact ⟨_, _, rfl⟩
  | down h ho2 k => rw [ho] at ho2; cases ho2; exact ⟨_, _, rfl⟩
theorem LP.first {ord : List Nat} {place first lo step r o : Nat} {es : List Ent} (h : LP ord place first lo step es r) (hl : first + step ≤ ord.length) (ho : ord[first + step - 1]? = some o) : ∃ c es3, es = (⟨max o place, min o place, c⟩ : Ent) :: es3 := by
  cases h with
  | more h ho2 k => rw [ho] at ho2; cases ho2; exact ⟨_, _, rfl⟩
  | stop h ho2 k => rw [ho] at ho2; cases ho2; exact ⟨_, _, rfl⟩
  | over h k => omega
def sp_halved_between (K : PySem.W.Frag) (A : Ad) : Sp := fun vs H Q E => ∃ (I : Ask) (log : List Ent) (a : Addr) (ord : List Nat) (place lo high : Nat) (low : Int), vs = [.ref I.s, .ref a, .int place, .int low, .int high] ∧ (I.At K A H log ∧ SqL K H a (nv ord) ∧ a ∉ I.M ∧ place < I.n ∧ (∀ o ∈ ord, o < I.n ∧ o ≠ place) ∧ low = (lo : Int) - 1 ∧ lo ≤ high ∧ high ≤ ord.length ∧ log.length + I.pre.length + (high - lo) < 100000) ∧
  Stop I K A H log (fun es => ∃ r, HB ord place lo high es r) E ∧
  ∀ H' r es, Told I.or log es → HB ord place lo high es r → Stp I.M H H' → I.At K A H' (log ++ es) → Q (.int (r : Nat)) H'
theorem ok_halved_between {P : Program} {w : World} {K : PySem.W.Frag} {mg : Str → Option Value} {base : Heap} {A : Ad} {f : Addr} {fd : FuncData} (F : Fun K "halved_between" "halved_between" s_halved_between f fd) (T : Txt K mg A) (M_Asker_ahead : SH.CalM P w K mg base (L2N.CX P w) 3 A.Asker "ahead" [] (sp_Asker_ahead K A)) : FnOk P w K mg base (L2N.CX P w) 4 f fd ["asker", "order", "place", "low", "high"] (sp_halved_between K A) := by
  refine SH.okN F sc_halved_between (fun vs H Q E h => by obtain ⟨_, _, _, _, _, _, _, _, rfl, _⟩ := h; rfl) (fun cdv A' outer s H vs Q E hr h => ?_)
  obtain ⟨I, log, a, ord, place, lo, high, low, rfl, ⟨hA, hS, hnM, hp, hord, rfl, hlh, hho, hlog⟩, kx, k⟩ := h
  refine ⟨_, (pss_cons (ps_while (L2.passes_of rfl) (pt_cmpR SH.oGt (pe_op SH.oSub (pv 4) (pv 3)) pe_int (nomark _)) (pss_cons (ps_set (i := 5) sc_halved_between.nd rfl (Or.inl rfl) (pe_op SH.oDiv (pe_op SH.oAdd (pv 3) (pv 4)) pe_int))
        (pss_one (ps_if (pt_val (SH.pe_methF (pv 0) M_Asker_ahead hr (L2N.passes_call (L2N.takes_of rfl rfl rfl rfl) fun _ _ _ _ h => h) (pa_cons (pe_ix SH.ixA (pv 1) (pv 5) (fun _ _ => rfl)) (pa_cons (pv 2) pa_nil)))) (pss_one (ps_set (i := 3) sc_halved_between.nd rfl (Or.inl rfl) (pv 5))) (pss_one (ps_set (i := 4) sc_halved_between.nd rfl (Or.inl rfl) (pv 5)))))))
        (pss_one (ps_ret (pv 4)))), ?_⟩
  walk_at "begin"
  walk_at "rd"
  refine r_while (fun m σ H' => ∃ (lo' high' : Nat) (es : List Ent) (v5 : Option V), m = high' - lo' ∧ lo' ≤ high' ∧ high' ≤ ord.length ∧ es.length + (high' - lo') ≤ high - lo ∧ (∀ rest r, HB ord place lo' high' rest r → HB ord place lo high (es ++ rest) r) ∧
    Told I.or log es ∧ Stp I.M H H' ∧ I.At K A H' (log ++ es) ∧ σ = [some (.ref I.s), some (.ref a), some (.int place), some (.int ((lo' : Int) - 1)), some (.int high'), v5])
    ⟨_, lo, high, [], _, rfl, hlh, hho, by simp, fun rest r h => h, True.intro, .refl _ _, by rw [List.append_nil]; exact hA, rfl⟩ ?_
  rintro m σ H1 ⟨lo', high', es, v5, rfl, h1, h2, h3, hH, hT, S, hA1, rfl⟩
  walk_at "rd"
  refine r_w (fun hlt => ?_) fun hlt => ?_
  · refine r_next_turn ?_
    walk_at "rd"
    have em : ((lo' : Int) - 1 + high') / 2 = (((lo' + high' - 1) / 2 : Nat) : Int) := by omega
    rw [em]
    have hm : (lo' + high' - 1) / 2 < ord.length := by omega
    have ho : ord[(lo' + high' - 1) / 2]? = some ord[(lo' + high' - 1) / 2] := List.getElem?_eq_getElem hm
    obtain ⟨o1, o2⟩ := hord _ (List.getElem_mem hm)
    generalize ord[(lo' + high' - 1) / 2] = o at ho o1 o2
    have hs1 := hA1.hs
    have hS1 := S.sql hS hnM
    walk_at "rd"
    refine v_ixLn (n := (lo' + high' - 1) / 2) (v := .int o) hS1 rfl (by unfold nv; rw [List.getElem?_map, ho]; rfl) ?_
    walk_at "rd"
    refine ⟨I, _, o, place, rfl, ⟨hA1, o1, hp, o2, by rw [List.length_append]; omega⟩, kx.ask S hT (by
      obtain ⟨rest, r, hb, hT'⟩ := HB.total I.or (ord := ord) (place := place) _ lo' high' (log ++ es) rfl h1 h2
      obtain ⟨c, es3, rfl⟩ := hb.first (by omega) ho
      exact ⟨c, es3, hT', r, hH _ _ hb⟩), fun H2 said hsaid S2 hA2 => ?_⟩
    have hT2 := Told.app hT (Told.one (e := ⟨max o place, min o place, said⟩) hsaid)
    rw [List.append_assoc] at hA2
    walk_at "rd"
    refine r_w (fun hb => ?_) fun hb => ?_
    · walk_at "rd"
      refine ⟨high' - ((lo' + high' - 1) / 2 + 1), by omega, (lo' + high' - 1) / 2 + 1, high', es ++ [⟨max o place, min o place, said⟩], some (.int (((lo' + high' - 1) / 2 : Nat) : Int)), rfl, by omega, h2, by rw [List.length_append, List.length_singleton]; omega, fun rest r h => ?_, hT2, S.trans S2, hA2, ?_⟩
      · rw [List.append_assoc, hb]
        exact hH _ _ (.up (by omega) ho h)
      · rw [show ((((lo' + high' - 1) / 2 + 1 : Nat) : Int)) - 1 = (((lo' + high' - 1) / 2 : Nat) : Int) by omega]
    · walk_at "rd"
      have hb' : said = !decide (place < o) := by cases said <;> cases hd : decide (place < o) <;> simp_all
      refine ⟨(lo' + high' - 1) / 2 - lo', by omega, lo', (lo' + high' - 1) / 2, es ++ [⟨max o place, min o place, said⟩], _, rfl, by omega, by omega, by rw [List.length_append, List.length_singleton]; omega, fun rest r h => ?_, hT2, S.trans S2, hA2, rfl⟩
      rw [List.append_assoc, hb']
      exact hH _ _ (.down (by omega) ho h)
  · walk_at "rd"
    have e : lo' = high' := by omega
    subst e
    have := hH [] lo' (.done lo')
    rw [List.append_nil] at this
    exact k _ lo' es hT this S hA1

def sp_leap (K : PySem.W.Frag) (A : Ad) : Sp := fun vs H Q E => ∃ (I : Ask) (log : List Ent) (a : Addr) (ord : List Nat) (first place : Nat), vs = [.ref I.s, .ref a, .int first, .int place] ∧ (I.At K A H log ∧ SqL K H a (nv ord) ∧ a ∉ I.M ∧ place < I.n ∧ (∀ o ∈ ord, o < I.n ∧ o ≠ place) ∧ first ≤ ord.length ∧ ord.length ≤ 10000 ∧ log.length + I.pre.length + 2 * ord.length + 2 < 100000) ∧
  Stop I K A H log (fun es => ∃ r, LP ord place first first 1 es r) E ∧
  ∀ H' r es, Told I.or log es → LP ord place first first 1 es r → Stp I.M H H' → I.At K A H' (log ++ es) → Q (.int (r : Nat)) H'
theorem ok_leap {P : Program} {w : World} {K : PySem.W.Frag} {mg : Str → Option Value} {base : Heap} {A : Ad} {f : Addr} {fd : FuncData} (F : Fun K "leap" "leap" s_leap f fd) (T : Txt K mg A) (M_Asker_ahead : SH.CalM P w K mg base (L2N.CX P w) 3 A.Asker "ahead" [] (sp_Asker_ahead K A)) (C_halved_between : SH.Cal P w K mg base (L2N.CX P w) 4 "halved_between" [] (sp_halved_between K A)) : FnOk P w K mg base (L2N.CX P w) 5 f fd ["asker", "order", "first", "place"] (sp_leap K A) := by
  refine SH.okN F sc_leap (fun vs H Q E h => by obtain ⟨_, _, _, _, _, _, rfl, _⟩ := h; rfl) (fun cdv A' outer s H vs Q E hr h => ?_)
  obtain ⟨I, log, a, ord, first, place, rfl, ⟨hA, hS, hnM, hp, hord, hfo, hol, hlog⟩, kx, k⟩ := h
  refine ⟨_, (pss_cons (ps_set (i := 4) sc_leap.nd rfl (Or.inl rfl) (pe_op SH.oSub (pv 2) pe_int))
        (pss_cons (ps_set (i := 5) sc_leap.nd rfl (Or.inl rfl) pe_int)
        (pss_cons (ps_while (L2.passes_of rfl) (pt_cmpR SH.oLe (pe_op SH.oAdd (pv 2) (pv 5)) (pe_callB SH.cLen (by rfl) T.z_len (by decide +kernel) (pa_cons (pv 1) pa_nil)) (nomark _)) (pss_cons (ps_set (i := 6) sc_leap.nd rfl (Or.inl rfl) (pe_op SH.oSub (pe_op SH.oAdd (pv 2) (pv 5)) pe_int))
        (pss_cons (ps_if (pt_not (pt_val (SH.pe_methF (pv 0) M_Asker_ahead hr (L2N.passes_call (L2N.takes_of rfl rfl rfl rfl) fun _ _ _ _ h => h) (pa_cons (pe_ix SH.ixA (pv 1) (pv 6) (fun _ _ => rfl)) (pa_cons (pv 3) pa_nil))))) (pss_one (ps_ret (pe_op SH.oSub (SH.pe_callF C_halved_between hr (by rfl) (L2N.passes_call (L2N.takes_of rfl rfl rfl rfl) fun _ _ _ _ h => h) (pa_cons (pv 0) (pa_cons (pv 1) (pa_cons (pv 3) (pa_cons (pv 4) (pa_cons (pv 6) pa_nil)))))) (pv 2)))) pss_nil)
        (pss_cons (ps_set (i := 4) sc_leap.nd rfl (Or.inl rfl) (pv 6))
        (pss_one (ps_set (i := 5) sc_leap.nd rfl (Or.inl rfl) (pe_op SH.oShl (pv 5) pe_int)))))))
        (pss_one (ps_ret (pe_op SH.oSub (SH.pe_callF C_halved_between hr (by rfl) (L2N.passes_call (L2N.takes_of rfl rfl rfl rfl) fun _ _ _ _ h => h) (pa_cons (pv 0) (pa_cons (pv 1) (pa_cons (pv 3) (pa_cons (pv 4) (pa_cons (pe_callB SH.cLen (by rfl) T.z_len (by decide +kernel) (pa_cons (pv 1) pa_nil)) pa_nil)))))) (pv 2))))))), ?_⟩
  walk_at "begin"
  walk_at "rd"
  refine r_while (fun m σ H' => ∃ (lo step : Nat) (es : List Ent) (v6 : Option V), m = ord.length + 1 - (first + step) ∧ 1 ≤ step ∧ first ≤ lo ∧ lo < first + step ∧ lo ≤ ord.length ∧ step ≤ 20000 ∧ es.length ≤ lo - first ∧ (∀ rest r, LP ord place first lo step rest r → LP ord place first first 1 (es ++ rest) r) ∧
    Told I.or log es ∧ Stp I.M H H' ∧ I.At K A H' (log ++ es) ∧ σ = [some (.ref I.s), some (.ref a), some (.int first), some (.int place), some (.int ((lo : Int) - 1)), some (.int step), v6])
    ⟨_, first, 1, [], _, rfl, by omega, by omega, by omega, hfo, by omega, by simp, fun rest r h => h, True.intro, .refl _ _, by rw [List.append_nil]; exact hA, rfl⟩ ?_
  rintro m σ H1 ⟨lo, step, es, v6, rfl, h1, h2, h3, h4, h5, h6, hH, hT, S, hA1, rfl⟩
  have hS1 := S.sql hS hnM
  walk_at "rd"
  refine r_w (fun hlt => ?_) fun hlt => ?_
  · refine r_next_turn ?_
    walk_at "rd"
    have em : (first : Int) + step - 1 = ((first + step - 1 : Nat) : Int) := by omega
    rw [em]
    have hm : first + step - 1 < ord.length := by omega
    have ho : ord[first + step - 1]? = some ord[first + step - 1] := List.getElem?_eq_getElem hm
    obtain ⟨o1, o2⟩ := hord _ (List.getElem_mem hm)
    generalize ord[first + step - 1] = o at ho o1 o2
    have hs1 := hA1.hs
    walk_at "rd"
    refine v_ixLn (n := first + step - 1) (v := .int o) hS1 rfl (by unfold nv; rw [List.getElem?_map, ho]; rfl) ?_
    walk_at "rd"
    refine ⟨I, _, o, place, rfl, ⟨hA1, o1, hp, o2, by rw [List.length_append]; omega⟩, kx.ask S hT (by
      obtain ⟨rest, r, hb, hT'⟩ := LP.total I.or (ord := ord) (place := place) (first := first) _ lo step (log ++ es) rfl h1 h3 h4
      obtain ⟨c, es3, rfl⟩ := hb.first (by omega) ho
      exact ⟨c, es3, hT', r, hH _ _ hb⟩), fun H2 said hsaid S2 hA2 => ?_⟩
    have hT2 := Told.app hT (Told.one (e := ⟨max o place, min o place, said⟩) hsaid)
    rw [List.append_assoc] at hA2
    have hS2 := (S.trans S2).sql hS hnM
    walk_at "rd"
    refine r_nw (fun hb => ?_) fun hb => ?_
    · walk_at "rd"
      have hb' : said = !decide (place < o) := by cases said <;> cases hd : decide (place < o) <;> simp_all
      refine ⟨I, _, a, ord, place, lo, first + step - 1, _, rfl, ⟨hA2, hS2, hnM, hp, hord, rfl, by omega, by omega, by rw [List.length_append, List.length_append, List.length_singleton]; omega⟩, ?_, fun H3 r es3 hT3 hB S3 hA3 => ?_⟩
      · refine kx.sub (S.trans S2) hT2 fun es2 ⟨r, hB⟩ _ => ⟨[], True.intro, r - first, ?_⟩
        rw [List.append_nil, List.append_assoc, hb']
        exact hH _ _ (.stop (by omega) ho hB)
      have hbd := hB.bd
      walk_at "rd"
      have er : ((r : Nat) : Int) - first = ((r - first : Nat) : Int) := by omega
      rw [er]
      refine k _ (r - first) (es ++ [⟨max o place, min o place, said⟩] ++ es3) (Told.app hT2 hT3) ?_ ((S.trans S2).trans S3) (by rw [← List.append_assoc]; exact hA3)
      rw [List.append_assoc, hb']
      exact hH _ _ (.stop (by omega) ho hB)
    · walk_at "rd"
      have hp20 : (2 : Nat) ^ 20 = 1048576 := by decide
      have hsh : CShl (step : Int) (1 : Int) := shl_ok (i := (step : Int)) (j := 1) (n := 20) (by rw [hp20]; omega) (by decide)
      refine SH.v_shl hsh ?_
      walk_at "rd"
      have e2 : (step : Int) * 2 ^ (1 : Int).toNat = ((step * 2 : Nat) : Int) := by
        rw [show (1 : Int).toNat = 1 from rfl]; omega
      rw [e2]
      refine ⟨ord.length + 1 - (first + step * 2), by omega, first + step, step * 2, es ++ [⟨max o place, min o place, said⟩], some (.int ((first + step - 1 : Nat) : Int)), rfl, by omega, by omega, by omega, by omega, by omega, by rw [List.length_append, List.length_singleton]; omega, fun rest r h => ?_, hT2, S.trans S2, hA2, ?_⟩
      · rw [List.append_assoc, hb]
        exact hH _ _ (.more (by omega) ho h)
      · rw [show (((first + step : Nat) : Int)) - 1 = ((first + step - 1 : Nat) : Int) by omega]
  · walk_at "rd"
    refine ⟨I, _, a, ord, place, lo, ord.length, _, rfl, ⟨hA1, hS1, hnM, hp, hord, rfl, by omega, Nat.le_refl _, by rw [List.length_append]; omega⟩, kx.sub S hT (fun es2 ⟨r, hB⟩ _ => ⟨[], True.intro, r - first, by rw [List.append_nil]; exact hH _ _ (.over (by omega) hB)⟩), fun H3 r es3 hT3 hB S3 hA3 => ?_⟩
    have hbd := hB.bd
    walk_at "rd"
    have er : ((r : Nat) : Int) - first = ((r - first : Nat) : Int) := by omega
    rw [er]
    exact k _ (r - first) (es ++ es3) (Told.app hT hT3) (hH _ _ (.over (by omega) hB)) (S.trans S3) (by rw [← List.append_assoc]; exact hA3)
theorem bits_nat_le {n k : Nat} (h : n < 2 ^ k) : Builtin.Int.intBits ((n : Nat) : Int) ≤ k := bits_le (by exact_mod_cast h) (by omega)
theorem bits_nat_ge {n k : Nat} (h : 2 ^ k ≤ n) : k + 1 ≤ Builtin.Int.intBits ((n : Nat) : Int) := by
  have hp : 0 < 2 ^ k := Nat.pos_of_ne_zero (by simp)
  have h1 := bits_lt (n := (n : Int)) (by omega)
  have h2 : n < 2 ^ Builtin.Int.intBits ((n : Nat) : Int) := by exact_mod_cast h1
  have h3 : 2 ^ k < 2 ^ Builtin.Int.intBits ((n : Nat) : Int) := by omega
  exact (Nat.pow_lt_pow_iff_right (by decide)).mp h3
/-! ### two orders joined -/
theorem two_at {α : Type} (f : Bool → α) (s : Bool) : [f false, f true][s.toNat]? = some (f s) := by cases s <;> rfl
def put2 {α : Type} (p : Bool → α) (s : Bool) (n : α) : Bool → α := fun b => if b = s then n else p b
theorem put2_same {α : Type} {p : Bool → α} {s : Bool} {n : α} : put2 p s n s = n := by simp [put2]
theorem put2_not {α : Type} {p : Bool → α} {s : Bool} {n : α} : put2 p s n (!s) = p (!s) := by cases s <;> simp [put2]
theorem put2_not' {α : Type} {p : Bool → α} {s : Bool} {n : α} : put2 p (!s) n s = p s := by cases s <;> simp [put2]
theorem put2_put2 {α : Type} {p : Bool → α} {s : Bool} {n m : α} : put2 (put2 p s n) s m = put2 p s m := by funext b; unfold put2; split <;> simp_all
theorem put2_sum {p : Bool → Nat} {s : Bool} {n : Nat} : put2 p s (p s + n) false + put2 p s (p s + n) true = p false + p true + n := by cases s <;> simp [put2] <;> omega
theorem put2_sum2 {p : Bool → Nat} {s : Bool} {n : Nat} : put2 (put2 p s (p s + n)) (!s) (p (!s) + 1) false + put2 (put2 p s (p s + n)) (!s) (p (!s) + 1) true = p false + p true + n + 1 := by cases s <;> simp [put2] <;> omega
abbrev iv (p : Bool → Nat) : List V := [.int (p false : Nat), .int (p true : Nat)]
theorem iv_at {p : Bool → Nat} {s : Bool} : (iv p)[s.toNat]? = some (.int (p s : Nat)) := by cases s <;> rfl
theorem iv_set {p : Bool → Nat} {s : Bool} {n : Nat} : (iv p).set s.toNat (.int n) = iv (put2 p s n) := by cases s <;> rfl
theorem nots {s : Bool} : (1 : Int) - (s.toNat : Nat) = ((!s).toNat : Nat) := by cases s <;> rfl
def ahE (x y : Nat) : Ent := ⟨max x y, min x y, decide (y < x)⟩
theorem two_perm (f : Bool → List Nat) (s : Bool) : (f false ++ f true).Perm (f s ++ f !s) := by
  cases s
  · exact .refl _
  · exact List.perm_append_comm
/-- two orders joined, from places p on, the last winner and its wins known -/
inductive JN (L : Bool → List Nat) : (Bool → Nat) → Bool → Nat → List Ent → List Nat → Prop
  | done {p : Bool → Nat} {last : Bool} {wins : Nat} (h : (L false).length ≤ p false ∨ (L true).length ≤ p true) : JN L p last wins [] ((L false).drop (p false) ++ (L true).drop (p true))
  | win {p : Bool → Nat} {last : Bool} {wins : Nat} (s : Bool) {x y : Nat} {es : List Ent} {res : List Nat} (hx : (L s)[p s]? = some x) (hy : (L !s)[p !s]? = some y)
      (h : ¬ ((if s = last then wins + 1 else 1) = 4 ∧ p s + 1 < (L s).length)) (k : JN L (put2 p s (p s + 1)) s (if s = last then wins + 1 else 1) es res) : JN L p last wins (ahE x y :: es) (x :: res)
  | leap {p : Bool → Nat} {last : Bool} {wins : Nat} (s : Bool) {x y g : Nat} {es1 es : List Ent} {res : List Nat} (hx : (L s)[p s]? = some x) (hy : (L !s)[p !s]? = some y)
      (h : (if s = last then wins + 1 else 1) = 4) (h2 : p s + 1 < (L s).length) (hL : LP (L s) y (p s + 1) (p s + 1) 1 es1 g) (h3 : p s + 1 + g < (L s).length)
      (k : JN L (put2 (put2 p s (p s + 1 + g)) (!s) (p (!s) + 1)) s 0 es res) : JN L p last wins (ahE x y :: (es1 ++ es)) (x :: (((L s).drop (p s + 1)).take g ++ y :: res))
  | leapA {p : Bool → Nat} {last : Bool} {wins : Nat} (s : Bool) {x y g : Nat} {es1 es : List Ent} {res : List Nat} (hx : (L s)[p s]? = some x) (hy : (L !s)[p !s]? = some y)
      (h : (if s = last then wins + 1 else 1) = 4) (h2 : p s + 1 < (L s).length) (hL : LP (L s) y (p s + 1) (p s + 1) 1 es1 g) (h3 : ¬ p s + 1 + g < (L s).length)
      (k : JN L (put2 p s (p s + 1 + g)) s 0 es res) : JN L p last wins (ahE x y :: (es1 ++ es)) (x :: (((L s).drop (p s + 1)).take g ++ res))
theorem LP.bd {ord : List Nat} {place first lo step r : Nat} {es : List Ent} (h : LP ord place first lo step es r) (h0 : 1 ≤ step) (hf : first ≤ lo) (h1 : lo < first + step) (h2 : lo ≤ ord.length) : first + r ≤ ord.length ∧ es.length ≤ 2 * (ord.length + 1 - lo) := by
  induction h with
  | more h ho k ih => have := ih (by omega) (by omega) (by omega) h; exact ⟨this.1, by rw [List.length_cons]; omega⟩
  | stop h ho k => have := k.bd; exact ⟨by omega, by rw [List.length_cons]; omega⟩
  | over h k => have := k.bd; exact ⟨by omega, by omega⟩
def sp_leap_taken (K : PySem.W.Frag) (A : Ad) : Sp := fun vs H Q E => ∃ (I : Ask) (log : List Ent) (sd at_ td : Addr) (s : Bool) (la : Bool → Addr) (L : Bool → List Nat) (p : Bool → Nat) (told : List Nat) (y : Nat),
  vs = [.ref I.s, .ref sd, .ref at_, .int (s.toNat : Nat), .ref td] ∧
  (I.At K A H log ∧ SqT K H sd [.ref (la false), .ref (la true)] ∧ (∀ b, SqL K H (la b) (nv (L b))) ∧ H at_ = some (.lst (iv p)) ∧ H td = some (.lst (nv told)) ∧ (at_ ∉ I.own ∧ td ∉ I.own ∧ at_ ≠ td ∧ (∀ b, la b ∉ I.M) ∧ ∀ b, la b ≠ at_ ∧ la b ≠ td) ∧
    ((∀ b, ∀ o ∈ L b, o < I.n) ∧ (∀ o ∈ L s, o ≠ y) ∧ (L !s)[p !s]? = some y ∧ p s < (L s).length ∧ (L s).length ≤ 1000 ∧ told.length ≤ 10000 ∧ log.length + I.pre.length + 4000 < 100000)) ∧
  Stop I K A H log (fun es => ∃ g, LP (L s) y (p s) (p s) 1 es g) E ∧
  (∀ H' g es, Told I.or log es → LP (L s) y (p s) (p s) 1 es g → Stp (at_ :: td :: I.M) H H' → I.At K A H' (log ++ es) →
    p s + g < (L s).length → H' at_ = some (.lst (iv (put2 (put2 p s (p s + g)) (!s) (p (!s) + 1)))) → H' td = some (.lst (nv (told ++ (((L s).drop (p s)).take g ++ [y])))) → Q .non H') ∧
  (∀ H' g es, Told I.or log es → LP (L s) y (p s) (p s) 1 es g → Stp (at_ :: td :: I.M) H H' → I.At K A H' (log ++ es) →
    ¬ p s + g < (L s).length → H' at_ = some (.lst (iv (put2 p s (p s + g)))) → H' td = some (.lst (nv (told ++ ((L s).drop (p s)).take g))) → Q .non H')
theorem ok_leap_taken {P : Program} {w : World} {K : PySem.W.Frag} {mg : Str → Option Value} {base : Heap} {A : Ad} {f : Addr} {fd : FuncData} (F : Fun K "leap_taken" "leap_taken" s_leap_taken f fd) (T : Txt K mg A) (C_leap : SH.Cal P w K mg base (L2N.CX P w) 5 "leap" [] (sp_leap K A)) : FnOk P w K mg base (L2N.CX P w) 6 f fd ["asker", "sides", "at", "side", "told"] (sp_leap_taken K A) := by
  refine SH.okN F sc_leap_taken (fun vs H Q E h => by obtain ⟨_, _, _, _, _, _, _, _, _, _, _, rfl, _⟩ := h; rfl) (fun cdv A' outer s H vs Q E hr h => ?_)
  obtain ⟨I, log, sd, at_, td, s', la, L, p, told, y, rfl, ⟨hA, hsd, hla, hat, htd, ⟨nA, nT, nAT, nla, nlb⟩, hLn, hLy, hy, hps, hL1, htl, hlog⟩, kx, k⟩ := h
  refine ⟨_, (pss_cons (ps_set (i := 5) sc_leap_taken.nd rfl (Or.inl rfl) (pe_ix SH.ixA (pv 1) (pv 3) (fun _ _ => rfl)))
        (pss_cons (ps_set (i := 6) sc_leap_taken.nd rfl (Or.inl rfl) (pe_ix SH.ixA (pv 1) (pe_op SH.oSub pe_int (pv 3)) (fun _ _ => rfl)))
        (pss_cons (ps_set (i := 7) sc_leap_taken.nd rfl (Or.inl rfl) (SH.pe_callF C_leap hr (by rfl) (L2N.passes_call (L2N.takes_of rfl rfl rfl rfl) fun _ _ _ _ h => h) (pa_cons (pv 0) (pa_cons (pv 5) (pa_cons (pe_ix SH.ixA (pv 2) (pv 3) (fun _ _ => rfl)) (pa_cons (pe_ix SH.ixA (pv 6) (pe_ix SH.ixA (pv 2) (pe_op SH.oSub pe_int (pv 3)) (fun _ _ => rfl)) (fun _ _ => rfl)) pa_nil))))))
        (pss_cons (ps_expr (pe_bm PySem.F.plainAttrs_list PySem.F.slot_list_extend PySem.F.type_list_extend mt_extend (pv 4) (pa_cons (pe_slice sl_list (pv 5) (po_some (pe_ix SH.ixA (pv 2) (pv 3) (fun _ _ => rfl))) (po_some (pe_op SH.oAdd (pe_ix SH.ixA (pv 2) (pv 3) (fun _ _ => rfl)) (pv 7)))) pa_nil)))
        (pss_cons (ps_augS (pv 2) (pv 3) SH.getL (pv 7) SH.ip_add' set_list)
        (pss_one (ps_if (pt_cmpR (SH.oLt hr.units0) (pe_ix SH.ixA (pv 2) (pv 3) (fun _ _ => rfl)) (pe_callB SH.cLen (by rfl) T.z_len (by decide +kernel) (pa_cons (pv 5) pa_nil)) (nomark _)) (pss_cons (ps_expr (pe_bm PySem.F.plainAttrs_list PySem.F.slot_list_append PySem.F.type_list_append mt_append (pv 4) (pa_cons (pe_ix SH.ixA (pv 6) (pe_ix SH.ixA (pv 2) (pe_op SH.oSub pe_int (pv 3)) (fun _ _ => rfl)) (fun _ _ => rfl)) pa_nil)))
        (pss_one (ps_augS (pv 2) (pe_op SH.oSub pe_int (pv 3)) SH.getL pe_int SH.ip_add' set_list))) pss_nil))))))), ?_⟩
  walk_at "begin"
  have hyn : y < I.n := hLn _ _ (List.mem_of_getElem? hy)
  have hMo : ∀ m, m ∈ I.M → m ∈ I.own := fun m hm => by simp only [Ask.M, Ask.own, List.mem_cons, List.not_mem_nil, or_false] at hm ⊢; first | (rcases hm with h | h | h <;> simp [h]; done) | (rcases hm with h | h <;> simp [h])
  have nA' : at_ ∉ I.M := fun z => nA (hMo _ z)
  have nT' : td ∉ I.M := fun z => nT (hMo _ z)
  walk_at "rd"
  refine v_ixTn (n := s'.toNat) hsd rfl (two_at (fun b => V.ref (la b)) s') ?_
  walk_at "rd"
  rw [nots]
  refine v_ixTn (n := (!s').toNat) hsd rfl (two_at (fun b => V.ref (la b)) (!s')) ?_
  walk_at "rd"
  refine v_ixLn (n := s'.toNat) (SqL.of hat) rfl iv_at ?_
  walk_at "rd"
  rw [nots]
  refine v_ixLn (n := (!s').toNat) (SqL.of hat) rfl iv_at ?_
  walk_at "rd"
  refine v_ixLn (n := p (!s')) (hla _) rfl (by unfold nv; rw [List.getElem?_map, hy]; rfl) ?_
  walk_at "rd"
  refine ⟨I, log, _, L s', p s', y, rfl, ⟨hA, hla _, nla _, hyn, fun o ho => ⟨hLn _ o ho, hLy o ho⟩, by omega, by omega, by omega⟩, kx, fun H1 g es hT hLP S1 hA1 => ?_⟩
  have hbd := hLP.bd (Nat.le_refl _) (Nat.le_refl _) (by omega) (by omega)
  have hat1 := S1.keep hat nA'
  have htd1 := S1.keep htd nT'
  have hla1 : ∀ b, SqL K H1 (la b) (nv (L b)) := fun b => S1.sql (hla b) (nla b)
  have hsd1 := S1.sqtM hsd
  walk_at "rd"
  refine v_ixLn (n := s'.toNat) (SqL.of hat1) rfl iv_at ?_
  walk_at "rd"
  refine v_ixLn (n := s'.toNat) (SqL.of hat1) rfl iv_at ?_
  walk_at "rd"
  refine v_slL (hla1 _) fun q hq => ?_
  have eg : ((p s' : Nat) : Int) + (g : Nat) = ((p s' + g : Nat) : Int) := by omega
  rw [cut_map, eg, cutL_span, Nat.add_sub_cancel_left]
  walk_at "rd"
  have hgl : (((L s').drop (p s')).take g).length ≤ 1000 := by rw [List.length_take, List.length_drop]; omega
  refine v_ext (upd_old htd1 hq) upd_same (by rw [List.length_map, List.length_map]; omega) ?_
  rw [← List.map_append]
  have S2 : Stp [at_, td] H1 (upd (upd H1 q (.lst (nv (((L s').drop (p s')).take g)))) td (.lst (nv (told ++ ((L s').drop (p s')).take g)))) := ((Stp.refl _ _).new hq).putL (by simp) (upd_old htd1 hq)
  have htd2 : upd (upd H1 q (.lst (nv (((L s').drop (p s')).take g)))) td (.lst (nv (told ++ ((L s').drop (p s')).take g))) td = some (.lst (nv (told ++ ((L s').drop (p s')).take g))) := upd_same
  have hat2 : upd (upd H1 q (.lst (nv (((L s').drop (p s')).take g)))) td (.lst (nv (told ++ ((L s').drop (p s')).take g))) at_ = some (.lst (iv p)) := upd_far nAT (upd_old hat1 hq)
  generalize upd (upd H1 q (.lst (nv (((L s').drop (p s')).take g)))) td (.lst (nv (told ++ ((L s').drop (p s')).take g))) = H2 at S2 htd2 hat2 ⊢
  have hA2 : I.At K A H2 (log ++ es) := hA1.stp S2 (by intro m hm; simp only [List.mem_cons, List.not_mem_nil, or_false] at hm; rcases hm with rfl | rfl; exact nA; exact nT)
  have hla2 : ∀ b, SqL K H2 (la b) (nv (L b)) := fun b => S2.sql (hla1 b) (by have := nlb b; simp [this])
  have hsd2 := S2.sqtM hsd1
  walk_at "rd"
  refine v_getL (n := s'.toNat) hat2 rfl (by cases s' <;> decide) iv_at ?_
  walk_at "rd"
  refine v_setL (n := s'.toNat) hat2 rfl (by show _ < 2; cases s' <;> decide) ?_
  rw [eg, iv_set]
  have S3 : Stp [at_, td] H2 (upd H2 at_ (.lst (iv (put2 p s' (p s' + g))))) := (Stp.refl _ _).putL (by simp) hat2
  have hat3 : upd H2 at_ (.lst (iv (put2 p s' (p s' + g)))) at_ = some (.lst (iv (put2 p s' (p s' + g)))) := upd_same
  have htd3 : upd H2 at_ (.lst (iv (put2 p s' (p s' + g)))) td = some (.lst (nv (told ++ ((L s').drop (p s')).take g))) := upd_far nAT.symm htd2
  generalize upd H2 at_ (.lst (iv (put2 p s' (p s' + g)))) = H3 at S3 hat3 htd3 ⊢
  have hla3 : ∀ b, SqL K H3 (la b) (nv (L b)) := fun b => S3.sql (hla2 b) (by have := nlb b; simp [this])
  have hls3 := hla3 s'
  have hA3 : I.At K A H3 (log ++ es) := hA2.stp S3 (by intro m hm; simp only [List.mem_cons, List.not_mem_nil, or_false] at hm; rcases hm with rfl | rfl; exact nA; exact nT)
  have S13 := S2.trans S3
  have S03 : Stp (at_ :: td :: I.M) H H3 := (S1.mono (fun b hb => by simp [hb])).trans (S13.mono (fun b hb => by simp only [List.mem_cons, List.not_mem_nil, or_false] at hb; rcases hb with rfl | rfl <;> simp))
  obtain ⟨k1, k2⟩ := k
  walk_at "rd"
  refine v_ixLn (n := s'.toNat) (SqL.of hat3) rfl iv_at ?_
  rw [put2_same]
  walk_at "rd"
  refine r_w (fun hlt => ?_) fun hlt => ?_
  · walk_at "rd"
    rw [nots]
    refine v_ixLn (n := (!s').toNat) (SqL.of hat3) rfl iv_at ?_
    rw [put2_not]
    walk_at "rd"
    refine v_ixLn (n := p (!s')) (hla3 _) rfl (by unfold nv; rw [List.getElem?_map, hy]; rfl) ?_
    walk_at "rd"
    have hlen2 : (told ++ ((L s').drop (p s')).take g).length ≤ 20000 := by rw [List.length_append]; omega
    refine v_app htd3 (by rw [List.length_map]; omega) ?_
    rw [← nv_app]
    walk_at "rd"
    rw [nots]
    have hat4 := upd_far (u := .lst (nv (told ++ ((L s').drop (p s')).take g ++ [y]))) nAT hat3
    refine v_getL (n := (!s').toNat) hat4 rfl (by cases s' <;> decide) iv_at ?_
    rw [put2_not]
    walk_at "rd"
    refine v_setL (n := (!s').toNat) hat4 rfl (by show _ < 2; cases s' <;> decide) ?_
    have e1 : ((p (!s') : Nat) : Int) + 1 = ((p (!s') + 1 : Nat) : Int) := by omega
    rw [e1, iv_set]
    have S4 : Stp [at_, td] H3 (upd (upd H3 td (.lst (nv (told ++ ((L s').drop (p s')).take g ++ [y])))) at_ (.lst (iv (put2 (put2 p s' (p s' + g)) (!s') (p (!s') + 1))))) := ((Stp.refl _ _).putL (by simp) htd3).putL (by simp) hat4
    refine k1 _ g es hT hLP (S03.trans (S4.mono (fun b hb => by simp only [List.mem_cons, List.not_mem_nil, or_false] at hb; rcases hb with rfl | rfl <;> simp))) (hA3.stp S4 (by intro m hm; simp only [List.mem_cons, List.not_mem_nil, or_false] at hm; rcases hm with rfl | rfl; exact nA; exact nT)) (by omega) upd_same ?_
    rw [← List.append_assoc]
    exact upd_far nAT.symm upd_same
  · walk_at "rd"
    exact k2 _ g es hT hLP S03 hA3 (by omega) hat3 htd3

theorem bits_self {n : Nat} : Builtin.Int.intBits (n : Int) ≤ n := bits_nat_le (Nat.lt_two_pow_self)
theorem HB.len {ord : List Nat} {place lo high r : Nat} {es : List Ent} (h : HB ord place lo high es r) : es.length ≤ Builtin.Int.intBits ((high - lo : Nat) : Int) := by
  induction h with
  | done lo => simp
  | @up lo high o es r h ho k ih =>
    rw [bits_half (by omega : 0 < high - lo), List.length_cons]
    have := bits_mono (show high - ((lo + high - 1) / 2 + 1) ≤ (high - lo) / 2 by omega)
    omega
  | @down lo high o es r h ho k ih =>
    rw [bits_half (by omega : 0 < high - lo), List.length_cons]
    have := bits_mono (show (lo + high - 1) / 2 - lo ≤ (high - lo) / 2 by omega)
    omega
/-- how many asks a leap takes, whatever is told -/
theorem LP.few {ord : List Nat} {place first : Nat} : ∀ {lo step r : Nat} {es : List Ent}, LP ord place first lo step es r → ∀ (j h : Nat), step = 2 ^ j → lo = first + h → ((j = 0 ∧ h = 0) ∨ (1 ≤ j ∧ 2 * h = 2 ^ j)) → lo ≤ ord.length →
    h ≤ r ∧ j + es.length ≤ max 1 (2 * Builtin.Int.intBits ((r : Nat) : Int)) := by
  intro lo step r es hL
  induction hL with
  | @more lo step o es r hh ho k ih =>
    intro j h hs hl hj h2
    have := ih (j + 1) step (by rw [hs, Nat.pow_succ]) rfl (.inr ⟨by omega, by rw [hs, Nat.pow_succ]; omega⟩) hh
    rw [List.length_cons]
    omega
  | @stop lo step o es r hh ho k =>
    intro j h hs hl hj h2
    rw [List.length_cons]
    have hbd := k.bd
    rcases hj with ⟨rfl, rfl⟩ | ⟨hj, hh2⟩
    · simp at hs
      omega
    · have hlen := k.len
      obtain ⟨i, rfl⟩ : ∃ i, j = i + 1 := ⟨j - 1, by omega⟩
      rw [Nat.pow_succ] at hs hh2
      have hp : 0 < 2 ^ i := Nat.pos_of_ne_zero (by simp)
      have b1 := bits_nat_le (n := first + step - 1 - lo) (k := i) (by omega)
      have b2 := bits_nat_ge (n := r - first) (k := i) (by omega)
      omega
  | @over lo step es r hh k =>
    intro j h hs hl hj h2
    have hbd := k.bd
    rcases hj with ⟨rfl, rfl⟩ | ⟨hj, hh2⟩
    · simp at hs
      omega
    · have hlen := k.len
      obtain ⟨i, rfl⟩ : ∃ i, j = i + 1 := ⟨j - 1, by omega⟩
      rw [Nat.pow_succ] at hs hh2
      have hp : 0 < 2 ^ i := Nat.pos_of_ne_zero (by simp)
      have b1 := bits_nat_le (n := ord.length - lo) (k := i) (by omega)
      have b2 := bits_nat_ge (n := r - first) (k := i) (by omega)
      omega
theorem LP.few0 {ord : List Nat} {place first r : Nat} {es : List Ent} (h : LP ord place first first 1 es r) (hf : first ≤ ord.length) : es.length ≤ max 1 (2 * Builtin.Int.intBits ((r : Nat) : Int)) := by
  have := (h.few 0 0 rfl rfl (.inl ⟨rfl, rfl⟩) hf).2
  omega
/-- who goes first of two fronts -/
theorem front_case {L : Bool → List Nat} {p : Bool → Nat} {l r : Nat} {said : Bool} (hl : (L false)[p false]? = some l) (hr : (L true)[p true]? = some r) (hne : l ≠ r) : ∃ (s : Bool) (x y : Nat), (!decide (said = decide (r < l))) = s ∧ (L s)[p s]? = some x ∧ (L !s)[p !s]? = some y ∧ (⟨max l r, min l r, said⟩ : Ent) = ahE x y := by
  by_cases h : said = decide (r < l)
  · exact ⟨false, l, r, by rw [decide_eq_true h]; rfl, hl, hr, by rw [h]; rfl⟩
  · refine ⟨true, r, l, by rw [decide_eq_false h]; rfl, hr, hl, ?_⟩
    unfold ahE
    rw [Nat.max_comm, Nat.min_comm]
    congr 1
    cases said
    · have : r < l := by simpa using h
      exact (decide_eq_false (by omega)).symm
    · have : ¬ r < l := by simpa using h
      exact (decide_eq_true (by omega)).symm
def LR (l r : List Nat) : Bool → List Nat := fun b => if b then r else l
theorem JN.total (or : List Ent → Nat → Nat → Bool) {L : Bool → List Nat} (hd : ∀ x ∈ L false, ∀ y ∈ L true, x ≠ y) : ∀ (m : Nat) (p : Bool → Nat) (last : Bool) (wins : Nat) (log : List Ent), ((L false).length - p false) + ((L true).length - p true) = m → ∃ es res, JN L p last wins es res ∧ Told or log es := by
  intro m
  induction m using Nat.strongRecOn with
  | ind m ih =>
    intro p last wins log hm
    by_cases h0 : (L false).length ≤ p false
    · exact ⟨[], _, .done (.inl h0), True.intro⟩
    by_cases h1 : (L true).length ≤ p true
    · exact ⟨[], _, .done (.inr h1), True.intro⟩
    have hl := List.getElem?_eq_getElem (by omega : p false < (L false).length)
    have hr := List.getElem?_eq_getElem (by omega : p true < (L true).length)
    generalize (L false)[p false] = l at hl
    generalize (L true)[p true] = r at hr
    have hne := hd _ (List.mem_of_getElem? hl) _ (List.mem_of_getElem? hr)
    obtain ⟨s, x, y, _, hx, hy, he⟩ := front_case (said := or log (max l r) (min l r)) hl hr hne
    have ha : (ahE x y).c = or log (ahE x y).a (ahE x y).b := by rw [← he]
    have hxl := (List.getElem?_eq_some_iff.mp hx).1
    have hyl := (List.getElem?_eq_some_iff.mp hy).1
    by_cases hw : (if s = last then wins + 1 else 1) = 4 ∧ p s + 1 < (L s).length
    · obtain ⟨es1, g, hL, hT1⟩ := LP.total or (ord := L s) (place := y) (first := p s + 1) _ (p s + 1) 1 (log ++ [ahE x y]) rfl (Nat.le_refl _) (by omega) (by omega)
      have hb := hL.bd (Nat.le_refl _) (Nat.le_refl _) (by omega) (by omega)
      by_cases hg : p s + 1 + g < (L s).length
      · obtain ⟨es, res, k, hT⟩ := ih _ (by
          rw [← hm]
          cases s
          · simp only [Bool.not_false] at hyl; simp [put2]; omega
          · simp only [Bool.not_true] at hyl; simp [put2]; omega) (put2 (put2 p s (p s + 1 + g)) (!s) (p (!s) + 1)) s 0 (log ++ [ahE x y] ++ es1) rfl
        exact ⟨_, _, .leap s hx hy hw.1 hw.2 hL hg k, ha, Told.app hT1 hT⟩
      · obtain ⟨es, res, k, hT⟩ := ih _ (by
          rw [← hm]
          cases s
          · simp only [Bool.not_false] at hyl; simp [put2]; omega
          · simp only [Bool.not_true] at hyl; simp [put2]; omega) (put2 p s (p s + 1 + g)) s 0 (log ++ [ahE x y] ++ es1) rfl
        exact ⟨_, _, .leapA s hx hy hw.1 hw.2 hL hg k, ha, Told.app hT1 hT⟩
    · obtain ⟨es, res, k, hT⟩ := ih _ (by
        rw [← hm]
        cases s
        · simp only [Bool.not_false] at hyl; simp [put2]; omega
        · simp only [Bool.not_true] at hyl; simp [put2]; omega) (put2 p s (p s + 1)) s (if s = last then wins + 1 else 1) (log ++ [ahE x y]) rfl
      exact ⟨_, _, .win s hx hy hw k, ha, hT⟩
theorem JN.first {L : Bool → List Nat} {p : Bool → Nat} {last : Bool} {wins l r : Nat} {es : List Ent} {res : List Nat} (h : JN L p last wins es res) (hl : (L false)[p false]? = some l) (hr : (L true)[p true]? = some r) : ∃ c es3, es = (⟨max l r, min l r, c⟩ : Ent) :: es3 := by
  have key : ∀ (s : Bool) (x y : Nat), (L s)[p s]? = some x → (L !s)[p !s]? = some y → ∃ c, ahE x y = (⟨max l r, min l r, c⟩ : Ent) := fun s x y hx hy => by
    cases s
    · rw [hl] at hx; cases hx
      have hy' : (L true)[p true]? = some y := hy
      rw [hr] at hy'; cases hy'
      exact ⟨_, rfl⟩
    · rw [hr] at hx; cases hx
      have hy' : (L false)[p false]? = some y := hy
      rw [hl] at hy'; cases hy'
      exact ⟨_, by unfold ahE; rw [Nat.max_comm, Nat.min_comm]⟩
  have h1 := (List.getElem?_eq_some_iff.mp hl).1
  have h2 := (List.getElem?_eq_some_iff.mp hr).1
  cases h with
  | done h => omega
  | win s hx hy h k => obtain ⟨c, e⟩ := key s _ _ hx hy; exact ⟨c, _, by rw [e]⟩
  | leap s hx hy h h2 hL h3 k => obtain ⟨c, e⟩ := key s _ _ hx hy; exact ⟨c, _, by rw [e]⟩
  | leapA s hx hy h h2 hL h3 k => obtain ⟨c, e⟩ := key s _ _ hx hy; exact ⟨c, _, by rw [e]⟩
def sp_joined (K : PySem.W.Frag) (A : Ad) : Sp := fun vs H Q E => ∃ (I : Ask) (log : List Ent) (la ra : Addr) (left right : List Nat), vs = [.ref I.s, .ref la, .ref ra] ∧
  (I.At K A H log ∧ H la = some (.lst (nv left)) ∧ H ra = some (.lst (nv right)) ∧ la ∉ I.M ∧ ra ∉ I.M ∧ (∀ o ∈ left, o < I.n) ∧ (∀ o ∈ right, o < I.n) ∧ (∀ x ∈ left, ∀ y ∈ right, x ≠ y) ∧ left.length ≤ 1000 ∧ right.length ≤ 1000 ∧ log.length + I.pre.length < 80000) ∧
  Stop I K A H log (fun es => ∃ res, JN (LR left right) (fun _ => 0) false 0 es res) E ∧
  ∀ H' q es res, H q = none → es.length ≤ 3 * (left.length + right.length) → Told I.or log es → JN (LR left right) (fun _ => 0) false 0 es res → Stp I.M H H' → I.At K A H' (log ++ es) → H' q = some (.lst (nv res)) → Q (.ref q) H'
theorem ok_joined {P : Program} {w : World} {K : PySem.W.Frag} {mg : Str → Option Value} {base : Heap} {A : Ad} {f : Addr} {fd : FuncData} (F : Fun K "joined" "joined" s_joined f fd) (T : Txt K mg A) (M_Asker_ahead : SH.CalM P w K mg base (L2N.CX P w) 3 A.Asker "ahead" [] (sp_Asker_ahead K A)) (C_leap_taken : SH.Cal P w K mg base (L2N.CX P w) 6 "leap_taken" [] (sp_leap_taken K A)) : FnOk P w K mg base (L2N.CX P w) 7 f fd ["asker", "left", "right"] (sp_joined K A) := by
  refine SH.okN F sc_joined (fun vs H Q E h => by obtain ⟨_, _, _, _, _, _, rfl, _⟩ := h; rfl) (fun cdv A' outer s H vs Q E hr h => ?_)
  obtain ⟨I, log, la, ra, left, right, rfl, ⟨hA, hla, hra, nla, nra, hln, hrn, hdis, hll, hrl, hlog⟩, kx, k⟩ := h
  refine ⟨_, (pss_cons (ps_set (i := 3) sc_joined.nd rfl (Or.inl rfl) (pe_tup (pa_cons (pv 1) (pa_cons (pv 2) pa_nil))))
        (pss_cons (ps_set (i := 4) sc_joined.nd rfl (Or.inl rfl) (pe_lst (pa_cons pe_int (pa_cons pe_int pa_nil))))
        (pss_cons (ps_set (i := 5) sc_joined.nd rfl (Or.inl rfl) (pe_lst pa_nil))
        (pss_cons (ps_set (i := 6) sc_joined.nd rfl (Or.inl rfl) pe_int)
        (pss_cons (ps_set (i := 7) sc_joined.nd rfl (Or.inl rfl) pe_int)
        (pss_cons (ps_while (L2.passes_of rfl) (PW.pt (pw_and (pt_cmpR (SH.oLt hr.units0) (pe_ix SH.ixA (pv 4) pe_int (fun _ _ => rfl)) (pe_callB SH.cLen (by rfl) T.z_len (by decide +kernel) (pa_cons (pv 1) pa_nil)) (nomark _)) (pw_and1 (pt_cmpR (SH.oLt hr.units0) (pe_ix SH.ixA (pv 4) pe_int (fun _ _ => rfl)) (pe_callB SH.cLen (by rfl) T.z_len (by decide +kernel) (pa_cons (pv 2) pa_nil)) (nomark _))))) (pss_cons (ps_set (i := 8) sc_joined.nd rfl (Or.inl rfl) (pe_callTy SH.cInt1 (by rfl) T.z_int (by decide +kernel) (pa_cons (pe_not (SH.pe_methF (pv 0) M_Asker_ahead hr (L2N.passes_call (L2N.takes_of rfl rfl rfl rfl) fun _ _ _ _ h => h) (pa_cons (pe_ix SH.ixA (pv 1) (pe_ix SH.ixA (pv 4) pe_int (fun _ _ => rfl)) (fun _ _ => rfl)) (pa_cons (pe_ix SH.ixA (pv 2) (pe_ix SH.ixA (pv 4) pe_int (fun _ _ => rfl)) (fun _ _ => rfl)) pa_nil)))) pa_nil)))
        (pss_cons (ps_expr (pe_bm PySem.F.plainAttrs_list PySem.F.slot_list_append PySem.F.type_list_append mt_append (pv 5) (pa_cons (pe_ix SH.ixA (pe_ix SH.ixA (pv 3) (pv 8) (fun _ _ => rfl)) (pe_ix SH.ixA (pv 4) (pv 8) (fun _ _ => rfl)) (fun _ _ => rfl)) pa_nil)))
        (pss_cons (ps_augS (pv 4) (pv 8) SH.getL pe_int SH.ip_add' set_list)
        (pss_cons (ps_if (pt_cmpR (SH.oNe hr.units) (pv 8) (pv 6) (nomark _)) (pss_one (ps_set (i := 7) sc_joined.nd rfl (Or.inl rfl) pe_int)) pss_nil)
        (pss_cons (ps_set (i := 6) sc_joined.nd rfl (Or.inl rfl) (pv 8))
        (pss_cons (ps_aug (i := 7) sc_joined.nd rfl (Or.inl rfl) pe_int SH.ip_add')
        (pss_one (ps_if (PW.pt (pw_and (pt_cmpR (SH.oEq hr.units) (pv 7) (SH.pe_k T.k_WINS) (nomark _)) (pw_and1 (pt_cmpR (SH.oLt hr.units0) (pe_ix SH.ixA (pv 4) (pv 8) (fun _ _ => rfl)) (pe_callB SH.cLen (by rfl) T.z_len (by decide +kernel) (pa_cons (pe_ix SH.ixA (pv 3) (pv 8) (fun _ _ => rfl)) pa_nil)) (nomark _))))) (pss_cons (ps_expr (SH.pe_callF C_leap_taken hr (by rfl) (L2N.passes_call (L2N.takes_of rfl rfl rfl rfl) fun _ _ _ _ h => h) (pa_cons (pv 0) (pa_cons (pv 3) (pa_cons (pv 4) (pa_cons (pv 8) (pa_cons (pv 5) pa_nil)))))))
        (pss_one (ps_set (i := 7) sc_joined.nd rfl (Or.inl rfl) pe_int))) pss_nil)))))))))
        (pss_one (ps_ret (pe_op SH.oAdd (pe_op SH.oAdd (pv 5) (pe_slice sl_list (pv 1) (po_some (pe_ix SH.ixA (pv 4) pe_int (fun _ _ => rfl))) po_none)) (pe_slice sl_list (pv 2) (po_some (pe_ix SH.ixA (pv 4) pe_int (fun _ _ => rfl))) po_none)))))))))), ?_⟩
  walk_at "begin"
  walk_at "rd"
  intro sd hsd
  walk_at "rd"
  intro at_ hat
  walk_at "rd"
  intro td htd
  have S1 : Stp [] H (upd (upd (upd H sd (.tup [.ref la, .ref ra])) at_ (.lst [.int 0, .int 0])) td (.lst [])) := (((Stp.refl [] H).new hsd).new hat).new htd
  have hsd1 : SqT K (upd (upd (upd H sd (.tup [.ref la, .ref ra])) at_ (.lst [.int 0, .int 0])) td (.lst [])) sd [.ref la, .ref ra] := SqT.of (upd_old (upd_old upd_same hat) htd)
  have hat1 : upd (upd (upd H sd (.tup [.ref la, .ref ra])) at_ (.lst [.int 0, .int 0])) td (.lst []) at_ = some (.lst (iv fun _ => 0)) := upd_old upd_same htd
  have htd1 : upd (upd (upd H sd (.tup [.ref la, .ref ra])) at_ (.lst [.int 0, .int 0])) td (.lst []) td = some (.lst (nv [])) := upd_same
  have nAT : at_ ≠ td := ne_of_none upd_same htd
  have hatH : H at_ = none := (upd_free hat).1
  have htdH : H td = none := (upd_free (upd_free htd).1).1
  generalize upd (upd (upd H sd (.tup [.ref la, .ref ra])) at_ (.lst [.int 0, .int 0])) td (.lst []) = H1 at S1 hsd1 hat1 htd1 ⊢
  have nA := hA.freshO hatH
  have nT := hA.freshO htdH
  have nlA : la ≠ at_ := ne_of_none hla hatH
  have nlT : la ≠ td := ne_of_none hla htdH
  have nrA : ra ≠ at_ := ne_of_none hra hatH
  have nrT : ra ≠ td := ne_of_none hra htdH
  have hla1 := S1.keep0 hla
  have hra1 := S1.keep0 hra
  have hA1 := hA.stp S1 (by simp)
  obtain ⟨L, hL⟩ : ∃ L, L = LR left right := ⟨_, rfl⟩
  have hLf : L false = left := by rw [hL]; rfl
  have hLt : L true = right := by rw [hL]; rfl
  rw [← hL] at k kx
  have hdL : ∀ x ∈ L false, ∀ y ∈ L true, x ≠ y := by rw [hLf, hLt]; exact hdis
  walk_at "rd"
  refine r_while (fun m σ H' => ∃ (p : Bool → Nat) (last : Bool) (wins : Nat) (es : List Ent) (told : List Nat) (v8 : Option V), m = left.length + right.length - (p false + p true) ∧ p false ≤ left.length ∧ p true ≤ right.length ∧ es.length ≤ 3 * (p false + p true) ∧ told.length = p false + p true ∧
    (∀ rest res, JN L p last wins rest res → JN L (fun _ => 0) false 0 (es ++ rest) (told ++ res)) ∧ Told I.or log es ∧ Stp (at_ :: td :: I.M) H1 H' ∧ I.At K A H' (log ++ es) ∧ H' at_ = some (.lst (iv p)) ∧ H' td = some (.lst (nv told)) ∧
    σ = [some (.ref I.s), some (.ref la), some (.ref ra), some (.ref sd), some (.ref at_), some (.ref td), some (.int (last.toNat : Nat)), some (.int (wins : Nat)), v8])
    ⟨_, fun _ => 0, false, 0, [], [], _, rfl, Nat.zero_le _, Nat.zero_le _, by simp, rfl, fun rest res h => h, True.intro, .refl _ _, by rw [List.append_nil]; exact hA1, hat1, htd1, rfl⟩ ?_
  rintro m σ H2 ⟨p, last, wins, es, told, v8, rfl, hp0, hp1, hes, htold, hJ, hT, S2, hA2, hat2, htd2, rfl⟩
  have hla2 := S2.keep hla1 (by simp only [List.mem_cons, not_or]; exact ⟨nlA, nlT, nla⟩)
  have hra2 := S2.keep hra1 (by simp only [List.mem_cons, not_or]; exact ⟨nrA, nrT, nra⟩)
  have S02 : Stp I.M H H2 := by
    refine (S1.mono (fun b hb => by simp at hb)).then S2 fun b hb => ?_
    rcases List.mem_cons.mp hb with rfl | hb
    · exact .inr hatH
    rcases List.mem_cons.mp hb with rfl | hb
    · exact .inr htdH
    exact .inl hb
  walk_at "rd"
  refine v_ixLn (n := 0) (SqL.of hat2) rfl rfl ?_
  walk_at "rd"
  refine r_w (fun h0 => ?_) fun h0 => ?_
  rotate_left
  · walk_at "rd"
    refine v_ixLn (n := 0) (SqL.of hat2) rfl rfl ?_
    walk_at "rd"
    intro q1 hq1
    rw [cut_map, cutL_from]
    refine v_addL (upd_old htd2 hq1) upd_same (Nat.le_trans (m := 10000) (by simp only [List.length_map, List.length_drop]; omega) (by decide)) fun q2 hq2 => ?_
    walk_at "rd"
    refine v_ixLn (n := 1) (SqL.of (upd_old (upd_old hat2 hq1) hq2)) rfl rfl ?_
    walk_at "rd"
    intro q3 hq3
    rw [cut_map, cutL_from]
    refine v_addL (upd_old upd_same hq3) upd_same (Nat.le_trans (m := 10000) (by simp only [List.length_append, List.length_map, List.length_drop]; omega) (by decide)) fun q4 hq4 => ?_
    walk_at "rd"
    have := hJ [] _ (.done (.inl (by rw [hLf]; omega)))
    rw [List.append_nil] at this
    have S3 := (((Stp.refl [] H2).new (o := .lst (nv (left.drop (p false)))) hq1).new (o := .lst (nv told ++ nv (left.drop (p false)))) hq2).new (o := .lst (nv (right.drop (p true)))) hq3
    refine k _ q4 es _ ?_ (by omega) hT this (S02.then0 (S3.new hq4)) (hA2.stp (S3.new hq4) (by simp)) ?_
    · exact S1.dom _ (S2.dom _ (S3.dom _ hq4))
    · rw [upd_same, hLf, hLt]; simp only [nv, List.map_append, List.append_assoc]
  · walk_at "rd"
    refine v_ixLn (n := 1) (SqL.of hat2) rfl rfl ?_
    walk_at "rd"
    refine r_w (fun h1 => ?_) fun h1 => ?_
    rotate_left
    · walk_at "rd"
      refine v_ixLn (n := 0) (SqL.of hat2) rfl rfl ?_
      walk_at "rd"
      intro q1 hq1
      rw [cut_map, cutL_from]
      refine v_addL (upd_old htd2 hq1) upd_same (Nat.le_trans (m := 10000) (by simp only [List.length_map, List.length_drop]; omega) (by decide)) fun q2 hq2 => ?_
      walk_at "rd"
      refine v_ixLn (n := 1) (SqL.of (upd_old (upd_old hat2 hq1) hq2)) rfl rfl ?_
      walk_at "rd"
      intro q3 hq3
      rw [cut_map, cutL_from]
      refine v_addL (upd_old upd_same hq3) upd_same (Nat.le_trans (m := 10000) (by simp only [List.length_append, List.length_map, List.length_drop]; omega) (by decide)) fun q4 hq4 => ?_
      walk_at "rd"
      have := hJ [] _ (.done (.inr (by rw [hLt]; omega)))
      rw [List.append_nil] at this
      have S3 := (((Stp.refl [] H2).new (o := .lst (nv (left.drop (p false)))) hq1).new (o := .lst (nv told ++ nv (left.drop (p false)))) hq2).new (o := .lst (nv (right.drop (p true)))) hq3
      refine k _ q4 es _ ?_ (by omega) hT this (S02.then0 (S3.new hq4)) (hA2.stp (S3.new hq4) (by simp)) ?_
      · exact S1.dom _ (S2.dom _ (S3.dom _ hq4))
      · rw [upd_same, hLf, hLt]; simp only [nv, List.map_append, List.append_assoc]
    · refine r_next_turn ?_
      have hs2 := hA2.hs
      have hsd2 := S2.sqtM hsd1
      walk_at "rd"
      refine v_ixLn (n := 0) (SqL.of hat2) rfl rfl ?_
      walk_at "rd"
      obtain ⟨l, hl⟩ : ∃ l, left[p false]? = some l := ⟨_, List.getElem?_eq_getElem (by omega)⟩
      obtain ⟨r, hr⟩ : ∃ r, right[p true]? = some r := ⟨_, List.getElem?_eq_getElem (by omega)⟩
      refine v_ixLn (n := p false) (v := .int l) (SqL.of hla2) rfl (by unfold nv; rw [List.getElem?_map, hl]; rfl) ?_
      walk_at "rd"
      refine v_ixLn (n := 1) (SqL.of hat2) rfl rfl ?_
      walk_at "rd"
      refine v_ixLn (n := p true) (v := .int r) (SqL.of hra2) rfl (by unfold nv; rw [List.getElem?_map, hr]; rfl) ?_
      walk_at "rd"
      have hne : l ≠ r := hdis _ (List.mem_of_getElem? hl) _ (List.mem_of_getElem? hr)
      refine ⟨I, _, l, r, rfl, ⟨hA2, hln _ (List.mem_of_getElem? hl), hrn _ (List.mem_of_getElem? hr), hne, by rw [List.length_append]; omega⟩, kx.ask S02 hT (by
        obtain ⟨rest, res, hb, hT'⟩ := JN.total I.or hdL _ p last wins (log ++ es) rfl
        obtain ⟨c, es3, rfl⟩ := hb.first (by rw [hLf]; exact hl) (by rw [hLt]; exact hr)
        exact ⟨c, es3, hT', _, hJ _ _ hb⟩), fun H3 said hsaid S3 hA3 => ?_⟩
      obtain ⟨s', x, y, hs', hx, hy, he⟩ := front_case (L := L) (p := p) (said := said) (by rw [hLf]; exact hl) (by rw [hLt]; exact hr) hne
      have hT3 := Told.app hT (Told.one (e := ⟨max l r, min l r, said⟩) hsaid)
      rw [List.append_assoc] at hA3
      rw [he] at hT3 hA3
      have nA' : at_ ∉ I.M := hA.fresh hatH
      have nT' : td ∉ I.M := hA.fresh htdH
      have hat3 := S3.keep hat2 nA'
      have htd3 := S3.keep htd2 nT'
      have hsd3 := S3.sqtM hsd2
      obtain ⟨lad, hlad⟩ : ∃ lad : Bool → Addr, lad = fun b => if b then ra else la := ⟨_, rfl⟩
      have hsd3' : SqT K H3 sd [.ref (lad false), .ref (lad true)] := by rw [hlad]; exact hsd3
      have hlad3 : ∀ b, H3 (lad b) = some (.lst (nv (L b))) := fun b => by
        cases b
        · rw [hlad, hLf]; exact S3.keep hla2 nla
        · rw [hlad, hLt]; exact S3.keep hra2 nra
      have nladM : ∀ b, lad b ∉ I.M := fun b => by cases b <;> rw [hlad] <;> assumption
      have nladA : ∀ b, lad b ≠ at_ ∧ lad b ≠ td := fun b => by
        cases b
        · rw [hlad]; exact ⟨nlA, nlT⟩
        · rw [hlad]; exact ⟨nrA, nrT⟩
      have hps : p s' < (L s').length := (List.getElem?_eq_some_iff.mp hx).1
      have hpn : p (!s') < (L !s').length := (List.getElem?_eq_some_iff.mp hy).1
      walk_at "rd"
      rw [hs']
      refine v_ixTn (n := s'.toNat) hsd3' rfl (two_at (fun b => V.ref (lad b)) s') ?_
      walk_at "rd"
      refine v_ixLn (n := s'.toNat) (SqL.of hat3) rfl iv_at ?_
      walk_at "rd"
      refine v_ixLn (n := p s') (v := .int x) (SqL.of (hlad3 s')) rfl (by unfold nv; rw [List.getElem?_map, hx]; rfl) ?_
      walk_at "rd"
      refine v_app htd3 (by rw [List.length_map]; omega) ?_
      rw [← nv_app]
      have hat3b := upd_far (u := .lst (nv (told ++ [x]))) nAT hat3
      walk_at "rd"
      refine v_getL (n := s'.toNat) hat3b rfl (by cases s' <;> decide) iv_at ?_
      walk_at "rd"
      refine v_setL (n := s'.toNat) hat3b rfl (by show _ < 2; cases s' <;> decide) ?_
      have e1 : ((p s' : Nat) : Int) + 1 = ((p s' + 1 : Nat) : Int) := by omega
      rw [e1, iv_set]
      have S4 : Stp [at_, td] H3 (upd (upd H3 td (.lst (nv (told ++ [x])))) at_ (.lst (iv (put2 p s' (p s' + 1))))) := ((Stp.refl _ _).putL (by simp) htd3).putL (by simp) hat3b
      have hat4 : upd (upd H3 td (.lst (nv (told ++ [x])))) at_ (.lst (iv (put2 p s' (p s' + 1)))) at_ = some (.lst (iv (put2 p s' (p s' + 1)))) := upd_same
      have htd4 : upd (upd H3 td (.lst (nv (told ++ [x])))) at_ (.lst (iv (put2 p s' (p s' + 1)))) td = some (.lst (nv (told ++ [x]))) := upd_far nAT.symm upd_same
      generalize upd (upd H3 td (.lst (nv (told ++ [x])))) at_ (.lst (iv (put2 p s' (p s' + 1)))) = H4 at S4 hat4 htd4 ⊢
      have hA4 : I.At K A H4 (log ++ (es ++ [ahE x y])) := hA3.stp S4 (by intro m hm; simp only [List.mem_cons, List.not_mem_nil, or_false] at hm; rcases hm with rfl | rfl; exact nA; exact nT)
      have hlad4 : ∀ b, H4 (lad b) = some (.lst (nv (L b))) := fun b => S4.keep (hlad3 b) (by have := nladA b; simp [this])
      have hsd4 := S4.sqtM hsd3'
      have S14 : Stp (at_ :: td :: I.M) H1 H4 := (S2.trans (S3.mono (fun b hb => by simp [hb]))).trans (S4.mono (fun b hb => by simp only [List.mem_cons, List.not_mem_nil, or_false] at hb; rcases hb with rfl | rfl <;> simp))
      clear S4 S3 hA3 hlad3 hsd3 hsd3' htd3 hat3 hat3b hsd2 hs2 hA2 hra2 hla2 htd2 hat2 S02 S2
      walk_at "rd"
      refine r_nwJ (W := fun σ H' => H' = H4 ∧ σ = [some (.ref I.s), some (.ref la), some (.ref ra), some (.ref sd), some (.ref at_), some (.ref td), some (.int (last.toNat : Nat)), some (.int ((if s' = last then wins else 0 : Nat) : Nat)), some (.int (s'.toNat : Nat))]) ?_ (fun hc N hN => ?_) (fun hc N hN => ?_)
      · rintro σ H5 ⟨rfl, rfl⟩
        dsimp only
        obtain ⟨w, hw⟩ : ∃ w, w = (if s' = last then wins + 1 else 1) := ⟨_, rfl⟩
        have ew : (((if s' = last then wins else 0 : Nat) : Nat) : Int) + 1 = (w : Nat) := by rw [hw]; split <;> omega
        walk_at "rd"
        rw [ew]
        have hLb : ∀ b, (L b).length ≤ 1000 := fun b => by cases b; rw [hLf]; exact hll; rw [hLt]; exact hrl
        have hb : ∀ n, p s' + n ≤ (L s').length → put2 p s' (p s' + n) false ≤ left.length ∧ put2 p s' (p s' + n) true ≤ right.length := fun n hn => by
          cases s'
          · rw [hLf] at hn; simp [put2]; omega
          · rw [hLt] at hn; simp [put2]; omega
        refine r_w (fun hw4 => ?_) fun hw4 => ?_
        · walk_at "rd"
          refine v_ixLn (n := s'.toNat) (SqL.of hat4) rfl iv_at ?_
          rw [put2_same]
          walk_at "rd"
          refine v_ixTn (n := s'.toNat) hsd4 rfl (two_at (fun b => V.ref (lad b)) s') ?_
          walk_at "rd"
          refine v_lenLm (SqL.of (hlad4 s')) ?_
          walk_at "rd"
          refine r_w (fun hlt => ?_) fun hlt => ?_
          · walk_at "rd"
            have hLn : ∀ b, ∀ o ∈ L b, o < I.n := fun b => by cases b; rw [hLf]; exact hln; rw [hLt]; exact hrn
            have hLd : ∀ o ∈ L s', o ≠ y := fun o ho => by
              have hy' := List.mem_of_getElem? hy
              cases s'
              · rw [hLf] at ho; have : y ∈ right := by rw [← hLt]; exact hy'
                exact hdis o ho y this
              · rw [hLt] at ho; have : y ∈ left := by rw [← hLf]; exact hy'
                exact (hdis y this o ho).symm
            have e4 : put2 p s' (p s' + 1) s' = p s' + 1 := put2_same
            refine ⟨I, _, sd, at_, td, s', lad, L, put2 p s' (p s' + 1), told ++ [x], y, rfl, ⟨hA4, hsd4, fun b => SqL.of (hlad4 b), hat4, htd4, ⟨nA, nT, nAT, nladM, nladA⟩, hLn, hLd, by rw [put2_not]; exact hy, by rw [e4]; omega, hLb _, by rw [List.length_append, List.length_singleton]; omega, by simp only [List.length_append, List.length_singleton]; omega⟩, ?_, fun H6 g es1 hT4 hLP S6 hA6 hg hat6 htd6 => ?_, fun H6 g es1 hT4 hLP S6 hA6 hg hat6 htd6 => ?_⟩
            · have S04 : Stp I.M H H5 := (S1.mono (fun b hb => by simp at hb)).then S14 fun b hb => by
                rcases List.mem_cons.mp hb with rfl | hb
                · exact .inr hatH
                rcases List.mem_cons.mp hb with rfl | hb
                · exact .inr htdH
                exact .inl hb
              refine kx.sub S04 hT3 fun es2 ⟨g, hLP⟩ hT4 => ?_
              rw [e4] at hLP
              by_cases hg : p s' + 1 + g < (L s').length
              · obtain ⟨rest, res, hb2, hT'⟩ := JN.total I.or hdL _ (put2 (put2 p s' (p s' + 1 + g)) (!s') (p (!s') + 1)) s' 0 (log ++ (es ++ [ahE x y]) ++ es2) rfl
                have := hJ _ _ (.leap s' hx hy (by rw [← hw]; omega) (by omega) hLP hg hb2)
                exact ⟨rest, hT', _, by simpa only [List.append_assoc, List.cons_append, List.nil_append] using this⟩
              · obtain ⟨rest, res, hb2, hT'⟩ := JN.total I.or hdL _ (put2 p s' (p s' + 1 + g)) s' 0 (log ++ (es ++ [ahE x y]) ++ es2) rfl
                have := hJ _ _ (.leapA s' hx hy (by rw [← hw]; omega) (by omega) hLP hg hb2)
                exact ⟨rest, hT', _, by simpa only [List.append_assoc, List.cons_append, List.nil_append] using this⟩
            · rw [e4, put2_put2, put2_not] at hat6
              rw [e4] at htd6 hLP hg
              have hbd := hLP.bd (Nat.le_refl _) (Nat.le_refl _) (by omega) (by omega)
              have hfew := hLP.few0 (by omega)
              have hbs := bits_self (n := g)
              have hT5 := Told.app hT3 hT4
              rw [List.append_assoc] at hA6
              have e5 : p s' + 1 + g = p s' + (1 + g) := by omega
              have hs2 := put2_sum2 (p := p) (s := s') (n := 1 + g)
              have htk : (((L s').drop (p s' + 1)).take g).length = g := by rw [List.length_take, List.length_drop]; omega
              walk_at "rd"
              refine ⟨_, ?_, put2 (put2 p s' (p s' + 1 + g)) (!s') (p (!s') + 1), s', 0, es ++ [ahE x y] ++ es1, told ++ [x] ++ (((L s').drop (p s' + 1)).take g ++ [y]), _, rfl, ?_, ?_, ?_, ?_, fun rest res hr => ?_, hT5, S14.trans S6, hA6, hat6, htd6, rfl⟩
              · rw [e5]; omega
              · have := (hb (1 + g) (by omega)).1; rw [e5]; cases s'
                · simpa [put2] using this
                · have hpn' : p false < (L false).length := hpn
                  rw [hLf] at hpn'; simp [put2]; omega
              · have := (hb (1 + g) (by omega)).2; rw [e5]; cases s'
                · have hpn' : p true < (L true).length := hpn
                  rw [hLt] at hpn'; simp [put2]; omega
                · simpa [put2] using this
              · rw [e5]; simp only [List.length_append, List.length_singleton]; omega
              · rw [e5]; simp only [List.length_append, List.length_singleton, htk]; omega
              · have := hJ _ _ (.leap s' hx hy (by rw [← hw]; omega) (by omega) hLP hg hr)
                simpa only [List.append_assoc, List.cons_append, List.nil_append] using this
            · rw [e4, put2_put2] at hat6
              rw [e4] at htd6 hLP hg
              have hbd := hLP.bd (Nat.le_refl _) (Nat.le_refl _) (by omega) (by omega)
              have hfew := hLP.few0 (by omega)
              have hbs := bits_self (n := g)
              have hT5 := Told.app hT3 hT4
              rw [List.append_assoc] at hA6
              have e5 : p s' + 1 + g = p s' + (1 + g) := by omega
              have hs2 := put2_sum (p := p) (s := s') (n := 1 + g)
              have htk : (((L s').drop (p s' + 1)).take g).length = g := by rw [List.length_take, List.length_drop]; omega
              walk_at "rd"
              refine ⟨_, ?_, put2 p s' (p s' + 1 + g), s', 0, es ++ [ahE x y] ++ es1, told ++ [x] ++ ((L s').drop (p s' + 1)).take g, _, rfl, by rw [e5]; exact (hb _ (by omega)).1, by rw [e5]; exact (hb _ (by omega)).2, ?_, ?_, fun rest res hr => ?_, hT5, S14.trans S6, hA6, hat6, htd6, rfl⟩
              · rw [e5]; omega
              · rw [e5]; simp only [List.length_append, List.length_singleton]; omega
              · rw [e5]; simp only [List.length_append, List.length_singleton, htk]; omega
              · have := hJ _ _ (.leapA s' hx hy (by rw [← hw]; omega) (by omega) hLP hg hr)
                simpa only [List.append_assoc, List.cons_append, List.nil_append] using this
          · walk_at "rd"
            refine ⟨_, ?_, put2 p s' (p s' + 1), s', w, es ++ [ahE x y], told ++ [x], _, rfl, (hb 1 (by omega)).1, (hb 1 (by omega)).2, ?_, ?_, fun rest res hr => ?_, hT3, S14, hA4, hat4, htd4, rfl⟩
            · have := put2_sum (p := p) (s := s') (n := 1); omega
            · have := put2_sum (p := p) (s := s') (n := 1); rw [List.length_append, List.length_singleton]; omega
            · have := put2_sum (p := p) (s := s') (n := 1); rw [List.length_append, List.length_singleton]; omega
            · rw [List.append_assoc, List.append_assoc]
              exact hJ _ _ (.win s' hx hy (fun z => hlt (by have := z.2; omega)) (by rw [← hw]; exact hr))
        · walk_at "rd"
          refine ⟨_, ?_, put2 p s' (p s' + 1), s', w, es ++ [ahE x y], told ++ [x], _, rfl, (hb 1 (by omega)).1, (hb 1 (by omega)).2, ?_, ?_, fun rest res hr => ?_, hT3, S14, hA4, hat4, htd4, rfl⟩
          · have := put2_sum (p := p) (s := s') (n := 1); omega
          · have := put2_sum (p := p) (s := s') (n := 1); rw [List.length_append, List.length_singleton]; omega
          · have := put2_sum (p := p) (s := s') (n := 1); rw [List.length_append, List.length_singleton]; omega
          · rw [List.append_assoc, List.append_assoc]
            exact hJ _ _ (.win s' hx hy (fun z => hw4 (by have := z.1; omega)) (by rw [← hw]; exact hr))
      · walk_at "rd"
        refine hN _ _ ⟨rfl, ?_⟩
        rw [if_neg (fun z => hc (by rw [z]))]
        rfl
      · walk_at "rd"
        refine hN _ _ ⟨rfl, ?_⟩
        rw [if_pos (by cases s' <;> cases last <;> first | rfl | (revert hc; decide))]
/-! ### what a join tells, whatever is told -/
def Ch {α : Type} (R : α → α → Prop) : List α → Prop
  | [] => True
  | x :: l => (∀ y, l.head? = some y → R x y) ∧ Ch R l
theorem Ch.mono {α : Type} {R S : α → α → Prop} (h : ∀ x y, R x y → S x y) : ∀ {l : List α}, Ch R l → Ch S l
  | [], _ => True.intro
  | _ :: _, k => ⟨fun y e => h _ _ (k.1 y e), Ch.mono h k.2⟩
theorem ch_app {α : Type} {R : α → α → Prop} : ∀ {a b : List α}, Ch R a → Ch R b → (∀ x y, a.getLast? = some x → b.head? = some y → R x y) → Ch R (a ++ b)
  | [], _, _, hb, _ => hb
  | [x], b, _, hb, h => ⟨fun y e => h x y rfl e, hb⟩
  | x :: x' :: a, b, ha, hb, h => ⟨fun y e => ha.1 y e, ch_app ha.2 hb fun u v hu hv => h u v (by rw [List.getLast?_cons_cons]; exact hu) hv⟩
theorem ch_idx {α : Type} {R : α → α → Prop} : ∀ {l : List α}, (∀ (i : Nat) (u v : α), l[i]? = some u → l[i + 1]? = some v → R u v) → Ch R l
  | [], _ => True.intro
  | x :: l, h => ⟨fun y e => h 0 x y rfl (by rw [List.getElem?_cons_succ, ← List.head?_eq_getElem?]; exact e), ch_idx fun i u v hu hv => h (i + 1) u v hu hv⟩
theorem ch_at {α : Type} {R : α → α → Prop} : ∀ {l : List α}, Ch R l → ∀ (i : Nat) (u v : α), l[i]? = some u → l[i + 1]? = some v → R u v
  | [], _, i, u, v, hu, _ => by simp at hu
  | x :: l, h, 0, u, v, hu, hv => by
    cases hu
    exact h.1 v (by rw [List.head?_eq_getElem?]; exact hv)
  | x :: l, h, i + 1, u, v, hu, hv => ch_at h.2 i u v hu hv
theorem ch_pw {α : Type} {R : α → α → Prop} (tr : ∀ a b c, R a b → R b c → R a c) : ∀ {l : List α}, Ch R l → l.Pairwise R
  | [], _ => .nil
  | x :: l, h => by
    have ih := ch_pw tr h.2
    refine List.pairwise_cons.mpr ⟨fun z hz => ?_, ih⟩
    cases l with
    | nil => cases hz
    | cons y l =>
      have h1 := h.1 y rfl
      rcases List.mem_cons.mp hz with rfl | hz
      · exact h1
      · exact tr _ _ _ h1 ((List.pairwise_cons.mp ih).1 z hz)
theorem pw_ch {α : Type} {R : α → α → Prop} {l : List α} (h : l.Pairwise R) : Ch R l := ch_idx fun i u v hu hv => by
  obtain ⟨hi, hu⟩ := List.getElem?_eq_some_iff.mp hu
  obtain ⟨hj, hv⟩ := List.getElem?_eq_some_iff.mp hv
  have := List.pairwise_iff_getElem.mp h i (i + 1) hi hj (by omega)
  rw [hu, hv] at this
  exact this
theorem ahE_not {o p : Nat} (h : o ≠ p) : (⟨max o p, min o p, !decide (p < o)⟩ : Ent) = ahE p o := by
  unfold ahE
  rw [Nat.max_comm, Nat.min_comm]
  congr 1
  by_cases e : p < o
  · rw [decide_eq_true e, decide_eq_false (by omega)]; rfl
  · rw [decide_eq_false e, decide_eq_true (by omega)]; rfl
theorem HB.ends {ord : List Nat} {place lo high r : Nat} {es : List Ent} (h : HB ord place lo high es r) : (lo < r → ∃ o, ord[r - 1]? = some o ∧ ahE o place ∈ es) ∧ (r < high → ∃ o, ord[r]? = some o ∧ (⟨max o place, min o place, !decide (place < o)⟩ : Ent) ∈ es) := by
  induction h with
  | done lo => exact ⟨fun z => by omega, fun z => by omega⟩
  | @up lo high o es r h ho k ih =>
    have hbd := k.bd
    refine ⟨fun z => ?_, fun z => ?_⟩
    · by_cases e : (lo + high - 1) / 2 + 1 < r
      · obtain ⟨o', a, b⟩ := ih.1 e; exact ⟨o', a, List.mem_cons_of_mem _ b⟩
      · refine ⟨o, by rw [← ho]; congr 1; omega, List.mem_cons_self ..⟩
    · obtain ⟨o', a, b⟩ := ih.2 z; exact ⟨o', a, List.mem_cons_of_mem _ b⟩
  | @down lo high o es r h ho k ih =>
    have hbd := k.bd
    refine ⟨fun z => ?_, fun z => ?_⟩
    · obtain ⟨o', a, b⟩ := ih.1 z; exact ⟨o', a, List.mem_cons_of_mem _ b⟩
    · by_cases e : r < (lo + high - 1) / 2
      · obtain ⟨o', a, b⟩ := ih.2 e; exact ⟨o', a, List.mem_cons_of_mem _ b⟩
      · refine ⟨o, by rw [← ho]; congr 1; omega, List.mem_cons_self ..⟩
theorem LP.lo_le {ord : List Nat} {place first lo step r : Nat} {es : List Ent} (h : LP ord place first lo step es r) (hf : first ≤ lo) (h1 : lo < first + step) : lo ≤ first + r := by
  induction h with
  | more h ho k ih => have := ih (by omega) (by omega); omega
  | stop h ho k => have := k.bd; omega
  | over h k => have := k.bd; omega
theorem LP.ends {ord : List Nat} {place first lo step r : Nat} {es : List Ent} (h : LP ord place first lo step es r) (hf : first ≤ lo) (h0 : 1 ≤ step) (h1 : lo < first + step) :
    (lo < first + r → ∃ o, ord[first + r - 1]? = some o ∧ ahE o place ∈ es) ∧ (first + r < ord.length → ∃ o, ord[first + r]? = some o ∧ (⟨max o place, min o place, !decide (place < o)⟩ : Ent) ∈ es) := by
  induction h with
  | @more lo step o es r h ho k ih =>
    obtain ⟨i1, i2⟩ := ih (by omega) (by omega) (by omega)
    refine ⟨fun z => ?_, fun z => ?_⟩
    · by_cases e : first + step < first + r
      · obtain ⟨o', a, b⟩ := i1 e; exact ⟨o', a, List.mem_cons_of_mem _ b⟩
      · have := k.lo_le (by omega) (by omega)
        refine ⟨o, by rw [← ho]; congr 1; omega, List.mem_cons_self ..⟩
    · obtain ⟨o', a, b⟩ := i2 z; exact ⟨o', a, List.mem_cons_of_mem _ b⟩
  | @stop lo step o es r h ho k =>
    have hbd := k.bd
    obtain ⟨i1, i2⟩ := k.ends
    refine ⟨fun z => ?_, fun z => ?_⟩
    · obtain ⟨o', a, b⟩ := i1 (by omega); exact ⟨o', by rw [← a]; congr 1; omega, List.mem_cons_of_mem _ b⟩
    · by_cases e : r < first + step - 1
      · obtain ⟨o', a, b⟩ := i2 e; exact ⟨o', by rw [← a]; congr 1; omega, List.mem_cons_of_mem _ b⟩
      · refine ⟨o, by rw [← ho]; congr 1; omega, List.mem_cons_self ..⟩
  | @over lo step es r h k =>
    have hbd := k.bd
    obtain ⟨i1, i2⟩ := k.ends
    refine ⟨fun z => ?_, fun z => ?_⟩
    · obtain ⟨o', a, b⟩ := i1 (by omega); exact ⟨o', by rw [← a]; congr 1; omega, b⟩
    · obtain ⟨o', a, b⟩ := i2 (by omega); exact ⟨o', by rw [← a]; congr 1; omega, b⟩
/-- two neighbours of what is told: neighbours of a side, or asked about -/
def Nb (L : Bool → List Nat) (E : List Ent) (u v : Nat) : Prop := (∃ (b : Bool) (i : Nat), (L b)[i]? = some u ∧ (L b)[i + 1]? = some v) ∨ ahE u v ∈ E
theorem Nb.mono {L : Bool → List Nat} {E F : List Ent} (h : ∀ e ∈ E, e ∈ F) {u v : Nat} (k : Nb L E u v) : Nb L F u v := k.imp id (h _)
theorem JN.head {L : Bool → List Nat} {p : Bool → Nat} {last : Bool} {wins : Nat} {es : List Ent} {res : List Nat} (h : JN L p last wins es res) {z : Nat} (hz : res.head? = some z) : ∃ b, (L b)[p b]? = some z := by
  cases h with
  | done h =>
    rcases h with h | h
    · rw [List.drop_of_length_le h, List.nil_append, List.head?_drop] at hz; exact ⟨true, hz⟩
    · rw [List.drop_of_length_le h, List.append_nil, List.head?_drop] at hz; exact ⟨false, hz⟩
  | win s hx hy h k => cases hz; exact ⟨s, hx⟩
  | leap s hx hy h h2 hL h3 k => cases hz; exact ⟨s, hx⟩
  | leapA s hx hy h h2 hL h3 k => cases hz; exact ⟨s, hx⟩
theorem ch_drop {L : Bool → List Nat} {E : List Ent} (b : Bool) (i n : Nat) : Ch (Nb L E) (((L b).drop i).take n) := ch_idx fun j u v hu hv => by
  have e1 : j < n := by
    by_cases h : j < n
    · exact h
    · rw [List.getElem?_eq_none (by rw [List.length_take]; omega)] at hu; cases hu
  have e2 : j + 1 < n := by
    by_cases h : j + 1 < n
    · exact h
    · rw [List.getElem?_eq_none (by rw [List.length_take]; omega)] at hv; cases hv
  rw [List.getElem?_take_of_lt e1, List.getElem?_drop] at hu
  rw [List.getElem?_take_of_lt e2, List.getElem?_drop] at hv
  exact .inl ⟨b, i + j, hu, hv⟩
theorem getLast_take {l : List Nat} {i n : Nat} (h : i + n < l.length) : ((l.drop i).take (n + 1)).getLast? = l[i + n]? := by
  rw [List.getLast?_eq_getElem?, List.length_take, List.length_drop, List.getElem?_take_of_lt (by omega), List.getElem?_drop]
  congr 1
  omega
theorem drop_cons {l : List Nat} {i x : Nat} (h : l[i]? = some x) : l.drop i = x :: l.drop (i + 1) := by
  obtain ⟨hi, e⟩ := List.getElem?_eq_some_iff.mp h
  rw [List.drop_eq_getElem_cons hi, e]
theorem take_cons {l : List Nat} {i x n : Nat} (h : l[i]? = some x) : x :: (l.drop (i + 1)).take n = (l.drop i).take (n + 1) := by
  rw [drop_cons h, List.take_succ_cons]
theorem JN.chain {L : Bool → List Nat} (hd : ∀ x ∈ L false, ∀ y ∈ L true, x ≠ y) {p : Bool → Nat} {last : Bool} {wins : Nat} {es : List Ent} {res : List Nat} (h : JN L p last wins es res) : Ch (Nb L es) res := by
  have hds : ∀ (s : Bool) (x y : Nat), x ∈ L s → y ∈ L (!s) → x ≠ y := fun s x y hx hy => by
    cases s
    · exact hd x hx y hy
    · exact (hd y hy x hx).symm
  induction h with
  | @done p last wins h =>
    rcases h with h | h
    · rw [List.drop_of_length_le h, List.nil_append]
      have := ch_drop (L := L) (E := []) true (p true) (L true).length
      rwa [List.take_of_length_le (by rw [List.length_drop]; omega)] at this
    · rw [List.drop_of_length_le h, List.append_nil]
      have := ch_drop (L := L) (E := []) false (p false) (L false).length
      rwa [List.take_of_length_le (by rw [List.length_drop]; omega)] at this
  | @win p last wins s x y es res hx hy h k ih =>
    refine ⟨fun z hz => ?_, ih.mono fun _ _ => Nb.mono fun _ h => List.mem_cons_of_mem _ h⟩
    obtain ⟨b, hb⟩ := k.head hz
    by_cases e : b = s
    · subst e; rw [put2_same] at hb; exact .inl ⟨b, _, hx, hb⟩
    · have e' : b = !s := by cases b <;> cases s <;> simp_all
      subst e'
      rw [put2_not, hy] at hb
      cases hb
      exact .inr (List.mem_cons_self ..)
  | @leap p last wins s x y g es1 es res hx hy h h2 hL h3 k ih =>
    have hE : ∀ e ∈ es, e ∈ ahE x y :: (es1 ++ es) := fun e he => by simp [he]
    have hE1 : ∀ e ∈ es1, e ∈ ahE x y :: (es1 ++ es) := fun e he => by simp [he]
    obtain ⟨n1, n2⟩ := hL.ends (Nat.le_refl _) (Nat.le_refl _) (by omega)
    rw [show x :: (((L s).drop (p s + 1)).take g ++ y :: res) = ((L s).drop (p s)).take (g + 1) ++ y :: res by rw [← take_cons hx]; rfl]
    refine ch_app (ch_drop s _ _) ⟨fun z hz => ?_, ih.mono fun _ _ => Nb.mono hE⟩ fun u v hu hv => ?_
    · obtain ⟨b, hb⟩ := k.head hz
      by_cases e : b = s
      · subst e
        rw [put2_not', put2_same] at hb
        obtain ⟨o, a, c⟩ := n2 h3
        rw [a] at hb
        cases hb
        rw [ahE_not (hds _ _ _ (List.mem_of_getElem? a) (List.mem_of_getElem? hy))] at c
        exact .inr (hE1 _ c)
      · have e' : b = !s := by cases b <;> cases s <;> simp_all
        subst e'
        rw [put2_same] at hb
        exact .inl ⟨!s, _, hy, hb⟩
    · cases hv
      rw [getLast_take (by omega)] at hu
      by_cases e : g = 0
      · subst e
        rw [Nat.add_zero, hx] at hu
        cases hu
        exact .inr (List.mem_cons_self ..)
      · obtain ⟨o, a, c⟩ := n1 (by omega)
        rw [show p s + 1 + g - 1 = p s + g by omega, hu] at a
        cases a
        exact .inr (hE1 _ c)
  | @leapA p last wins s x y g es1 es res hx hy h h2 hL h3 k ih =>
    have hE : ∀ e ∈ es, e ∈ ahE x y :: (es1 ++ es) := fun e he => by simp [he]
    have hE1 : ∀ e ∈ es1, e ∈ ahE x y :: (es1 ++ es) := fun e he => by simp [he]
    have hbd := hL.bd (Nat.le_refl _) (Nat.le_refl _) (by omega) (by omega)
    obtain ⟨n1, n2⟩ := hL.ends (Nat.le_refl _) (Nat.le_refl _) (by omega)
    rw [show x :: (((L s).drop (p s + 1)).take g ++ res) = ((L s).drop (p s)).take (g + 1) ++ res by rw [← take_cons hx]; rfl]
    refine ch_app (ch_drop s _ _) (ih.mono fun _ _ => Nb.mono hE) fun u v hu hv => ?_
    obtain ⟨b, hb⟩ := k.head hv
    have e' : b = !s := by
      by_cases e : b = s
      · subst e
        rw [put2_same, List.getElem?_eq_none (by omega)] at hb
        cases hb
      · cases b <;> cases s <;> simp_all
    subst e'
    rw [put2_not, hy] at hb
    cases hb
    rw [getLast_take (by omega)] at hu
    by_cases e : g = 0
    · subst e
      rw [Nat.add_zero, hx] at hu
      cases hu
      exact .inr (List.mem_cons_self ..)
    · obtain ⟨o, a, c⟩ := n1 (by omega)
      rw [show p s + 1 + g - 1 = p s + g by omega, hu] at a
      cases a
      exact .inr (hE1 _ c)
theorem JN.perm {L : Bool → List Nat} {p : Bool → Nat} {last : Bool} {wins : Nat} {es : List Ent} {res : List Nat} (h : JN L p last wins es res) : res.Perm ((L false).drop (p false) ++ (L true).drop (p true)) := by
  induction h with
  | done h => exact .refl _
  | @win p last wins s x y es res hx hy h k ih =>
    refine List.Perm.trans ?_ (two_perm (fun b => (L b).drop (p b)) s).symm
    have ih' := ih.trans (two_perm (fun b => (L b).drop (put2 p s (p s + 1) b)) s)
    simp only [put2_same, put2_not] at ih'
    rw [drop_cons hx, List.cons_append]
    exact ih'.cons x
  | @leap p last wins s x y g es1 es res hx hy h h2 hL h3 k ih =>
    refine List.Perm.trans ?_ (two_perm (fun b => (L b).drop (p b)) s).symm
    have ih' := ih.trans (two_perm (fun b => (L b).drop (put2 (put2 p s (p s + 1 + g)) (!s) (p (!s) + 1) b)) s)
    simp only [put2_same, put2_not, put2_not'] at ih'
    rw [drop_cons hx, drop_cons hy, List.cons_append]
    refine List.Perm.cons x ?_
    have e : (L s).drop (p s + 1) = ((L s).drop (p s + 1)).take g ++ (L s).drop (p s + 1 + g) := by
      rw [show (L s).drop (p s + 1 + g) = ((L s).drop (p s + 1)).drop g by rw [List.drop_drop]]; exact (List.take_append_drop g _).symm
    refine List.Perm.trans ?_ (by rw [← e] : (((L s).drop (p s + 1)).take g ++ (L s).drop (p s + 1 + g) ++ y :: (L !s).drop (p (!s) + 1)).Perm ((L s).drop (p s + 1) ++ y :: (L !s).drop (p (!s) + 1)))
    rw [List.append_assoc]
    refine List.Perm.append_left _ ?_
    exact (ih'.cons y).trans List.perm_middle.symm
  | @leapA p last wins s x y g es1 es res hx hy h h2 hL h3 k ih =>
    refine List.Perm.trans ?_ (two_perm (fun b => (L b).drop (p b)) s).symm
    have ih' := ih.trans (two_perm (fun b => (L b).drop (put2 p s (p s + 1 + g) b)) s)
    simp only [put2_same, put2_not] at ih'
    rw [drop_cons hx, List.cons_append]
    refine List.Perm.cons x ?_
    have e : (L s).drop (p s + 1) = ((L s).drop (p s + 1)).take g ++ (L s).drop (p s + 1 + g) := by
      rw [show (L s).drop (p s + 1 + g) = ((L s).drop (p s + 1)).drop g by rw [List.drop_drop]]; exact (List.take_append_drop g _).symm
    refine List.Perm.trans ?_ (by rw [← e] : (((L s).drop (p s + 1)).take g ++ (L s).drop (p s + 1 + g) ++ (L !s).drop (p (!s))).Perm ((L s).drop (p s + 1) ++ (L !s).drop (p (!s))))
    rw [List.append_assoc]
    exact List.Perm.append_left _ ih'
theorem HB.gt {ord : List Nat} {place lo high r : Nat} {es : List Ent} (h : HB ord place lo high es r) (hne : ∀ o ∈ ord, o ≠ place) : ∀ e ∈ es, e.b < e.a := by
  induction h with
  | done lo => simp
  | @up lo high o es r h ho k ih => intro e he; rcases List.mem_cons.mp he with rfl | he; have := hne o (List.mem_of_getElem? ho); show min _ _ < max _ _; omega; exact ih e he
  | @down lo high o es r h ho k ih => intro e he; rcases List.mem_cons.mp he with rfl | he; have := hne o (List.mem_of_getElem? ho); show min _ _ < max _ _; omega; exact ih e he
theorem LP.gt {ord : List Nat} {place first lo step r : Nat} {es : List Ent} (h : LP ord place first lo step es r) (hne : ∀ o ∈ ord, o ≠ place) : ∀ e ∈ es, e.b < e.a := by
  induction h with
  | @more lo step o es r h ho k ih => intro e he; rcases List.mem_cons.mp he with rfl | he; have := hne o (List.mem_of_getElem? ho); show min _ _ < max _ _; omega; exact ih e he
  | @stop lo step o es r h ho k => intro e he; rcases List.mem_cons.mp he with rfl | he; have := hne o (List.mem_of_getElem? ho); show min _ _ < max _ _; omega; exact k.gt hne e he
  | over h k => exact k.gt hne
theorem JN.gt {L : Bool → List Nat} (hd : ∀ x ∈ L false, ∀ y ∈ L true, x ≠ y) {p : Bool → Nat} {last : Bool} {wins : Nat} {es : List Ent} {res : List Nat} (h : JN L p last wins es res) : ∀ e ∈ es, e.b < e.a := by
  have hds : ∀ (s : Bool) (x y : Nat), x ∈ L s → y ∈ L (!s) → x ≠ y := fun s x y hx hy => by
    cases s
    · exact hd x hx y hy
    · exact (hd y hy x hx).symm
  induction h with
  | done h => simp
  | @win p last wins s x y es res hx hy h k ih =>
    intro e he
    rcases List.mem_cons.mp he with rfl | he
    · have := hds s x y (List.mem_of_getElem? hx) (List.mem_of_getElem? hy); show min _ _ < max _ _; omega
    · exact ih e he
  | @leap p last wins s x y g es1 es res hx hy h h2 hL h3 k ih =>
    intro e he
    rcases List.mem_cons.mp he with rfl | he
    · have := hds s x y (List.mem_of_getElem? hx) (List.mem_of_getElem? hy); show min _ _ < max _ _; omega
    · rcases List.mem_append.mp he with he | he
      · exact hL.gt (fun o ho => hds s o y ho (List.mem_of_getElem? hy)) e he
      · exact ih e he
  | @leapA p last wins s x y g es1 es res hx hy h h2 hL h3 k ih =>
    intro e he
    rcases List.mem_cons.mp he with rfl | he
    · have := hds s x y (List.mem_of_getElem? hx) (List.mem_of_getElem? hy); show min _ _ < max _ _; omega
    · rcases List.mem_append.mp he with he | he
      · exact hL.gt (fun o ho => hds s o y ho (List.mem_of_getElem? hy)) e he
      · exact ih e he
/-! ### one stretch -/
def StretchEs (first end_ at_ : Nat) (fall : Bool) (es : List Ent) : Prop :=
  (first + 1 = end_ ∧ at_ = end_ ∧ fall = false ∧ es = []) ∨
  (first + 1 < end_ ∧ first + 1 < at_ ∧ at_ ≤ end_ ∧ ∃ c : Nat → Bool, es = (List.range' (first + 1) (min (at_ + 1) end_ - (first + 1))).map (fun k => ⟨k, k - 1, c k⟩) ∧ (∀ k, first < k → k < at_ → c k = fall) ∧ (at_ < end_ → c at_ ≠ fall))
theorem ents_succ {first at_ : Nat} {c : Nat → Bool} {b : Bool} (h : first < at_) : (List.range' (first + 1) (at_ + 1 - (first + 1))).map (fun k => (⟨k, k - 1, if k = at_ then b else c k⟩ : Ent)) = (List.range' (first + 1) (at_ - (first + 1))).map (fun k => (⟨k, k - 1, c k⟩ : Ent)) ++ [⟨at_, at_ - 1, b⟩] := by
  rw [show at_ + 1 - (first + 1) = (at_ - (first + 1)) + 1 by omega, List.range'_concat, List.map_append, show first + 1 + 1 * (at_ - (first + 1)) = at_ by omega]
  congr 1
  · refine List.map_congr_left fun k hk => ?_
    have := List.mem_range'_1.mp hk
    rw [if_neg (by omega)]
  · simp
theorem StretchEs.ext (or : List Ent → Nat → Nat → Bool) {first end_ : Nat} {said : Bool} : ∀ (m at_ : Nat) (c : Nat → Bool) (log : List Ent), end_ - at_ = m → first + 1 < at_ → at_ ≤ end_ → (∀ k, first < k → k < at_ → c k = said) →
    ∃ at' es3, StretchEs first end_ at' said ((List.range' (first + 1) (at_ - (first + 1))).map (fun k => (⟨k, k - 1, c k⟩ : Ent)) ++ es3) ∧ Told or log es3 ∧ (at_ < end_ → ∃ b es4, es3 = (⟨at_, at_ - 1, b⟩ : Ent) :: es4) := by
  intro m
  induction m with
  | zero =>
    intro at_ c log hm h1 h2 hc
    obtain rfl : at_ = end_ := by omega
    exact ⟨at_, [], .inr ⟨by omega, h1, h2, c, by rw [List.append_nil, show min (at_ + 1) at_ = at_ by omega], hc, fun h => by omega⟩, True.intro, fun h => by omega⟩
  | succ m ih =>
    intro at_ c log hm h1 h2 hc
    have hlt : at_ < end_ := by omega
    by_cases e : or log at_ (at_ - 1) = said
    · obtain ⟨at', es4, hS, hT, _⟩ := ih (at_ + 1) (fun k => if k = at_ then or log at_ (at_ - 1) else c k) (log ++ [⟨at_, at_ - 1, or log at_ (at_ - 1)⟩]) (by omega) (by omega) (by omega) (fun k hk1 hk2 => by
        by_cases z : k = at_
        · show (if k = at_ then _ else _) = _
          rw [if_pos z]; exact e
        · show (if k = at_ then _ else _) = _
          rw [if_neg z]; exact hc k hk1 (by omega))
      rw [ents_succ (by omega), List.append_assoc] at hS
      exact ⟨at', _, hS, ⟨rfl, hT⟩, fun _ => ⟨_, _, rfl⟩⟩
    · refine ⟨at_, [⟨at_, at_ - 1, or log at_ (at_ - 1)⟩], .inr ⟨by omega, h1, by omega, fun k => if k = at_ then or log at_ (at_ - 1) else c k, by rw [← ents_succ (by omega), show min (at_ + 1) end_ = at_ + 1 by omega], fun k hk1 hk2 => ?_, fun _ => ?_⟩, ⟨rfl, True.intro⟩, fun _ => ⟨_, _, rfl⟩⟩
      · show (if k = at_ then _ else _) = _
        rw [if_neg (by omega)]; exact hc k hk1 hk2
      · show (if at_ = at_ then _ else _) ≠ _
        rw [if_pos rfl]; exact e
theorem StretchEs.total (or : List Ent → Nat → Nat → Bool) {first end_ : Nat} (log : List Ent) (h : first < end_) : ∃ at_ fall es, StretchEs first end_ at_ fall es ∧ Told or log es ∧ (first + 1 < end_ → ∃ b es4, es = (⟨first + 1, first, b⟩ : Ent) :: es4) := by
  by_cases e : first + 1 = end_
  · exact ⟨end_, false, [], .inl ⟨e, rfl, rfl, rfl⟩, True.intro, fun h => by omega⟩
  · obtain ⟨at', es3, hS, hT, _⟩ := StretchEs.ext or (first := first) (end_ := end_) (said := or log (first + 1) first) _ (first + 2) (fun _ => or log (first + 1) first) (log ++ [⟨first + 1, first, or log (first + 1) first⟩]) rfl (by omega) (by omega) (fun _ _ _ => rfl)
    rw [show first + 2 - (first + 1) = 1 by omega] at hS
    exact ⟨at', _, _, hS, ⟨rfl, hT⟩, fun _ => ⟨_, _, rfl⟩⟩
def sp_stretch_from (K : PySem.W.Frag) (A : Ad) : Sp := fun vs H Q E => ∃ (I : Ask) (log : List Ent) (first end_ : Nat) (ev : V), vs = [.ref I.s, .int first, ev] ∧ (I.At K A H log ∧ first < end_ ∧ end_ ≤ I.n ∧ (ev = .int end_ ∨ (ev = .non ∧ end_ = I.n)) ∧ log.length + I.pre.length + (end_ - first) ≤ 100000) ∧
  Stop I K A H log (fun es => ∃ at_ fall, StretchEs first end_ at_ fall es) E ∧
  ∀ H' t at_ fall es, Told I.or log es → StretchEs first end_ at_ fall es → Stp I.M H H' → I.At K A H' (log ++ es) → H t = none → H' t = some (.tup [.int (at_ : Nat), .bl fall]) → Q (.ref t) H'
theorem ok_stretch_from {P : Program} {w : World} {K : PySem.W.Frag} {mg : Str → Option Value} {base : Heap} {A : Ad} {f : Addr} {fd : FuncData} (F : FunD K "stretch_from" "stretch_from" (defArgs s_stretch_from) (defBody s_stretch_from) (defScope s_stretch_from) [.non] [] f fd) (T : Txt K mg A) (M_Asker_ahead : SH.CalM P w K mg base (L2N.CX P w) 3 A.Asker "ahead" [] (sp_Asker_ahead K A)) (M_Asker_many : SH.CalM P w K mg base CX0 1 A.Asker "many" [] (sp_Asker_many K A)) : FnOk P w K mg base (L2N.CX P w) 4 f fd ["asker", "first", "end"] (sp_stretch_from K A) := by
  refine SH.okND F sc_stretch_from (fun vs H Q E h => by obtain ⟨_, _, _, _, _, rfl, _⟩ := h; rfl) (fun cdv A' outer s H vs Q E hr h => ?_)
  obtain ⟨I, log, first, end_, ev, rfl, ⟨hA, hfe, hen, hev, hlog⟩, kx, k⟩ := h
  refine ⟨_, (pss_cons (ps_if (pt_cmpR SH.oIsN (pv 2) pe_non (nomark _)) (pss_one (ps_set (i := 2) sc_stretch_from.nd rfl (Or.inl rfl) (SH.pe_methF0 (pv 0) M_Asker_many hr pass0))) pss_nil)
        (pss_cons (ps_set (i := 3) sc_stretch_from.nd rfl (Or.inl rfl) (pe_op SH.oAdd (pv 1) pe_int))
        (pss_cons (ps_if (pt_cmpR SH.oGe (pv 3) (pv 2) (nomark _)) (pss_one (ps_ret (pe_tup (pa_cons (pv 3) (pa_cons pe_bl pa_nil))))) pss_nil)
        (pss_cons (ps_set (i := 4) sc_stretch_from.nd rfl (Or.inl rfl) (SH.pe_methF (pv 0) M_Asker_ahead hr (L2N.passes_call (L2N.takes_of rfl rfl rfl rfl) fun _ _ _ _ h => h) (pa_cons (pv 3) (pa_cons (pv 1) pa_nil))))
        (pss_cons (ps_aug (i := 3) sc_stretch_from.nd rfl (Or.inl rfl) pe_int SH.ip_add')
        (pss_cons (ps_while (L2.passes_of rfl) (PW.pt (pw_and (pt_cmpR (SH.oLt hr.units0) (pv 3) (pv 2) (nomark _)) (pw_and1 (pt_cmpR (SH.oEq hr.units) (SH.pe_methF (pv 0) M_Asker_ahead hr (L2N.passes_call (L2N.takes_of rfl rfl rfl rfl) fun _ _ _ _ h => h) (pa_cons (pv 3) (pa_cons (pe_op SH.oSub (pv 3) pe_int) pa_nil))) (pv 4) (nomark _))))) (pss_one (ps_aug (i := 3) sc_stretch_from.nd rfl (Or.inl rfl) pe_int SH.ip_add')))
        (pss_one (ps_ret (pe_tup (pa_cons (pv 3) (pa_cons (pv 4) pa_nil))))))))))), ?_⟩
  walk_at "begin"
  walk_at "rd"
  refine r_wJ (W := fun σ H' => H' = H ∧ σ = [some (.ref I.s), some (.int first), some (.int end_), none, none]) ?_ (fun hc N hN => ?_) (fun hc N hN => ?_)
  · rintro σ H1 ⟨rfl, rfl⟩
    dsimp only
    walk_at "rd"
    refine r_w (fun hc => ?_) fun hc => ?_
    · have he : first + 1 = end_ := by omega
      walk_at "rd"
      intro t ht
      exact k _ t (first + 1) false [] True.intro (.inl ⟨he, he, rfl, rfl⟩) ((Stp.refl _ _).new ht) (by rw [List.append_nil]; exact hA.stp ((Stp.refl [] _).new ht) (by simp)) ht upd_same
    walk_at "rd"
    have hs := hA.hs
    walk_at "rd"
    refine ⟨I, log, first + 1, first, rfl, ⟨hA, by omega, by omega, by omega, by omega⟩, (by
      obtain ⟨at', fall, es, hS, hT, hb⟩ := StretchEs.total I.or (first := first) (end_ := end_) log hfe
      obtain ⟨b, es4, rfl⟩ := hb (by omega)
      have := kx.ask (es := []) (x := first + 1) (y := first) (.refl _ _) True.intro ⟨b, es4, by rw [List.append_nil]; exact hT, at', fall, hS⟩
      rw [List.append_nil] at this
      rw [show max (first + 1) first = first + 1 by omega, show min (first + 1) first = first by omega]
      exact this), fun H2 said hsaid S2 hA2 => ?_⟩
    rw [show max (first + 1) first = first + 1 by omega, show min (first + 1) first = first by omega] at hsaid hA2
    rw [show decide (said = decide (first < first + 1)) = said by simp]
    walk_at "rd"
    refine r_while (fun m σ H' => ∃ (at_ : Nat) (c : Nat → Bool), m = end_ - at_ ∧ first + 1 < at_ ∧ at_ ≤ end_ ∧ (∀ k, first < k → k < at_ → c k = said) ∧
      Told I.or log ((List.range' (first + 1) (at_ - (first + 1))).map (fun k => (⟨k, k - 1, c k⟩ : Ent))) ∧ Stp I.M H1 H' ∧ I.At K A H' (log ++ (List.range' (first + 1) (at_ - (first + 1))).map (fun k => (⟨k, k - 1, c k⟩ : Ent))) ∧
      σ = [some (.ref I.s), some (.int first), some (.int end_), some (.int at_), some (.bl said)])
      ⟨_, first + 2, fun _ => said, rfl, by omega, by omega, fun _ _ _ => rfl, ?_, S2, ?_, rfl⟩ ?_
    · rw [show first + 2 - (first + 1) = 1 by omega]
      exact Told.one hsaid
    · rw [show first + 2 - (first + 1) = 1 by omega]
      exact hA2
    rintro m σ H3 ⟨at_, c, rfl, h1, h2, hc2, hT, S3, hA3, rfl⟩
    have hs3 := hA3.hs
    walk_at "rd"
    refine r_w (fun hlt => ?_) fun hlt => ?_
    · walk_at "rd"
      have e1 : (at_ : Int) - 1 = ((at_ - 1 : Nat) : Int) := by omega
      rw [e1]
      have hl3 : (log ++ (List.range' (first + 1) (at_ - (first + 1))).map (fun k => (⟨k, k - 1, c k⟩ : Ent))).length + I.pre.length < 100000 := by
        rw [List.length_append, List.length_map, List.length_range']; omega
      refine ⟨I, _, at_, at_ - 1, rfl, ⟨hA3, by omega, by omega, by omega, hl3⟩, (by
        rw [show max at_ (at_ - 1) = at_ by omega, show min at_ (at_ - 1) = at_ - 1 by omega]
        refine kx.ask S3 hT ?_
        obtain ⟨at', es3, hS, hT', hb⟩ := StretchEs.ext I.or (first := first) (end_ := end_) _ at_ c (log ++ (List.range' (first + 1) (at_ - (first + 1))).map (fun k => (⟨k, k - 1, c k⟩ : Ent))) rfl h1 h2 hc2
        obtain ⟨b, es4, rfl⟩ := hb (by omega)
        exact ⟨b, es4, hT', at', said, hS⟩), fun H4 b hb S4 hA4 => ?_⟩
      rw [show max at_ (at_ - 1) = at_ by omega, show min at_ (at_ - 1) = at_ - 1 by omega] at hb hA4
      rw [show decide (b = decide (at_ - 1 < at_)) = b by rw [decide_eq_true (by omega : at_ - 1 < at_)]; simp]
      have hT4 := Told.app hT (Told.one (e := ⟨at_, at_ - 1, b⟩) hb)
      rw [List.append_assoc] at hA4
      rw [← ents_succ (by omega : first < at_)] at hT4 hA4
      walk_at "rd"
      refine r_w (fun hbe => ?_) fun hbe => ?_
      · refine r_next_turn ?_
        walk_at "rd"
        refine ⟨end_ - (at_ + 1), by omega, at_ + 1, fun k => if k = at_ then b else c k, rfl, by omega, by omega, fun k' hk1 hk2 => ?_, hT4, S3.trans S4, hA4, rfl⟩
        by_cases e : k' = at_
        · show (if k' = at_ then b else c k') = said
          rw [if_pos e]; exact hbe
        · show (if k' = at_ then b else c k') = said
          rw [if_neg e]; exact hc2 k' hk1 (by omega)
      · walk_at "rd"
        intro t ht
        refine k _ t at_ said _ hT4 (.inr ⟨by omega, h1, h2, fun k => if k = at_ then b else c k, by rw [show min (at_ + 1) end_ = at_ + 1 by omega], fun k' hk1 hk2 => ?_, fun _ => ?_⟩) ((S3.trans S4).new ht) (hA4.stp ((Stp.refl [] _).new ht) (by simp)) ((S3.trans S4).dom _ ht) upd_same
        · show (if k' = at_ then b else c k') = said
          rw [if_neg (by omega)]; exact hc2 k' hk1 hk2
        · show (if at_ = at_ then b else c at_) ≠ said
          rw [if_pos rfl]; exact hbe
    · walk_at "rd"
      intro t ht
      have he : at_ = end_ := by omega
      refine k _ t at_ said _ hT (.inr ⟨by omega, h1, h2, c, by rw [show min (at_ + 1) end_ = at_ by omega], hc2, fun h => by omega⟩) (S3.new ht) (hA3.stp ((Stp.refl [] _).new ht) (by simp)) (S3.dom _ ht) upd_same
  · have hs := hA.hs
    walk_at "rd"
    refine ⟨I, log, rfl, hA, ?_⟩
    walk_at "rd"
    refine hN _ _ ⟨rfl, ?_⟩
    rcases hev with h | ⟨_, h⟩
    · rw [h] at hc; cases hc
    · rw [h]
  · walk_at "rd"
    refine hN _ _ ⟨rfl, ?_⟩
    rcases hev with h | ⟨h, _⟩
    · rw [h]
    · exact (hc h).elim

/-- the stretch by an order that doesn't look at the log -/
def Shape (first end_ at_ : Nat) (fall : Bool) (c : Nat → Bool) : Prop := (first + 1 = end_ ∧ at_ = end_ ∧ fall = false) ∨ (first + 1 < end_ ∧ first + 1 < at_ ∧ at_ ≤ end_ ∧ (∀ k, first < k → k < at_ → c k = fall) ∧ (at_ < end_ → c at_ ≠ fall))
def esC (first end_ at_ : Nat) (c : Nat → Bool) : List Ent := (List.range' (first + 1) (min (at_ + 1) end_ - (first + 1))).map (fun k => ⟨k, k - 1, c k⟩)
theorem Shape.uniq {first end_ at1 at2 : Nat} {f1 f2 : Bool} {c : Nat → Bool} (h1 : Shape first end_ at1 f1 c) (h2 : Shape first end_ at2 f2 c) : at1 = at2 ∧ f1 = f2 := by
  rcases h1 with ⟨a, b, d⟩ | ⟨a, b, d, e, f⟩
  · rcases h2 with ⟨a', b', d'⟩ | ⟨a', _⟩
    · exact ⟨by omega, by rw [d, d']⟩
    · omega
  · rcases h2 with ⟨a', _⟩ | ⟨a', b', d', e', f'⟩
    · omega
    · have ef : f1 = f2 := (e (first + 1) (by omega) b).symm.trans (e' (first + 1) (by omega) b')
      subst ef
      refine ⟨?_, rfl⟩
      rcases Nat.lt_trichotomy at1 at2 with h | h | h
      · exact (f (by omega) (e' at1 (by omega) h)).elim
      · exact h
      · exact (f' (by omega) (e at2 (by omega) h)).elim
theorem stretch_told {lt : Nat → Nat → Bool} {log es : List Ent} {first end_ at_ : Nat} {fall : Bool} (h : Told (fun _ => lt) log es) (k : StretchEs first end_ at_ fall es) : Shape first end_ at_ fall (fun k => lt k (k - 1)) ∧ es = esC first end_ at_ (fun k => lt k (k - 1)) := by
  rcases k with ⟨a, b, c, d⟩ | ⟨a, b, d, c, e, f, g⟩
  · refine ⟨.inl ⟨a, b, c⟩, ?_⟩
    unfold esC
    rw [d, show min (at_ + 1) end_ - (first + 1) = 0 by omega]
    rfl
  · have hc : ∀ k, first < k → k < min (at_ + 1) end_ → c k = lt k (k - 1) := fun k h1 h2 => by
      have := h.all ⟨k, k - 1, c k⟩ (by rw [e]; exact List.mem_map.mpr ⟨k, List.mem_range'_1.mpr ⟨by omega, by omega⟩, rfl⟩)
      exact this
    refine ⟨.inr ⟨a, b, d, fun k h1 h2 => ?_, fun h1 => ?_⟩, ?_⟩
    · show lt k (k - 1) = fall
      rw [← hc k h1 (by omega)]; exact f k h1 h2
    · show lt at_ (at_ - 1) ≠ fall
      rw [← hc at_ (by omega) (by omega)]; exact g h1
    · rw [e]
      unfold esC
      refine List.map_congr_left fun k hk => ?_
      have := List.mem_range'_1.mp hk
      rw [hc k (by omega) (by omega)]
/-! ### put in, one by one: what stands so far -/
def ins (ord : List Nat) (r p : Nat) : List Nat := ord.take r ++ p :: ord.drop r
theorem ins_perm {ord : List Nat} {r p : Nat} : (ins ord r p).Perm (p :: ord) := by
  unfold ins
  exact List.perm_middle.trans (by rw [List.take_append_drop])
theorem v_insN {H : Hp} {Q : VK} {a : Addr} {ps : List Nat} {r p : Nat} (h : H a = some (.lst (nv ps))) (hr : r ≤ ps.length) (hl : ps.length < 1000000) (k : Q .non (upd H a (.lst (nv (ins ps r p))))) : rIns (.ref a) [.int (r : Nat), .int (p : Nat)] H Q := by
  refine w_ins (n := r) h rfl (by omega) (by rw [List.length_map]; exact hl) ?_
  have e : (nv ps).take r ++ [V.int (p : Nat)] ++ (nv ps).drop r = nv (ins ps r p) := by
    unfold ins nv
    rw [List.map_append, List.map_cons, List.map_take, List.map_drop, List.append_assoc]
    rfl
  rw [e]
  exact k
theorem pw_nb {R : Nat → Nat → Prop} {l : List Nat} (h : l.Pairwise R) {i u v : Nat} (hu : l[i]? = some u) (hv : l[i + 1]? = some v) : R u v := by
  obtain ⟨hi, hu⟩ := List.getElem?_eq_some_iff.mp hu
  obtain ⟨hj, hv⟩ := List.getElem?_eq_some_iff.mp hv
  have := List.pairwise_iff_getElem.mp h i (i + 1) hi hj (by omega)
  rwa [hu, hv] at this
theorem ins_at {ord : List Nat} {r p i : Nat} (hr : r ≤ ord.length) : (ins ord r p)[i]? = if i < r then ord[i]? else if i = r then some p else ord[i - 1]? := by
  unfold ins
  have hl : (ord.take r).length = r := by rw [List.length_take]; omega
  by_cases h : i < r
  · rw [if_pos h, List.getElem?_append_left (by omega), List.getElem?_take_of_lt h]
  · rw [if_neg h, List.getElem?_append_right (by omega), hl]
    by_cases e : i = r
    · subst e; rw [if_pos rfl, Nat.sub_self]; rfl
    · rw [if_neg e]
      obtain ⟨d, hd⟩ : ∃ d, i - r = d + 1 := ⟨i - r - 1, by omega⟩
      rw [hd, List.getElem?_cons_succ, List.getElem?_drop]
      congr 1
      omega
/-- put in at a spot that fits: still in order -/
theorem ins_pw {R : Nat → Nat → Prop} {ord : List Nat} {r p : Nat} (h : ord.Pairwise R) (h1 : ∀ o ∈ ord.take r, R o p) (h2 : ∀ o ∈ ord.drop r, R p o) : (ins ord r p).Pairwise R := by
  unfold ins
  rw [← List.take_append_drop r ord, List.pairwise_append] at h
  obtain ⟨a, b, c⟩ := h
  rw [List.pairwise_append]
  refine ⟨a, List.pairwise_cons.mpr ⟨h2, b⟩, fun x hx y hy => ?_⟩
  rcases List.mem_cons.mp hy with rfl | hy
  · exact h1 x hx
  · exact c x hx y hy
def Asked (log : List Ent) (ord : List Nat) : Prop := ∀ (i u v : Nat), ord[i]? = some u → ord[i + 1]? = some v → ∃ e ∈ log, e.a = max u v ∧ e.b = min u v
theorem Asked.ins {log es : List Ent} {ord : List Nat} {r p : Nat} (h : Asked log ord) (hr : r ≤ ord.length) (hlt : ∀ o ∈ ord, o < p) (h1 : 0 < r → ∃ o, ord[r - 1]? = some o ∧ ∃ c, (⟨p, o, c⟩ : Ent) ∈ es) (h2 : r < ord.length → ∃ o, ord[r]? = some o ∧ ∃ c, (⟨p, o, c⟩ : Ent) ∈ es) : Asked (log ++ es) (ins ord r p) := by
  intro i u v hu hv
  rw [ins_at hr] at hu hv
  by_cases c1 : i + 1 < r
  · rw [if_pos (by omega)] at hu
    rw [if_pos c1] at hv
    obtain ⟨e, he, q⟩ := h i u v hu hv
    exact ⟨e, List.mem_append_left _ he, q⟩
  · rw [if_neg c1] at hv
    by_cases c2 : i + 1 = r
    · rw [if_pos c2] at hv
      rw [if_pos (by omega)] at hu
      cases hv
      obtain ⟨o, ho, c, he⟩ := h1 (by omega)
      rw [show r - 1 = i by omega, hu] at ho
      cases ho
      have := hlt u (List.mem_of_getElem? hu)
      exact ⟨_, List.mem_append_right _ he, by show p = max u p; omega, by show u = min u p; omega⟩
    · rw [if_neg c2] at hv
      rw [if_neg (by omega)] at hu
      rw [Nat.add_sub_cancel] at hv
      by_cases c3 : i = r
      · rw [if_pos c3] at hu
        cases hu
        subst c3
        obtain ⟨o, ho, c, he⟩ := h2 (List.getElem?_eq_some_iff.mp hv).1
        rw [hv] at ho
        cases ho
        have := hlt v (List.mem_of_getElem? hv)
        exact ⟨_, List.mem_append_right _ he, by show p = max p v; omega, by show v = min p v; omega⟩
      · rw [if_neg c3] at hu
        obtain ⟨e, he, q⟩ := h (i - 1) u v hu (by rw [show i - 1 + 1 = i by omega]; exact hv)
        exact ⟨e, List.mem_append_left _ he, q⟩
/-- what stands so far -/
structure Sofar (ks : List Int) (p : Nat) (ord : List Nat) (log : List Ent) : Prop where
  perm : ord.Perm (List.range p)
  pw : ord.Pairwise (Ahd ks)
  ask : Asked log ord
  ent : ∀ e ∈ log, e.b < e.a ∧ e.a < p
theorem Sofar.lt {ks : List Int} {p : Nat} {ord : List Nat} {log : List Ent} (h : Sofar ks p ord log) {o : Nat} (ho : o ∈ ord) : o < p := List.mem_range.mp (h.perm.mem_iff.mp ho)
theorem Sofar.len {ks : List Int} {p : Nat} {ord : List Nat} {log : List Ent} (h : Sofar ks p ord log) : ord.length = p := by have := h.perm.length_eq; rwa [List.length_range] at this
theorem Sofar.put {ks : List Int} {p r : Nat} {ord : List Nat} {log es : List Ent} (h : Sofar ks p ord log) (hr : r ≤ ord.length) (h1 : ∀ o ∈ ord.take r, ¬ getE ks p < getE ks o) (h2 : ∀ o ∈ ord.drop r, getE ks p < getE ks o)
    (he : ∀ e ∈ es, e.a = p ∧ e.b ∈ ord) (n1 : 0 < r → ∃ o, ord[r - 1]? = some o ∧ ∃ c, (⟨p, o, c⟩ : Ent) ∈ es) (n2 : r < ord.length → ∃ o, ord[r]? = some o ∧ ∃ c, (⟨p, o, c⟩ : Ent) ∈ es) : Sofar ks (p + 1) (ins ord r p) (log ++ es) := by
  refine ⟨?_, ins_pw h.pw (fun o ho => ?_) (fun o ho => ?_), h.ask.ins hr (fun o ho => h.lt ho) n1 n2, fun e hm => ?_⟩
  · rw [List.range_succ]
    exact ins_perm.trans ((h.perm.cons p).trans (List.perm_append_singleton p _).symm)
  · have := h.lt (List.mem_of_mem_take ho)
    have := h1 o ho
    unfold Ahd
    omega
  · have := h2 o ho
    unfold Ahd
    omega
  · rcases List.mem_append.mp hm with hm | hm
    · have := h.ent e hm; omega
    · obtain ⟨q1, q2⟩ := he e hm
      have := h.lt q2
      omega
theorem sofar0 {ks : List Int} : Sofar ks 0 [] [] := ⟨.refl _, .nil, fun i u v hu => by simp at hu, by simp⟩
/-- how many stand behind the spot -/
theorem behind_spot {ks : List Int} {p r : Nat} {ord : List Nat} {log : List Ent} (h : Sofar ks p ord log) (hr : r ≤ ord.length) (h1 : ∀ o ∈ ord.take r, ¬ getE ks p < getE ks o) (h2 : ∀ o ∈ ord.drop r, getE ks p < getE ks o) : ((List.range p).filter fun o => decide (getE ks p < getE ks o)).length = ord.length - r := by
  rw [(h.perm.symm.filter _).length_eq]
  rw [← List.take_append_drop r ord, List.filter_append, List.filter_eq_nil_iff.mpr (fun o ho => by simpa using h1 o ho), List.filter_eq_self.mpr (fun o ho => by simpa using h2 o ho), List.nil_append, List.length_drop, List.take_append_drop]
/-- the asks of a place in the paper: idxOf -/
theorem idx_of {ks : List Int} {n : Nat} {ord : List Nat} (hp : ord.Perm (List.range n)) (hs : ord.Pairwise (Ahd ks)) {a b : Nat} (ha : a < n) (hb : b < n) (hne : b < a) : decide (ord.idxOf a < ord.idxOf b) = decide (getE ks a < getE ks b) := by
  have key : ∀ x, x < n → ∃ hx : ord.idxOf x < ord.length, ord[ord.idxOf x] = x := fun x hx => by
    have hm : x ∈ ord := hp.mem_iff.mpr (List.mem_range.mpr hx)
    exact ⟨List.idxOf_lt_length_of_mem hm, by simp⟩
  obtain ⟨xa, ea⟩ := key a ha
  obtain ⟨xb, eb⟩ := key b hb
  have pw := List.pairwise_iff_getElem.mp hs
  refine decide_eq_decide.mpr ⟨fun h => ?_, fun h => ?_⟩
  · have := pw _ _ xa xb h
    rw [ea, eb] at this
    unfold Ahd at this
    omega
  · apply Classical.byContradiction
    intro z
    by_cases e : ord.idxOf a = ord.idxOf b
    · have : a = b := by rw [← ea, ← eb]; congr 1
      omega
    · have := pw _ _ xb xa (by omega)
      rw [ea, eb] at this
      unfold Ahd at this
      omega
/-! ### putting in: what it asks, by keys -/
/-- the places from p on put in, each at its spot by halving -/
inductive PO (n : Nat) : Nat → List Nat → List Ent → List Nat → Prop
  | done {p : Nat} {ord : List Nat} (h : n ≤ p) : PO n p ord [] ord
  | put {p r : Nat} {ord res : List Nat} {es1 es : List Ent} (h : p < n) (k : Halv ord p 0 ord.length es1 r) (kk : PO n (p + 1) (ins ord r p) es res) : PO n p ord (es1 ++ es) res
theorem Halv.bd {ord : List Nat} {p lo hi r : Nat} {es : List Ent} (h : Halv ord p lo hi es r) : lo ≤ hi → lo ≤ r ∧ r ≤ hi ∧ es.length ≤ hi - lo := by
  induction h with
  | done low => intro _; simp
  | @up low high o es spot h ho k ih => intro _; have := ih (by omega); rw [List.length_cons]; omega
  | @down low high o es spot h ho k ih => intro _; have := ih (by omega); rw [List.length_cons]; omega
theorem Halv.ends {ord : List Nat} {p lo hi r : Nat} {es : List Ent} (h : Halv ord p lo hi es r) (hlt : ∀ o ∈ ord, o < p) : (r = lo ∨ ∃ o, ord[r - 1]? = some o ∧ (⟨p, o, false⟩ : Ent) ∈ es) ∧ (r = hi ∨ ∃ o, ord[r]? = some o ∧ (⟨p, o, true⟩ : Ent) ∈ es) := by
  induction h with
  | done low => exact ⟨.inl rfl, .inl rfl⟩
  | @up low high o es spot h ho k ih =>
    have hop := hlt _ (List.mem_of_getElem? ho)
    obtain ⟨a, b⟩ := ih
    refine ⟨.inr ?_, b.imp id fun ⟨o', h1, h2⟩ => ⟨o', h1, List.mem_cons_of_mem _ h2⟩⟩
    rcases a with a | ⟨o', h1, h2⟩
    · subst a
      refine ⟨o, by rw [Nat.add_sub_cancel]; exact ho, ?_⟩
      rw [show (⟨p, o, false⟩ : Ent) = ⟨max o p, min o p, decide (p < o)⟩ by rw [Nat.max_eq_right (by omega), Nat.min_eq_left (by omega), decide_eq_false (by omega : ¬ p < o)]]
      exact List.mem_cons_self ..
    · exact ⟨o', h1, List.mem_cons_of_mem _ h2⟩
  | @down low high o es spot h ho k ih =>
    have hop := hlt _ (List.mem_of_getElem? ho)
    obtain ⟨a, b⟩ := ih
    refine ⟨a.imp id fun ⟨o', h1, h2⟩ => ⟨o', h1, List.mem_cons_of_mem _ h2⟩, .inr ?_⟩
    rcases b with b | ⟨o', h1, h2⟩
    · subst b
      refine ⟨o, ho, ?_⟩
      rw [show (⟨p, o, true⟩ : Ent) = ⟨max o p, min o p, !decide (p < o)⟩ by rw [Nat.max_eq_right (by omega), Nat.min_eq_left (by omega), decide_eq_false (by omega : ¬ p < o)]; rfl]
      exact List.mem_cons_self ..
    · exact ⟨o', h1, List.mem_cons_of_mem _ h2⟩
theorem Halv.ent {ord : List Nat} {p lo hi r : Nat} {es : List Ent} (h : Halv ord p lo hi es r) (hlt : ∀ o ∈ ord, o < p) : ∀ e ∈ es, e.a = p ∧ e.b ∈ ord := by
  induction h with
  | done low => simp
  | @up low high o es spot h ho k ih =>
    have hop := hlt _ (List.mem_of_getElem? ho)
    intro e he
    rcases List.mem_cons.mp he with rfl | he
    · exact ⟨by show max o p = p; omega, by show min o p ∈ ord; rw [Nat.min_eq_left (by omega)]; exact List.mem_of_getElem? ho⟩
    · exact ih e he
  | @down low high o es spot h ho k ih =>
    have hop := hlt _ (List.mem_of_getElem? ho)
    intro e he
    rcases List.mem_cons.mp he with rfl | he
    · exact ⟨by show max o p = p; omega, by show min o p ∈ ord; rw [Nat.min_eq_left (by omega)]; exact List.mem_of_getElem? ho⟩
    · exact ih e he
theorem Halv.uniq {f : Nat → Nat → Bool} {ord : List Nat} {p lo hi r r' : Nat} {es es' : List Ent} (h : Halv ord p lo hi es r) (h' : Halv ord p lo hi es' r') (hT : ∀ e ∈ es, e.c = f e.a e.b) (hT' : ∀ e ∈ es', e.c = f e.a e.b) : es = es' ∧ r = r' := by
  induction h generalizing es' with
  | done low =>
    cases h' with
    | done => exact ⟨rfl, rfl⟩
    | up h _ _ => omega
    | down h _ _ => omega
  | @up low high o es spot h ho k ih =>
    have t1 := hT _ (List.mem_cons_self ..)
    cases h' with
    | done => omega
    | up h2 ho2 k2 =>
      rw [ho] at ho2; cases ho2
      obtain ⟨rfl, rfl⟩ := ih k2 (fun e he => hT e (List.mem_cons_of_mem _ he)) fun e he => hT' e (List.mem_cons_of_mem _ he)
      exact ⟨rfl, rfl⟩
    | down h2 ho2 k2 =>
      rw [ho] at ho2; cases ho2
      have t2 := hT' _ (List.mem_cons_self ..)
      dsimp only at t1 t2
      rw [← t1] at t2
      exact absurd t2 (by cases decide (p < o) <;> decide)
  | @down low high o es spot h ho k ih =>
    have t1 := hT _ (List.mem_cons_self ..)
    cases h' with
    | done => omega
    | down h2 ho2 k2 =>
      rw [ho] at ho2; cases ho2
      obtain ⟨rfl, rfl⟩ := ih k2 (fun e he => hT e (List.mem_cons_of_mem _ he)) fun e he => hT' e (List.mem_cons_of_mem _ he)
      exact ⟨rfl, rfl⟩
    | up h2 ho2 k2 =>
      rw [ho] at ho2; cases ho2
      have t2 := hT' _ (List.mem_cons_self ..)
      dsimp only at t1 t2
      rw [← t1] at t2
      exact absurd t2 (by cases decide (p < o) <;> decide)
theorem Halv.take {ks : List Int} {p r : Nat} {ord : List Nat} {log es : List Ent} (h : Sofar ks p ord log) (hw : Halv ord p 0 ord.length es r) (hT : ∀ e ∈ es, e.c = decide (getE ks e.a < getE ks e.b)) :
    (∀ o ∈ ord.take r, ¬ getE ks p < getE ks o) ∧ (∀ o ∈ ord.drop r, getE ks p < getE ks o) := by
  have hlt : ∀ o ∈ ord, o < p := fun o ho => h.lt ho
  obtain ⟨_, a, b⟩ := hw.spot hT (fun o ho => by have := hlt o ho; omega) (fun i j x y hij hx hy hA => by
    obtain ⟨hi, hx⟩ := List.getElem?_eq_some_iff.mp hx
    obtain ⟨hj, hy⟩ := List.getElem?_eq_some_iff.mp hy
    have := List.pairwise_iff_getElem.mp h.pw i j hi hj hij
    rw [hx, hy] at this
    exact this.trans hA) (Nat.zero_le _) (Nat.le_refl _) (fun i x hi => by omega) (fun i x hi hx => by have := (List.getElem?_eq_some_iff.mp hx).1; omega)
  refine ⟨fun o ho => ?_, fun o ho => ?_⟩
  · obtain ⟨i, hi, e⟩ := List.getElem_of_mem ho
    rw [List.length_take] at hi
    rw [List.getElem_take] at e
    have := a i o (by omega) (by rw [List.getElem?_eq_getElem (by omega), e])
    have := hlt o (List.mem_of_mem_take ho)
    unfold Ahd at *
    omega
  · obtain ⟨i, hi, e⟩ := List.getElem_of_mem ho
    rw [List.length_drop] at hi
    rw [List.getElem_drop] at e
    have := b (r + i) o (by omega) (by rw [List.getElem?_eq_getElem (by omega), e])
    have := hlt o (List.mem_of_mem_drop ho)
    unfold Ahd at *
    omega
theorem Sofar.put2 {ks : List Int} {p r : Nat} {ord : List Nat} {log es : List Ent} (h : Sofar ks p ord log) (hw : Halv ord p 0 ord.length es r) (hT : ∀ e ∈ es, e.c = decide (getE ks e.a < getE ks e.b)) : Sofar ks (p + 1) (ins ord r p) (log ++ es) := by
  have hlt : ∀ o ∈ ord, o < p := fun o ho => h.lt ho
  obtain ⟨h1, h2⟩ := Halv.take h hw hT
  obtain ⟨n1, n2⟩ := hw.ends hlt
  have hb := hw.bd (Nat.zero_le _)
  exact h.put hb.2.1 h1 h2 (hw.ent hlt) (fun z => by rcases n1 with n1 | ⟨o, a, b⟩; omega; exact ⟨o, a, _, b⟩) (fun z => by rcases n2 with n2 | ⟨o, a, b⟩; omega; exact ⟨o, a, _, b⟩)
theorem PO.sofar {ks : List Int} {n p : Nat} {ord res : List Nat} {log es : List Ent} (hw : PO n p ord es res) (h : Sofar ks p ord log) (hp : p ≤ n) (hT : ∀ e ∈ es, e.c = decide (getE ks e.a < getE ks e.b)) : Sofar ks n res (log ++ es) := by
  induction hw generalizing log with
  | @done p ord hh => rw [List.append_nil, show n = p by omega]; exact h
  | @put p r ord res es1 es hh k kk ih =>
    rw [← List.append_assoc]
    exact ih (h.put2 k fun e he => hT e (List.mem_append_left _ he)) (by omega) fun e he => hT e (List.mem_append_right _ he)
theorem PO.uniq {f : Nat → Nat → Bool} {n p : Nat} {ord res res' : List Nat} {es es' : List Ent} (h : PO n p ord es res) (h' : PO n p ord es' res') (hT : ∀ e ∈ es, e.c = f e.a e.b) (hT' : ∀ e ∈ es', e.c = f e.a e.b) : es = es' ∧ res = res' := by
  induction h generalizing es' with
  | @done p ord hh =>
    cases h' with
    | done => exact ⟨rfl, rfl⟩
    | put h _ _ => omega
  | @put p r ord res es1 es hh k kk ih =>
    cases h' with
    | done => omega
    | put h2 k2 kk2 =>
      obtain ⟨rfl, rfl⟩ := k.uniq k2 (fun e he => hT e (List.mem_append_left _ he)) fun e he => hT' e (List.mem_append_left _ he)
      obtain ⟨rfl, rfl⟩ := ih kk2 (fun e he => hT e (List.mem_append_right _ he)) fun e he => hT' e (List.mem_append_right _ he)
      exact ⟨rfl, rfl⟩
/-- the bits of all numbers below -/
def bsum (n : Nat) : Nat := ((List.range n).map fun k => Builtin.Int.intBits ((k : Nat) : Int)).sum
theorem bsum_succ {n : Nat} : bsum (n + 1) = bsum n + Builtin.Int.intBits ((n : Nat) : Int) := by
  unfold bsum
  rw [List.range_succ, List.map_append, List.sum_append]
  simp
theorem bsum_mono {m n : Nat} (h : m ≤ n) : bsum m ≤ bsum n := by
  induction n with
  | zero => rw [show m = 0 by omega]; exact Nat.le_refl _
  | succ n ih =>
    by_cases e : m = n + 1
    · subst e; exact Nat.le_refl _
    · have := ih (by omega); rw [bsum_succ]; omega
theorem PO.few {n p : Nat} {ord res : List Nat} {es : List Ent} (h : PO n p ord es res) (hl : ord.length = p) (hp : p ≤ n) : es.length + bsum p ≤ bsum n := by
  induction h with
  | @done p ord hh => simpa using bsum_mono hp
  | @put p r ord res es1 es hh k kk ih =>
    have h1 := k.few
    have h2 := k.bd (Nat.zero_le _)
    have h3 := ih (by rw [ins_perm.length_eq, List.length_cons, hl]) (by omega)
    rw [bsum_succ] at h3
    rw [Nat.sub_zero, hl] at h1
    rw [List.length_append]
    omega
theorem bsum_int (m : Nat) : ((List.range m).map fun k => ((Builtin.Int.intBits ((k + 1 : Nat) : Int) : Nat) : Int)).sum = (bsum (m + 1) : Nat) := by
  induction m with
  | zero => rfl
  | succ m ih =>
    rw [List.range_succ, List.map_append, List.sum_append, ih, bsum_succ (n := m + 1)]
    simp
theorem PO.total (or : List Ent → Nat → Nat → Bool) {n : Nat} : ∀ (m p : Nat) (ord : List Nat) (log : List Ent), n - p = m → ∃ es res, PO n p ord es res ∧ Told or log es := by
  intro m
  induction m with
  | zero => intro p ord log hm; exact ⟨[], ord, .done (by omega), True.intro⟩
  | succ m ih =>
    intro p ord log hm
    obtain ⟨es1, r, h1, t1⟩ := Halv.total or (ord := ord) (place := p) _ 0 ord.length log rfl (Nat.zero_le _) (Nat.le_refl _)
    obtain ⟨es2, res, h2, t2⟩ := ih (p + 1) (ins ord r p) (log ++ es1) (by omega)
    exact ⟨_, res, .put (by omega) h1 h2, Told.app t1 t2⟩
/-! ### what a stretch tells, by keys -/
def kd (ks : List Int) (k : Nat) : Bool := decide (getE ks k < getE ks (k - 1))
structure StrK (ks : List Int) (first end_ at_ : Nat) (fall : Bool) : Prop where
  lo : first < at_
  hi : at_ ≤ end_
  run : ∀ k, first < k → k < at_ → kd ks k = fall
  out : at_ < end_ → kd ks at_ ≠ fall
  one : at_ = first + 1 → at_ = end_ ∧ fall = false
def kes (ks : List Int) (a n : Nat) : List Ent := (List.range' a n).map fun k => ⟨k, k - 1, kd ks k⟩
theorem StretchEs.keys {ks : List Int} {first end_ at_ : Nat} {fall : Bool} {es : List Ent} (h : StretchEs first end_ at_ fall es) (hT : ∀ e ∈ es, e.c = decide (getE ks e.a < getE ks e.b)) : StrK ks first end_ at_ fall ∧ es = kes ks (first + 1) (min (at_ + 1) end_ - (first + 1)) := by
  rcases h with ⟨h1, h2, h3, h4⟩ | ⟨h1, h2, h3, c, h4, h5, h6⟩
  · subst h2 h3 h4
    refine ⟨⟨by omega, Nat.le_refl _, fun k a b => by omega, fun z => by omega, fun _ => ⟨rfl, rfl⟩⟩, ?_⟩
    unfold kes
    rw [show min (at_ + 1) at_ - (first + 1) = 0 by omega]
    rfl
  · have hc : ∀ k, first < k → k < min (at_ + 1) end_ → c k = kd ks k := fun k a b => by
      have := hT ⟨k, k - 1, c k⟩ (by rw [h4]; exact List.mem_map.mpr ⟨k, List.mem_range'_1.mpr ⟨by omega, by omega⟩, rfl⟩)
      exact this
    refine ⟨⟨by omega, h3, fun k a b => by rw [← hc k a (by omega)]; exact h5 k a b, fun z => by rw [← hc at_ (by omega) (by omega)]; exact h6 z, fun z => by omega⟩, ?_⟩
    rw [h4]
    unfold kes
    refine List.map_congr_left fun k hk => ?_
    have := List.mem_range'_1.mp hk
    rw [hc k (by omega) (by omega)]
theorem kes_len {ks : List Int} {a n : Nat} : (kes ks a n).length = n := by unfold kes; rw [List.length_map, List.length_range']
theorem kes_app {ks : List Int} {a m n : Nat} : kes ks a m ++ kes ks (a + m) n = kes ks a (m + n) := by
  unfold kes
  rw [← List.map_append]
  congr 1
  have := List.range'_append (s := a) (m := m) (n := n) (step := 1)
  rwa [Nat.one_mul] at this
theorem kes_at {ks : List Int} {a n j : Nat} (h : j < n) : (kes ks a n)[j]? = some ⟨a + j, a + j - 1, kd ks (a + j)⟩ := by
  unfold kes
  rw [List.getElem?_map, List.getElem?_range' h]
  simp
theorem kes_succ {ks : List Int} {a n : Nat} : kes ks a (n + 1) = kes ks a n ++ [⟨a + n, a + n - 1, kd ks (a + n)⟩] := by rw [← kes_app]; rfl
/-- the places of a stretch, in turn -/
def trn (first at_ : Nat) (fall : Bool) : List Nat := if fall then (List.range' first (at_ - first)).reverse else List.range' first (at_ - first)
theorem trn_len {first at_ : Nat} {fall : Bool} : (trn first at_ fall).length = at_ - first := by unfold trn; split <;> simp
theorem trn_perm {first at_ : Nat} {fall : Bool} : (trn first at_ fall).Perm (List.range' first (at_ - first)) := by unfold trn; split; exact List.reverse_perm _; exact .refl _
theorem trn_mem {first at_ x : Nat} {fall : Bool} : x ∈ trn first at_ fall ↔ first ≤ x ∧ x < first + (at_ - first) := by rw [trn_perm.mem_iff, List.mem_range'_1]
theorem StrK.ord {ks : List Int} {first end_ at_ : Nat} {fall : Bool} (h : StrK ks first end_ at_ fall) : ∀ (d i : Nat), first ≤ i → i + d + 1 < at_ → if fall then getE ks (i + d + 1) < getE ks i else ¬ getE ks (i + d + 1) < getE ks i := by
  intro d
  induction d with
  | zero =>
    intro i h1 h2
    have := h.run (i + 0 + 1) (by omega) h2
    unfold kd at this
    rw [show i + 0 + 1 - 1 = i by omega] at this
    cases fall with
    | true => rw [if_pos rfl]; exact of_decide_eq_true this
    | false => rw [if_neg (by decide)]; exact of_decide_eq_false this
  | succ d ih =>
    intro i h1 h2
    have h3 := ih i h1 (by omega)
    have := h.run (i + (d + 1) + 1) (by omega) h2
    unfold kd at this
    rw [show i + (d + 1) + 1 - 1 = i + d + 1 by omega] at this
    cases fall with
    | true => rw [if_pos rfl] at h3 ⊢; have := of_decide_eq_true this; omega
    | false => rw [if_neg (by decide)] at h3 ⊢; have := of_decide_eq_false this; omega
theorem StrK.pw {ks : List Int} {first end_ at_ : Nat} {fall : Bool} (h : StrK ks first end_ at_ fall) : (trn first at_ fall).Pairwise (Ahd ks) := by
  have key : ∀ i j, first ≤ i → i < j → j < at_ → if fall then Ahd ks j i else Ahd ks i j := fun i j h1 h2 h3 => by
    have := h.ord (j - i - 1) i h1 (by omega)
    rw [show i + (j - i - 1) + 1 = j by omega] at this
    unfold Ahd
    cases fall with
    | true => rw [if_pos rfl] at this ⊢; exact .inl this
    | false => rw [if_neg (by decide)] at this ⊢; omega
  unfold trn
  cases fall with
  | true =>
    rw [if_pos rfl, List.pairwise_reverse, List.pairwise_iff_getElem]
    intro i j hi hj hij
    rw [List.length_range'] at hi hj
    rw [List.getElem_range', List.getElem_range']
    have := key (first + 1 * i) (first + 1 * j) (by omega) (by omega) (by omega)
    exact this
  | false =>
    rw [if_neg (by decide), List.pairwise_iff_getElem]
    intro i j hi hj hij
    rw [List.length_range'] at hi hj
    rw [List.getElem_range', List.getElem_range']
    have := key (first + 1 * i) (first + 1 * j) (by omega) (by omega) (by omega)
    exact this
def sp_in_turn (K : PySem.W.Frag) (A : Ad) : Sp := fun vs H Q _ => ∃ (first at_ : Nat) (fall : Bool), vs = [.int first, .int at_, .bl fall] ∧ (first ≤ 100000 ∧ at_ ≤ 100000) ∧ ∀ q H', H q = none → Stp [] H H' → H' q = some (.lst (nv (trn first at_ fall))) → Q (.ref q) H'
theorem ok_in_turn {P : Program} {w : World} {K : PySem.W.Frag} {mg : Str → Option Value} {base : Heap} {A : Ad} {f : Addr} {fd : FuncData} (F : Fun K "in_turn" "in_turn" s_in_turn f fd) (T : Txt K mg A)  : FnOk P w K mg base CX0 1 f fd ["first", "beyond", "falling"] (sp_in_turn K A) := by
  refine F.ok sc_in_turn (fun vs H Q E h => by obtain ⟨_, _, _, rfl, _⟩ := h; rfl) (fun cdv A' outer s H vs Q E hr h => ?_)
  obtain ⟨first, at_, fall, rfl, ⟨h1, h2⟩, k⟩ := h
  refine ⟨_, (pss_cons (ps_set (i := 3) sc_in_turn.nd rfl (Or.inl rfl) (SH.pe_listrange2 (by rfl) T.z_list (by rfl) T.z_range (pv 0) (pv 1)))
        (pss_cons (ps_if (pt_val (pv 2)) (pss_one (ps_expr (pe_bm0 PySem.F.plainAttrs_list PySem.F.slot_list_reverse PySem.F.type_list_reverse mt_reverse (pv 3)))) pss_nil)
        (pss_one (ps_ret (pv 3))))), ?_⟩
  walk_at "begin"
  walk_at "rd"
  refine v_lrg2 rfl rfl (by omega) (by omega) fun q hq => ?_
  walk_at "rd"
  cases fall with
  | true =>
    walk_at "rd"
    refine v_rev upd_same ?_
    walk_at "rd"
    refine k q _ hq (((Stp.refl [] H).new hq).putN hq) ?_
    rw [upd_same]
    unfold trn nv
    rw [if_pos rfl, List.map_reverse]
  | false =>
    walk_at "rd"
    refine k q _ hq ((Stp.refl [] H).new hq) ?_
    rw [upd_same]
    rfl
/-! ### in order and asked, so far, from any base -/
structure Sof (ks : List Int) (p : Nat) (ord : List Nat) (log : List Ent) : Prop where
  lt : ∀ o ∈ ord, o < p
  pw : ord.Pairwise (Ahd ks)
  ask : Asked log ord
  ent : ∀ e ∈ log, e.b < e.a
theorem Halv.takeS {ks : List Int} {p r : Nat} {ord : List Nat} {es : List Ent} (hlt : ∀ o ∈ ord, o < p) (hpw : ord.Pairwise (Ahd ks)) (hw : Halv ord p 0 ord.length es r) (hT : ∀ e ∈ es, e.c = decide (getE ks e.a < getE ks e.b)) :
    (∀ o ∈ ord.take r, ¬ getE ks p < getE ks o) ∧ (∀ o ∈ ord.drop r, getE ks p < getE ks o) := by
  obtain ⟨_, a, b⟩ := hw.spot hT (fun o ho => by have := hlt o ho; omega) (fun i j x y hij hx hy hA => by
    obtain ⟨hi, hx⟩ := List.getElem?_eq_some_iff.mp hx
    obtain ⟨hj, hy⟩ := List.getElem?_eq_some_iff.mp hy
    have := List.pairwise_iff_getElem.mp hpw i j hi hj hij
    rw [hx, hy] at this
    exact this.trans hA) (Nat.zero_le _) (Nat.le_refl _) (fun i x hi => by omega) (fun i x hi hx => by have := (List.getElem?_eq_some_iff.mp hx).1; omega)
  refine ⟨fun o ho => ?_, fun o ho => ?_⟩
  · obtain ⟨i, hi, e⟩ := List.getElem_of_mem ho
    rw [List.length_take] at hi
    rw [List.getElem_take] at e
    have := a i o (by omega) (by rw [List.getElem?_eq_getElem (by omega), e])
    have := hlt o (List.mem_of_mem_take ho)
    unfold Ahd at *
    omega
  · obtain ⟨i, hi, e⟩ := List.getElem_of_mem ho
    rw [List.length_drop] at hi
    rw [List.getElem_drop] at e
    have := b (r + i) o (by omega) (by rw [List.getElem?_eq_getElem (by omega), e])
    have := hlt o (List.mem_of_mem_drop ho)
    unfold Ahd at *
    omega
theorem Sof.put2 {ks : List Int} {p r : Nat} {ord : List Nat} {log es : List Ent} (h : Sof ks p ord log) (hw : Halv ord p 0 ord.length es r) (hT : ∀ e ∈ es, e.c = decide (getE ks e.a < getE ks e.b)) : Sof ks (p + 1) (ins ord r p) (log ++ es) := by
  have hlt := h.lt
  obtain ⟨h1, h2⟩ := Halv.takeS hlt h.pw hw hT
  obtain ⟨n1, n2⟩ := hw.ends hlt
  have hb := hw.bd (Nat.zero_le _)
  have he := hw.ent hlt
  refine ⟨fun o ho => ?_, ins_pw h.pw (fun o ho => ?_) (fun o ho => ?_), h.ask.ins hb.2.1 hlt (fun z => by rcases n1 with n1 | ⟨o, a, b⟩; omega; exact ⟨o, a, _, b⟩) (fun z => by rcases n2 with n2 | ⟨o, a, b⟩; omega; exact ⟨o, a, _, b⟩), fun e hm => ?_⟩
  · rcases List.mem_cons.mp (ins_perm.mem_iff.mp ho) with rfl | ho
    · omega
    · have := hlt o ho; omega
  · have := hlt o (List.mem_of_mem_take ho)
    have := h1 o ho
    unfold Ahd
    omega
  · have := h2 o ho
    unfold Ahd
    omega
  · rcases List.mem_append.mp hm with hm | hm
    · exact h.ent e hm
    · obtain ⟨q1, q2⟩ := he e hm
      have := hlt _ q2
      omega
theorem PO.sof {ks : List Int} {n p : Nat} {ord res : List Nat} {log es : List Ent} (hw : PO n p ord es res) (h : Sof ks p ord log) (hp : p ≤ n) (hT : ∀ e ∈ es, e.c = decide (getE ks e.a < getE ks e.b)) : Sof ks n res (log ++ es) := by
  induction hw generalizing log with
  | @done p ord hh => rw [List.append_nil, show n = p by omega]; exact h
  | @put p r ord res es1 es hh k kk ih =>
    rw [← List.append_assoc]
    exact ih (h.put2 k fun e he => hT e (List.mem_append_left _ he)) (by omega) fun e he => hT e (List.mem_append_right _ he)
theorem PO.perm {n p : Nat} {ord res : List Nat} {es : List Ent} (hw : PO n p ord es res) : res.Perm (ord ++ List.range' p (n - p)) := by
  induction hw with
  | @done p ord hh => rw [show n - p = 0 by omega]; simp
  | @put p r ord res es1 es hh k kk ih =>
    refine ih.trans ?_
    rw [show n - p = (n - (p + 1)) + 1 by omega, List.range'_succ]
    exact (ins_perm.append_right _).trans List.perm_middle.symm
theorem trn_nb {first at_ i u v : Nat} {fall : Bool} (hu : (trn first at_ fall)[i]? = some u) (hv : (trn first at_ fall)[i + 1]? = some v) : ∃ k, first < k ∧ k < at_ ∧ max u v = k ∧ min u v = k - 1 := by
  unfold trn at hu hv
  cases fall with
  | true =>
    rw [if_pos rfl] at hu hv
    obtain ⟨hi, hu⟩ := List.getElem?_eq_some_iff.mp hu
    obtain ⟨hj, hv⟩ := List.getElem?_eq_some_iff.mp hv
    rw [List.length_reverse, List.length_range'] at hi hj
    rw [List.getElem_reverse, List.getElem_range', List.length_range'] at hu hv
    exact ⟨u, by omega, by omega, by omega, by omega⟩
  | false =>
    rw [if_neg (by decide)] at hu hv
    obtain ⟨hi, hu⟩ := List.getElem?_eq_some_iff.mp hu
    obtain ⟨hj, hv⟩ := List.getElem?_eq_some_iff.mp hv
    rw [List.length_range'] at hi hj
    rw [List.getElem_range'] at hu hv
    exact ⟨v, by omega, by omega, by omega, by omega⟩
theorem StrK.sof {ks : List Int} {first end_ at_ : Nat} {fall : Bool} (h : StrK ks first end_ at_ fall) : Sof ks at_ (trn first at_ fall) (kes ks (first + 1) (min (at_ + 1) end_ - (first + 1))) := by
  have hlo := h.lo
  have hhi := h.hi
  refine ⟨fun o ho => by have := trn_mem.mp ho; omega, h.pw, fun i u v hu hv => ?_, fun e he => ?_⟩
  · obtain ⟨k, h1, h2, h3, h4⟩ := trn_nb hu hv
    exact ⟨⟨k, k - 1, kd ks k⟩, List.mem_map.mpr ⟨k, List.mem_range'_1.mpr ⟨by omega, by omega⟩, rfl⟩, h3.symm, h4.symm⟩
  · obtain ⟨k, hk, rfl⟩ := List.mem_map.mp he
    have := List.mem_range'_1.mp hk
    show k - 1 < k
    omega
theorem StretchEs.len {first n at_ : Nat} {fall : Bool} {es : List Ent} (h : StretchEs first n at_ fall es) : first < at_ ∧ at_ ≤ n ∧ es.length ≤ at_ + 1 - (first + 1) := by
  rcases h with ⟨a, b, c, d⟩ | ⟨a, b, c, c', e, _⟩
  · subst d; exact ⟨by omega, by omega, by simp⟩
  · subst e; exact ⟨by omega, by omega, by simp; omega⟩
theorem StretchEs.lo {first end_ at_ : Nat} {fall : Bool} {es : List Ent} (h : StretchEs first end_ at_ fall es) : first < at_ ∧ at_ ≤ end_ ∧ es.length ≤ at_ - first := by
  rcases h with ⟨h1, h2, h3, h4⟩ | ⟨h1, h2, h3, c, h4, h5, h6⟩
  · subst h4; simp; omega
  · rw [h4, List.length_map, List.length_range']; omega
theorem r_bJ {c : Bool} {t1 t2 : TS} {D : Ends} {σ : L2.St} {H : Hp} (W : L2.St → Hp → Prop) (hk : ∀ σ' H', W σ' H' → D.nx σ' H')
    (h1 : c = true → ∀ N : L2.St → Hp → Prop, (∀ σ' H', W σ' H' → N σ' H') → t1 { D with nx := N } σ H) (h2 : c = false → ∀ N : L2.St → Hp → Prop, (∀ σ' H', W σ' H' → N σ' H') → t2 { D with nx := N } σ H) :
    if c = true then t1 D σ H else t2 D σ H := by
  cases c with
  | true => rw [if_pos rfl]; exact h1 rfl D.nx hk
  | false => rw [if_neg (by decide)]; exact h2 rfl D.nx hk
/-! ### a stretch, filled -/
def bey (first least end_ found : Nat) : Nat := max found (min (first + least) end_)
def sp_filled (K : PySem.W.Frag) (A : Ad) : Sp := fun vs H Q E => ∃ (I : Ask) (log : List Ent) (first least end_ : Nat) (ev : V), vs = [.ref I.s, .int first, .int least, ev] ∧ (I.At K A H log ∧ first < end_ ∧ end_ ≤ I.n ∧ (ev = .int end_ ∨ (ev = .non ∧ end_ = I.n)) ∧ I.n ≤ 300 ∧ log.length + I.pre.length + I.n * I.n + 1000 ≤ 100000) ∧
  Stop I K A H log (fun es => ∃ found fall es1 es2 res, es = es1 ++ es2 ∧ StretchEs first end_ found fall es1 ∧ PO (bey first least end_ found) found (trn first found fall) es2 res) E ∧
  ∀ H' t q found fall es1 es2 res, Told I.or log (es1 ++ es2) → StretchEs first end_ found fall es1 → PO (bey first least end_ found) found (trn first found fall) es2 res → es2.length ≤ (bey first least end_ found - found) * I.n → Stp I.M H H' → I.At K A H' (log ++ (es1 ++ es2)) → H q = none → H' q = some (.lst (nv res)) → H' t = some (.tup [.int found, .ref q]) → Q (.ref t) H'
theorem ok_filled {P : Program} {w : World} {K : PySem.W.Frag} {mg : Str → Option Value} {base : Heap} {A : Ad} {f : Addr} {fd : FuncData} (F : FunD K "filled" "filled" (defArgs s_filled) (defBody s_filled) (defScope s_filled) [.non] [] f fd) (T : Txt K mg A) (M_Asker_many : SH.CalM P w K mg base CX0 1 A.Asker "many" [] (sp_Asker_many K A)) (C_in_turn : SH.Cal P w K mg base CX0 1 "in_turn" [] (sp_in_turn K A)) (C_spot_of : SH.Cal P w K mg base (L2N.CX P w) 4 "spot_of" [] (sp_spot_of K A)) (C_stretch_from : SH.Cal P w K mg base (L2N.CX P w) 4 "stretch_from" [] (sp_stretch_from K A)) : FnOk P w K mg base (L2N.CX P w) 5 f fd ["asker", "first", "least", "end"] (sp_filled K A) := by
  refine SH.okND F sc_filled (fun vs H Q E h => by obtain ⟨_, _, _, _, _, _, rfl, _⟩ := h; rfl) (fun cdv A' outer s H vs Q E hr h => ?_)
  obtain ⟨I, log, first, least, end_, ev, rfl, ⟨hA, hfe, hen, hev, hn, hlog⟩, kx, k⟩ := h
  refine ⟨_, (pss_cons (ps_if (pt_cmpR SH.oIsN (pv 3) pe_non (nomark _)) (pss_one (ps_set (i := 3) sc_filled.nd rfl (Or.inl rfl) (SH.pe_methF0 (pv 0) M_Asker_many hr pass0))) pss_nil)
        (pss_cons (ps_asg (SH.pe_callF C_stretch_from hr (by rfl) (L2N.passes_call (L2N.takes_of rfl rfl rfl rfl) fun _ _ _ _ h => h) (pa_cons (pv 0) (pa_cons (pv 1) (pa_cons (pv 3) pa_nil)))) (pg_tup (by rfl) (pgs_cons (pg_name (i := 4) sc_filled.nd rfl (Or.inl rfl)) (pgs_cons (pg_name (i := 5) sc_filled.nd rfl (Or.inl rfl)) pgs_nil))))
        (pss_cons (ps_set (i := 6) sc_filled.nd rfl (Or.inl rfl) (SH.pe_callF C_in_turn hr (by rfl) pass0 (pa_cons (pv 1) (pa_cons (pv 4) (pa_cons (pv 5) pa_nil)))))
        (pss_cons (ps_set (i := 7) sc_filled.nd rfl (Or.inl rfl) (pv 4))
        (pss_cons (ps_while (L2.passes_of rfl) (PW.pt (pw_and (pt_cmpR (SH.oLt hr.units0) (pe_callB SH.cLen (by rfl) T.z_len (by decide +kernel) (pa_cons (pv 6) pa_nil)) (pv 2) (nomark _)) (pw_and1 (pt_cmpR (SH.oLt hr.units0) (pv 7) (pv 3) (nomark _))))) (pss_cons (ps_expr (pe_bm PySem.F.plainAttrs_list PySem.F.slot_list_insert PySem.F.type_list_insert SH.mIns (pv 6) (pa_cons (SH.pe_callF C_spot_of hr (by rfl) (L2N.passes_call (L2N.takes_of rfl rfl rfl rfl) fun _ _ _ _ h => h) (pa_cons (pv 0) (pa_cons (pv 6) (pa_cons (pv 7) pa_nil)))) (pa_cons (pv 7) pa_nil))))
        (pss_one (ps_aug (i := 7) sc_filled.nd rfl (Or.inl rfl) pe_int SH.ip_add'))))
        (pss_one (ps_ret (pe_tup (pa_cons (pv 4) (pa_cons (pv 6) pa_nil)))))))))), ?_⟩
  walk_at "begin"
  walk_at "rd"
  refine r_wJ (W := fun σ H' => H' = H ∧ σ = [some (.ref I.s), some (.int first), some (.int least), some (.int end_), none, none, none, none]) ?_ (fun hc N hN => ?_) (fun hc N hN => ?_)
  · rintro σ H1 ⟨rfl, rfl⟩
    dsimp only
    walk_at "rd"
    refine ⟨I, log, first, end_, _, rfl, ⟨hA, hfe, hen, .inl rfl, by omega⟩, kx.sub0 (fun es2 ⟨at_, fall, hE⟩ hT2 => by
      obtain ⟨es3, res, hk, hT3⟩ := PO.total I.or (n := bey first least end_ at_) _ at_ (trn first at_ fall) (log ++ es2) rfl
      exact ⟨es3, hT3, at_, fall, es2, es3, res, rfl, hE, hk⟩), fun H2 t1 found fall es1 hT1 hE S2 hA2 ht1 hR1 => ?_⟩
    obtain ⟨b1, b2, b3⟩ := hE.lo
    have hs2 := hA2.hs
    walk_at "rd"
    refine ⟨first, found, fall, rfl, ⟨by omega, by omega⟩, fun q H3 hq S3 hq3 => ?_⟩
    have hqM := hA2.fresh hq
    have hqO := hA2.freshO hq
    have hA3 := hA2.stp S3 (by simp)
    have S23 := S2.trans (S3.mono (M' := I.M) (by simp))
    have hq0 : H1 q = none := S2.dom _ hq
    clear S2 S3 hR1 hs2 hA2
    have hbl : bey first least end_ found ≤ I.n := by unfold bey; omega
    have hpn : ∀ p, p ≤ I.n → p * I.n ≤ I.n * I.n := fun p hp => Nat.mul_le_mul_right _ hp
    walk_at "rd"
    refine r_while (fun m σ H' => ∃ (p : Nat) (ord : List Nat) (es2 : List Ent), m = end_ - p ∧ found ≤ p ∧ p ≤ bey first least end_ found ∧ first + ord.length = p ∧ (∀ o ∈ ord, o < p) ∧ es2.length ≤ (p - found) * I.n ∧
        (∀ rest res, PO (bey first least end_ found) p ord rest res → PO (bey first least end_ found) found (trn first found fall) (es2 ++ rest) res) ∧ Told I.or log (es1 ++ es2) ∧ Stp I.M H1 H' ∧ I.At K A H' (log ++ (es1 ++ es2)) ∧ H' q = some (.lst (nv ord)) ∧
        σ = [some (.ref I.s), some (.int first), some (.int least), some (.int end_), some (.int found), some (.bl fall), some (.ref q), some (.int p)])
      ⟨_, found, trn first found fall, [], rfl, Nat.le_refl _, by unfold bey; omega, by rw [trn_len]; omega, fun o ho => by have := trn_mem.mp ho; omega, by simp, fun rest res h => h, by rw [List.append_nil]; exact hT1, S23, by rw [List.append_nil]; exact hA3, hq3, rfl⟩ ?_
    clear S23 hA3 hq3 hT1
    rintro m σ H4 ⟨p, ord, es2, rfl, h1, h2, h3, hlt, hel, hP, hT, S, hA4, hq4, rfl⟩
    have hpm := hpn (p - found) (by omega)
    walk_at "rd"
    refine r_w (fun hc1 => ?_) fun hc1 => ?_
    · walk_at "rd"
      refine r_w (fun hc2 => ?_) fun hc2 => ?_
      · have hpb : p < bey first least end_ found := by unfold bey; omega
        refine r_next_turn ?_
        walk_at "rd"
        refine ⟨I, _, q, ord, p, rfl, ⟨hA4, SqL.of hq4, hqM, by omega, fun o ho => by have := hlt o ho; omega, by rw [List.length_append, List.length_append]; omega⟩, kx.sub S hT (fun es3 ⟨r, hh⟩ hT3 => by
          obtain ⟨es4, res, hk, hT4⟩ := PO.total I.or (n := bey first least end_ found) _ (p + 1) (ins ord r p) (log ++ (es1 ++ es2) ++ es3) rfl
          exact ⟨es4, hT4, found, fall, es1, es2 ++ (es3 ++ es4), res, by simp, hE, hP _ _ (.put hpb hh hk)⟩), fun H5 r es3 hT3 hh S5 hA5 => ?_⟩
        have hb := hh.bd (Nat.zero_le _)
        rw [List.append_assoc, List.append_assoc] at hA5
        have hq5 := S5.keep hq4 hqM
        walk_at "rd"
        refine v_insN hq5 hb.2.1 (by omega) ?_
        walk_at "rd"
        refine ⟨end_ - (p + 1), by omega, p + 1, ins ord r p, es2 ++ es3, rfl, by omega, by omega, ?_, fun o ho => ?_, ?_, fun rest res hk => ?_, by rw [← List.append_assoc]; exact Told.app hT hT3, (S.trans S5).putN hq0, hA5.stp ((Stp.refl [q] _).putL (by simp) hq5) (fun m hm => by rw [List.mem_singleton] at hm; subst hm; exact hqO), upd_same, rfl⟩
        · rw [ins_perm.length_eq, List.length_cons]; omega
        · rcases List.mem_cons.mp (ins_perm.mem_iff.mp ho) with rfl | ho
          · omega
          · have := hlt o ho; omega
        · rw [List.length_append, show p + 1 - found = (p - found) + 1 by omega, Nat.add_mul]; omega
        · rw [List.append_assoc]
          exact hP _ _ (.put hpb hh hk)
      · walk_at "rd"
        intro t ht
        have hb := hP [] ord (.done (by unfold bey; omega))
        rw [List.append_nil] at hb
        exact k _ t q found fall es1 es2 ord hT hE hb (Nat.le_trans hel (Nat.mul_le_mul_right _ (by omega))) (S.new ht) (hA4.stp ((Stp.refl [] _).new ht) (by simp)) hq0 (upd_old hq4 ht) upd_same
    · rw [if_neg (by decide)]
      walk_at "rd"
      intro t ht
      have hb := hP [] ord (.done (by unfold bey; omega))
      rw [List.append_nil] at hb
      exact k _ t q found fall es1 es2 ord hT hE hb (Nat.le_trans hel (Nat.mul_le_mul_right _ (by omega))) (S.new ht) (hA4.stp ((Stp.refl [] _).new ht) (by simp)) hq0 (upd_old hq4 ht) upd_same
  · have hs := hA.hs
    walk_at "rd"
    refine ⟨I, log, rfl, hA, ?_⟩
    walk_at "rd"
    refine hN _ _ ⟨rfl, ?_⟩
    rcases hev with h | ⟨_, h⟩
    · rw [h] at hc; cases hc
    · rw [h]
  · walk_at "rd"
    refine hN _ _ ⟨rfl, ?_⟩
    rcases hev with h | ⟨h, _⟩
    · rw [h]
    · exact (hc h).elim
/-! ### a pile: its state, its deeds -/
structure Spn where
  f : Nat
  b : Nat
  o : List Nat
structure PS where
  low : Nat
  end_ : Nat
  least : Nat
  come : Nat
  newest : Option Nat
  sp : List Spn
  gr : List Nat
def nwV : Option Nat → V
  | none => .non
  | some n => .int (n : Nat)
def PileF (s : Addr) (S : PS) (sa ga : Addr) : List (Str × V) := [("asker", .ref s), ("least", .int S.least), ("low", .int S.low), ("end", .int S.end_), ("come", .int S.come), ("newest", nwV S.newest), ("spans", .ref sa), ("grades", .ref ga)]
/-- spans end to end -/
def EndTo : Nat → List Spn → Nat → Prop
  | lo, [], c => lo = c
  | lo, s :: r, c => s.f = lo ∧ lo < s.b ∧ EndTo s.b r c
structure PS.Ok (S : PS) (n : Nat) : Prop where
  len : S.gr.length = S.sp.length - 1
  ends : EndTo S.low S.sp S.come
  perm : ∀ s ∈ S.sp, s.o.Perm (List.range' s.f (s.b - s.f))
  new0 : S.newest = none → S.sp = []
  new1 : ∀ k, S.newest = some k → S.sp ≠ [] ∧ S.low ≤ k ∧ k < S.come
  ce : S.come ≤ S.end_
  en : S.end_ ≤ n
theorem EndTo.le {lo c : Nat} {sp : List Spn} (h : EndTo lo sp c) : lo + sp.length ≤ c := by
  induction sp generalizing lo with
  | nil => exact Nat.le_of_eq h
  | cons s r ih => have := ih h.2.2; have := h.2.1; rw [List.length_cons]; omega
theorem EndTo.mem {lo c : Nat} {sp : List Spn} (h : EndTo lo sp c) : ∀ s ∈ sp, lo ≤ s.f ∧ s.f < s.b ∧ s.b ≤ c := by
  induction sp generalizing lo with
  | nil => simp
  | cons s r ih =>
    intro t ht
    have h1 := h.1
    have h2 := h.2.1
    rcases List.mem_cons.mp ht with rfl | ht
    · have := EndTo.le h.2.2; omega
    · have := ih h.2.2 t ht; omega
theorem EndTo.snoc {lo c b : Nat} {sp : List Spn} {o : List Nat} (h : EndTo lo sp c) (hb : c < b) : EndTo lo (sp ++ [⟨c, b, o⟩]) b := by
  induction sp generalizing lo with
  | nil => cases h; exact ⟨rfl, hb, rfl⟩
  | cons s r ih => exact ⟨h.1, h.2.1, ih h.2.2⟩
theorem EndTo.two {lo c : Nat} {sp : List Spn} (h : EndTo lo sp c) : ∀ {i : Nat} {l u : Spn}, sp[i]? = some l → sp[i + 1]? = some u → l.b = u.f ∧ l.f < l.b ∧ u.f < u.b ∧ lo ≤ l.f ∧ u.b ≤ c := by
  induction sp generalizing lo with
  | nil => intro i l u h1; simp at h1
  | cons s r ih =>
    intro i l u h1 h2
    obtain ⟨a, b, d⟩ := h
    cases i with
    | zero =>
      cases h1
      cases r with
      | nil => simp at h2
      | cons t r => cases h2; have := EndTo.le d.2.2; exact ⟨d.1.symm, by omega, by have := d.2.1; have := d.1; omega, by omega, by omega⟩
    | succ i => have := ih d h1 h2; exact ⟨this.1, this.2.1, this.2.2.1, by omega, this.2.2.2.2⟩
theorem EndTo.join {lo c : Nat} {sp : List Spn} (h : EndTo lo sp c) {o : List Nat} : ∀ {i : Nat} {l u : Spn}, sp[i]? = some l → sp[i + 1]? = some u → EndTo lo (sp.take i ++ [⟨l.f, u.b, o⟩] ++ sp.drop (i + 2)) c := by
  induction sp generalizing lo with
  | nil => intro i l u h1; simp at h1
  | cons s r ih =>
    intro i l u h1 h2
    obtain ⟨a, b, d⟩ := h
    cases i with
    | zero =>
      cases h1
      cases r with
      | nil => simp at h2
      | cons t r => cases h2; exact ⟨a, by have := d.2.1; show lo < u.b; omega, d.2.2⟩
    | succ i => exact ⟨a, b, ih d h1 h2⟩
/-- what a step tells -/
structure Dd where
  lay : Bool
  a : Nat
  b : Nat
  c : Nat
def Dd.w (d : Dd) : Str := if d.lay then "lay" else "join"
def PS.bene (S : PS) : Prop := 2 < S.sp.length ∧ S.gr.getD (S.sp.length - 2) 0 < S.gr.getD (S.sp.length - 3) 0
def layS (S : PS) (found : Nat) (res : List Nat) (gs : List Nat) : PS := { S with come := bey S.come S.least S.end_ found, newest := some S.come, sp := S.sp ++ [⟨S.come, bey S.come S.least S.end_ found, res⟩], gr := S.gr ++ gs }
def joinS (S : PS) (i : Nat) (l u : Spn) (res : List Nat) : PS := { S with sp := S.sp.take i ++ [⟨l.f, u.b, res⟩] ++ S.sp.drop (i + 2), gr := S.gr.take i ++ S.gr.drop (i + 1) }
inductive Deed (S : PS) : List Ent → PS → Dd → Prop
  | lay {found : Nat} {fall : Bool} {es1 es2 : List Ent} {res gs : List Nat} (hb : ¬ S.bene) (hc : S.come < S.end_) (hE : StretchEs S.come S.end_ found fall es1) (hP : PO (bey S.come S.least S.end_ found) found (trn S.come found fall) es2 res)
      (h0 : S.newest = none → gs = []) (h1 : ∀ k, S.newest = some k → ∃ g, gs = [g] ∧ Grd (S.end_ - S.low : Nat) (k - S.low : Nat) (S.come - S.low : Nat) (bey S.come S.least S.end_ found - S.low : Nat) g) :
      Deed S (es1 ++ es2) (layS S found res gs) ⟨true, S.come, found, bey S.come S.least S.end_ found⟩
  | join {i : Nat} {l u : Spn} {es : List Ent} {res : List Nat} (hi : (S.bene ∧ i = S.sp.length - 3) ∨ (¬ S.bene ∧ S.come = S.end_ ∧ 1 < S.sp.length ∧ i = S.sp.length - 2)) (hl : S.sp[i]? = some l) (hu : S.sp[i + 1]? = some u) (hJ : JN (LR l.o u.o) (fun _ => 0) false 0 es res) :
      Deed S es (joinS S i l u res) ⟨false, l.f, u.f, u.b⟩
def PS.done (S : PS) : Prop := S.come = S.end_ ∧ S.sp.length ≤ 1
theorem bey_gt {first least end_ found : Nat} (h : first < found) (h2 : found ≤ end_) : first < bey first least end_ found ∧ bey first least end_ found ≤ end_ ∧ found ≤ bey first least end_ found := by unfold bey; omega
theorem PO.mem {n p : Nat} {ord res : List Nat} {es : List Ent} (h : PO n p ord es res) : res.Perm (ord ++ List.range' p (n - p)) := by
  induction h with
  | done h => rw [show _ - _ = 0 by omega]; simp
  | @put p r ord res es1 es h k kk ih =>
    rw [show n - p = (n - (p + 1)) + 1 by omega, List.range'_succ]
    exact ih.trans ((ins_perm.append_right _).trans (List.perm_middle.symm))
theorem lay_perm {first least end_ found : Nat} {fall : Bool} {es : List Ent} {res : List Nat} (h1 : first < found) (h2 : found ≤ end_) (hP : PO (bey first least end_ found) found (trn first found fall) es res) : res.Perm (List.range' first (bey first least end_ found - first)) := by
  have hb := bey_gt (least := least) h1 h2
  refine hP.mem.trans ((trn_perm.append_right _).trans (.of_eq ?_))
  have := List.range'_append (s := first) (m := found - first) (n := bey first least end_ found - found) (step := 1)
  rw [Nat.one_mul, show first + (found - first) = found by omega, show found - first + (bey first least end_ found - found) = bey first least end_ found - first by omega] at this
  exact this
theorem jn_perm {l u : Spn} {es : List Ent} {res : List Nat} (hJ : JN (LR l.o u.o) (fun _ => 0) false 0 es res) (hl : l.o.Perm (List.range' l.f (l.b - l.f))) (hu : u.o.Perm (List.range' u.f (u.b - u.f))) (h1 : l.f < l.b) (h2 : u.f < u.b) (h3 : l.b = u.f) : res.Perm (List.range' l.f (u.b - l.f)) := by
  have h := hJ.perm
  simp only [LR, List.drop_zero, if_true, Bool.false_eq_true, if_false] at h
  refine h.trans ((hl.append hu).trans (.of_eq ?_))
  have := List.range'_append (s := l.f) (m := l.b - l.f) (n := u.b - u.f) (step := 1)
  rw [Nat.one_mul, show l.f + (l.b - l.f) = u.f by omega, show l.b - l.f + (u.b - u.f) = u.b - l.f by omega] at this
  exact this
theorem spn_dis {l u : Spn} (hl : l.o.Perm (List.range' l.f (l.b - l.f))) (hu : u.o.Perm (List.range' u.f (u.b - u.f))) (h1 : l.f < l.b) (h3 : l.b = u.f) : ∀ x ∈ l.o, ∀ y ∈ u.o, x ≠ y := by
  intro x hx y hy
  have := List.mem_range'_1.mp (hl.mem_iff.mp hx)
  have := List.mem_range'_1.mp (hu.mem_iff.mp hy)
  omega
theorem Deed.ok {S S' : PS} {n : Nat} {es : List Ent} {d : Dd} (h : Deed S es S' d) (ok : S.Ok n) : S'.Ok n := by
  cases h with
  | @lay found fall es1 es2 res gs hb hc hE hP h0 h1 =>
    have hlo := hE.lo
    have hbg := bey_gt (least := S.least) hlo.1 hlo.2.1
    have hle := ok.ends.le
    refine ⟨?_, ok.ends.snoc hbg.1, fun s hs => ?_, (by intro z; cases z), fun k hk => ⟨by simp [layS], ?_, ?_⟩, hbg.2.1, ok.en⟩
    · show (S.gr ++ gs).length = (S.sp ++ [_]).length - 1
      have := ok.len
      rw [List.length_append, List.length_append]
      cases hnw : S.newest with
      | none => rw [h0 hnw, ok.new0 hnw] at *; simp at *; omega
      | some k =>
        obtain ⟨g, e, _⟩ := h1 k hnw
        have h2 := (ok.new1 k hnw).1
        have : S.sp.length ≠ 0 := fun z => h2 (List.length_eq_zero_iff.mp z)
        rw [e]; simp; omega
    · rcases List.mem_append.mp hs with hs | hs
      · exact ok.perm s hs
      · rw [List.mem_singleton] at hs; subst hs; exact lay_perm hlo.1 hlo.2.1 hP
    · cases hk; show S.low ≤ S.come; omega
    · cases hk; exact hbg.1
  | @join i l u es res hi hl hu hJ =>
    obtain ⟨e1, e2, e3, e4, e5⟩ := ok.ends.two hl hu
    have hlen := ok.len
    have hil : i + 1 < S.sp.length := (List.getElem?_eq_some_iff.mp hu).1
    refine ⟨?_, ok.ends.join hl hu, fun s hs => ?_, fun z => ?_, fun k hk => ⟨by simp [joinS], (ok.new1 k hk).2⟩, ok.ce, ok.en⟩
    · show (S.gr.take i ++ S.gr.drop (i + 1)).length = (S.sp.take i ++ [_] ++ S.sp.drop (i + 2)).length - 1
      simp only [List.length_append, List.length_take, List.length_drop, List.length_cons, List.length_nil]
      omega
    · rcases List.mem_append.mp hs with hs | hs
      · rcases List.mem_append.mp hs with hs | hs
        · exact ok.perm s (List.mem_of_mem_take hs)
        · rw [List.mem_singleton] at hs
          rw [hs]
          exact jn_perm (l := l) (u := u) hJ (ok.perm l (List.mem_of_getElem? hl)) (ok.perm u (List.mem_of_getElem? hu)) e2 e3 e1
      · exact ok.perm s (List.mem_of_mem_drop hs)
    · have := ok.new0 z
      rw [this] at hl
      simp at hl
/-! ### a pile in the heap -/
structure PIL where
  p : Addr
  dx : Addr
  sa : Addr
  ga : Addr
  ts : List Addr
  os : List Addr
def PIL.own (R : PIL) : List Addr := R.p :: R.sa :: R.ga :: R.os
def PIL.M (R : PIL) (I : Ask) : List Addr := R.p :: R.sa :: R.ga :: I.M
def Spns (H : Hp) (ts os : List Addr) (sp : List Spn) : Prop := ts.length = sp.length ∧ os.length = sp.length ∧ ∀ (i : Nat) (s : Spn), sp[i]? = some s → ∃ t o, ts[i]? = some t ∧ os[i]? = some o ∧ H t = some (.tup [.int s.f, .int s.b, .ref o]) ∧ H o = some (.lst (nv s.o))
structure PIL.At (R : PIL) (A : Ad) (I : Ask) (H : Hp) (S : PS) : Prop where
  hp : H R.p = some (.ins A.Pile R.dx (PileF I.s S R.sa R.ga))
  hs : H R.sa = some (.lst (R.ts.map V.ref))
  hg : H R.ga = some (.lst (nv S.gr))
  sp : Spns H R.ts R.os S.sp
  own : ∀ a ∈ R.own, a ∉ I.own
  ne : R.sa ≠ R.ga
  no : ∀ o ∈ R.os, o ≠ R.sa ∧ o ≠ R.ga
theorem Ask.Mown {I : Ask} {m : Addr} (h : m ∈ I.M) : m ∈ I.own := by
  simp only [Ask.M, Ask.own, List.mem_cons, List.not_mem_nil, or_false] at h ⊢; first | (rcases h with h | h | h <;> simp [h]; done) | (rcases h with h | h <;> simp [h])
theorem Spns.stp {M : List Addr} {H H' : Hp} {ts os : List Addr} {sp : List Spn} (h : Spns H ts os sp) (S : Stp M H H') (hM : ∀ o ∈ os, o ∉ M) : Spns H' ts os sp :=
  ⟨h.1, h.2.1, fun i s e => by
    obtain ⟨t, o, h1, h2, h3, h4⟩ := h.2.2 i s e
    exact ⟨t, o, h1, h2, S.tup h3, S.keep h4 (hM o (List.mem_of_getElem? h2))⟩⟩
theorem Spns.there {H : Hp} {ts os : List Addr} {sp : List Spn} (h : Spns H ts os sp) {o : Addr} (ho : o ∈ os) : ∃ xs, H o = some (.lst xs) := by
  obtain ⟨i, hi⟩ := List.mem_iff_getElem?.mp ho
  have hl := (List.getElem?_eq_some_iff.mp hi).1
  obtain ⟨t, o', _, h2, _, h4⟩ := h.2.2 i (sp[i]'(by have := h.2.1; omega)) (List.getElem?_eq_getElem (by have := h.2.1; omega))
  rw [hi] at h2
  cases h2
  exact ⟨_, h4⟩
theorem PIL.At.stp {R : PIL} {A : Ad} {I : Ask} {M : List Addr} {H H' : Hp} {S : PS} (h : R.At A I H S) (St : Stp M H H') (hM : ∀ m ∈ M, m ∉ R.own) : R.At A I H' S :=
  ⟨St.keep h.hp (fun z => hM _ z (by simp [PIL.own])), St.keep h.hs (fun z => hM _ z (by simp [PIL.own])), St.keep h.hg (fun z => hM _ z (by simp [PIL.own])), h.sp.stp St (fun o ho z => hM _ z (by simp [PIL.own, ho])), h.own, h.ne, h.no⟩
theorem PIL.At.ask {R : PIL} {A : Ad} {I : Ask} {H H' : Hp} {S : PS} (h : R.At A I H S) (St : Stp I.M H H') : R.At A I H' S := h.stp St fun _ hm z => h.own _ z (Ask.Mown hm)
theorem PIL.At.there {R : PIL} {A : Ad} {I : Ask} {H : Hp} {S : PS} (h : R.At A I H S) {a : Addr} (ha : a ∈ R.own) : H a ≠ none := by
  simp only [PIL.own, List.mem_cons] at ha
  rcases ha with rfl | rfl | rfl | ha
  · rw [h.hp]; simp
  · rw [h.hs]; simp
  · rw [h.hg]; simp
  · obtain ⟨xs, e⟩ := h.sp.there ha
    rw [e]; simp
theorem PIL.At.fresh {R : PIL} {A : Ad} {I : Ask} {H : Hp} {S : PS} (h : R.At A I H S) {a : Addr} (ha : H a = none) : a ∉ R.own := fun z => h.there z ha
theorem PIL.At.np {R : PIL} {A : Ad} {I : Ask} {H : Hp} {S : PS} (h : R.At A I H S) : R.p ≠ R.sa ∧ R.p ≠ R.ga ∧ R.p ∉ R.os := by
  refine ⟨ne_of h.hp h.hs (by intro z; cases z), ne_of h.hp h.hg (by intro z; cases z), fun z => ?_⟩
  obtain ⟨xs, e⟩ := h.sp.there z
  rw [h.hp] at e
  cases e
def sp_Pile_lay (K : PySem.W.Frag) (A : Ad) : Sp := fun vs H Q E => ∃ (R : PIL) (I : Ask) (log : List Ent) (S : PS), vs = [.ref R.p] ∧
  (R.At A I H S ∧ I.At K A H log ∧ S.Ok I.n ∧ S.come < S.end_ ∧ I.n ≤ 300 ∧ log.length + I.pre.length + I.n * I.n + 1000 ≤ 90000) ∧
  Stop I K A H log (fun es => ∃ found fall es1 es2 res, es = es1 ++ es2 ∧ StretchEs S.come S.end_ found fall es1 ∧ PO (bey S.come S.least S.end_ found) found (trn S.come found fall) es2 res) E ∧
  ∀ (H' : Hp) (t : Addr) (R' : PIL) (found : Nat) (fall : Bool) (es1 es2 : List Ent) (res gs : List Nat), R'.p = R.p → (∀ a ∈ R'.own, a ∈ R.own ∨ H a = none) → StretchEs S.come S.end_ found fall es1 → PO (bey S.come S.least S.end_ found) found (trn S.come found fall) es2 res → es2.length ≤ (bey S.come S.least S.end_ found - found) * I.n → Told I.or log (es1 ++ es2) →
    (S.newest = none → gs = []) → (∀ k, S.newest = some k → ∃ g, gs = [g] ∧ Grd (S.end_ - S.low : Nat) (k - S.low : Nat) (S.come - S.low : Nat) (bey S.come S.least S.end_ found - S.low : Nat) g) →
    Stp (R.M I) H H' → I.At K A H' (log ++ (es1 ++ es2)) → R'.At A I H' (layS S found res gs) → H t = none → H' t = some (.tup [.str "lay", .int S.come, .int found, .int (bey S.come S.least S.end_ found)]) → Q (.ref t) H'
theorem ok_Pile_lay {P : Program} {w : World} {K : PySem.W.Frag} {mg : Str → Option Value} {base : Heap} {A : Ad} {f : Addr} {fd : FuncData} (F : Fun K "lay" "Pile.lay" s_Pile_lay f fd) (T : Txt K mg A) (C_filled : SH.Cal P w K mg base (L2N.CX P w) 5 "filled" [] (sp_filled K A)) (C_grade : SH.Cal P w K mg base CX0 1 "grade" [] (sp_grade K A)) : FnOk P w K mg base (L2N.CX P w) 6 f fd ["self"] (sp_Pile_lay K A) := by
  refine SH.okN F sc_Pile_lay (fun vs H Q E h => by obtain ⟨_, _, _, _, rfl, _⟩ := h; rfl) (fun cdv A' outer s H vs Q E hr h => ?_)
  obtain ⟨R, I, log, S, rfl, ⟨hR, hA, ok, hce, hn, hlog⟩, kx, k⟩ := h
  refine ⟨_, (pss_cons (ps_set (i := 1) sc_Pile_lay.nd rfl (Or.inl rfl) (SH.pe_fldF T.cl_Pile T.na_Pile_come (pv 0)))
        (pss_cons (ps_set (i := 2) sc_Pile_lay.nd rfl (Or.inl rfl) (SH.pe_callF C_filled hr (by rfl) (L2N.passes_call (L2N.takes_of rfl rfl rfl rfl) fun _ _ _ _ h => h) (pa_cons (SH.pe_fldF T.cl_Pile T.na_Pile_asker (pv 0)) (pa_cons (pv 1) (pa_cons (SH.pe_fldF T.cl_Pile T.na_Pile_least (pv 0)) (pa_cons (SH.pe_fldF T.cl_Pile T.na_Pile_end (pv 0)) pa_nil))))))
        (pss_cons (ps_set (i := 3) sc_Pile_lay.nd rfl (Or.inl rfl) (pe_op SH.oAdd (pv 1) (pe_callB SH.cLen (by rfl) T.z_len (by decide +kernel) (pa_cons (pe_ix SH.ixA (pv 2) pe_int (fun _ _ => rfl)) pa_nil))))
        (pss_cons (ps_if (pt_cmpR SH.oNotN (SH.pe_fldF T.cl_Pile T.na_Pile_newest (pv 0)) pe_non (nomark _)) (pss_cons (ps_set (i := 4) sc_Pile_lay.nd rfl (Or.inl rfl) (pe_op SH.oSub (SH.pe_fldF T.cl_Pile T.na_Pile_end (pv 0)) (SH.pe_fldF T.cl_Pile T.na_Pile_low (pv 0))))
        (pss_one (ps_expr (pe_bm PySem.F.plainAttrs_list PySem.F.slot_list_append PySem.F.type_list_append mt_append (SH.pe_fldF T.cl_Pile T.na_Pile_grades (pv 0)) (pa_cons (SH.pe_callF C_grade hr (by rfl) pass0 (pa_cons (pv 4) (pa_cons (pe_op SH.oSub (SH.pe_fldF T.cl_Pile T.na_Pile_newest (pv 0)) (SH.pe_fldF T.cl_Pile T.na_Pile_low (pv 0))) (pa_cons (pe_op SH.oSub (pv 1) (SH.pe_fldF T.cl_Pile T.na_Pile_low (pv 0))) (pa_cons (pe_op SH.oSub (pv 3) (SH.pe_fldF T.cl_Pile T.na_Pile_low (pv 0))) pa_nil))))) pa_nil))))) pss_nil)
        (pss_cons (ps_expr (pe_bm PySem.F.plainAttrs_list PySem.F.slot_list_append PySem.F.type_list_append mt_append (SH.pe_fldF T.cl_Pile T.na_Pile_spans (pv 0)) (pa_cons (pe_tup (pa_cons (pv 1) (pa_cons (pv 3) (pa_cons (pe_ix SH.ixA (pv 2) pe_int (fun _ _ => rfl)) pa_nil)))) pa_nil)))
        (pss_cons (SH.ps_fldF T.cl_Pile T.na_Pile_newest (pv 0) (pv 1) rfl)
        (pss_cons (SH.ps_fldF T.cl_Pile T.na_Pile_come (pv 0) (pv 3) rfl)
        (pss_one (ps_ret (pe_tup (pa_cons pe_str (pa_cons (pv 1) (pa_cons (pe_ix SH.ixA (pv 2) pe_int (fun _ _ => rfl)) (pa_cons (pv 3) pa_nil)))))))))))))), ?_⟩
  walk_at "begin"
  have hp := hR.hp
  unfold PileF at hp
  have hs := hA.hs
  have hen := ok.en
  have hle := ok.ends.le
  walk_at "rd"
  refine ⟨I, log, S.come, S.least, S.end_, _, rfl, ⟨hA, hce, hen, .inl rfl, hn, by omega⟩, kx, fun H1 t0 q found fall es1 es2 res hT hE hP hfew S1 hA1 hq hq1 ht0 => ?_⟩
  have hlo := hE.lo
  have hbg := bey_gt (least := S.least) hlo.1 hlo.2.1
  have hperm := lay_perm hlo.1 hlo.2.1 hP
  have hrl : res.length = bey S.come S.least S.end_ found - S.come := by rw [hperm.length_eq, List.length_range']
  generalize hbe : bey S.come S.least S.end_ found = be at *
  have hR1 := hR.ask S1
  have hqO := hR.fresh hq
  have hqA := hA.freshO hq
  clear hR hA hp hs
  have hp := hR1.hp
  have hg := hR1.hg
  have hsp := hR1.hs
  have hnp := hR1.np
  unfold PileF at hp
  walk_at "rd"
  refine v_ixTn (n := 1) (SqT.of ht0) rfl rfl ?_
  walk_at "rd"
  rw [hrl, show (S.come : Int) + ((be - S.come : Nat) : Int) = (be : Int) by omega]
  refine r_nwJ (W := fun σ' H' => ∃ (v4 : Option V) (gs : List Nat), σ' = [some (.ref R.p), some (.int S.come), some (.ref t0), some (.int be), v4] ∧ (S.newest = none → gs = []) ∧ (∀ k, S.newest = some k → ∃ g, gs = [g] ∧ Grd (S.end_ - S.low : Nat) (k - S.low : Nat) (S.come - S.low : Nat) (be - S.low : Nat) g) ∧ Stp [R.ga] H1 H' ∧ H' R.ga = some (.lst (nv (S.gr ++ gs)))) ?_ (fun hc N hN => ?_) (fun hc N hN => ?_)
  rotate_left
  · cases hnw : S.newest with
    | none => exact (hc (by rw [hnw]; rfl)).elim
    | some nw =>
      obtain ⟨n1, n2, n3⟩ := ok.new1 nw hnw
      rw [hnw] at hp
      change H1 R.p = some (.ins A.Pile R.dx [("asker", .ref I.s), ("least", .int S.least), ("low", .int S.low), ("end", .int S.end_), ("come", .int S.come), ("newest", .int (nw : Nat)), ("spans", .ref R.sa), ("grades", .ref R.ga)]) at hp
      walk_at "rd"
      refine ⟨((S.end_ - S.low : Nat) : Int), ((nw - S.low : Nat) : Int), ((S.come - S.low : Nat) : Int), ((be - S.low : Nat) : Int), ?_, ⟨by omega, by omega, by omega, by omega, Int.lt_of_lt_of_le (b := 1000) (by omega) (by decide)⟩, fun g hg2 => ?_⟩
      · rw [show (S.end_ : Int) - (S.low : Int) = ((S.end_ - S.low : Nat) : Int) by omega, show (nw : Int) - (S.low : Int) = ((nw - S.low : Nat) : Int) by omega, show (S.come : Int) - (S.low : Int) = ((S.come - S.low : Nat) : Int) by omega, show (be : Int) - (S.low : Int) = ((be - S.low : Nat) : Int) by omega]
        rfl
      walk_at "rd"
      have hgl := ok.len
      refine v_app hg (by rw [List.length_map]; omega) ?_
      refine hN _ _ ⟨_, [g], rfl, (by intro z; rw [hnw] at z; cases z), fun k' hk' => ⟨g, rfl, ?_⟩, (Stp.refl _ _).putL (by simp) hg, ?_⟩
      · rw [hnw] at hk'
        cases hk'
        exact hg2
      · rw [upd_same]; simp [nv]
  · walk_at "rd"
    refine hN _ _ ⟨_, [], rfl, fun _ => rfl, fun k' hk' => ?_, .refl _ _, by rw [List.append_nil]; exact hg⟩
    rw [hk'] at hc
    cases hc
  rintro σ' H2 ⟨v4, gs, rfl, hg0, hg1, S2, hg2⟩
  dsimp only
  have nsg := hR1.ne
  have hp2 := S2.keep1 hp hnp.2.1
  have hsp2 := S2.keep1 hsp nsg
  have ht2 := S2.tup ht0
  have nqg : q ≠ R.ga := fun z => hqO (by rw [z]; simp [PIL.own])
  have nqs : q ≠ R.sa := fun z => hqO (by rw [z]; simp [PIL.own])
  have nqp : q ≠ R.p := fun z => hqO (by rw [z]; simp [PIL.own])
  have hq2 := S2.keep1 hq1 nqg
  walk_at "rd"
  refine v_ixTn (n := 1) (SqT.of ht2) rfl rfl ?_
  walk_at "rd"
  intro t1 ht1
  walk_at "rd"
  have hspl := hR1.sp.1
  have hsl := ok.ends.le
  have hsp3 := upd_old (u := .tup [.int S.come, .int be, .ref q]) hsp2 ht1
  refine v_app hsp3 (by rw [List.length_map]; omega) ?_
  have S3 : Stp [R.sa] H2 (upd (upd H2 t1 (.tup [.int S.come, .int be, .ref q])) R.sa (.lst (R.ts.map V.ref ++ [.ref t1]))) := ((Stp.refl _ _).new ht1).putL (by simp) hsp3
  have hsp4 : upd (upd H2 t1 (.tup [.int S.come, .int be, .ref q])) R.sa (.lst (R.ts.map V.ref ++ [.ref t1])) R.sa = some (.lst ((R.ts ++ [t1]).map V.ref)) := by rw [upd_same, List.map_append]; rfl
  have ht14 := upd_far (u := .lst (R.ts.map V.ref ++ [.ref t1])) (ne_of_none hsp2 ht1).symm (upd_same (H := H2) (a := t1) (o := .tup [.int S.come, .int be, .ref q]))
  have hp4 := S3.keep1 hp2 hnp.1
  have hg4 := S3.keep1 hg2 nsg.symm
  have hq4 := S3.keep1 hq2 nqs
  have ht4 := S3.tup ht2
  generalize upd (upd H2 t1 (.tup [.int S.come, .int be, .ref q])) R.sa (.lst (R.ts.map V.ref ++ [.ref t1])) = H4 at S3 hsp4 ht14 hp4 hg4 hq4 ht4 ⊢
  clear hsp3 hsp2 ht2 hq2
  walk_at "rd"
  have S5 : Stp [R.p] H4 (upd (upd H4 R.p (.ins A.Pile R.dx [("asker", .ref I.s), ("least", .int S.least), ("low", .int S.low), ("end", .int S.end_), ("come", .int S.come), ("newest", .int S.come), ("spans", .ref R.sa), ("grades", .ref R.ga)])) R.p (.ins A.Pile R.dx [("asker", .ref I.s), ("least", .int S.least), ("low", .int S.low), ("end", .int S.end_), ("come", .int be), ("newest", .int S.come), ("spans", .ref R.sa), ("grades", .ref R.ga)])) := ((Stp.refl [R.p] H4).putI (by simp) hp4).putI (by simp) upd_same
  have hp5 : (upd (upd H4 R.p (.ins A.Pile R.dx [("asker", .ref I.s), ("least", .int S.least), ("low", .int S.low), ("end", .int S.end_), ("come", .int S.come), ("newest", .int S.come), ("spans", .ref R.sa), ("grades", .ref R.ga)])) R.p (.ins A.Pile R.dx [("asker", .ref I.s), ("least", .int S.least), ("low", .int S.low), ("end", .int S.end_), ("come", .int be), ("newest", .int S.come), ("spans", .ref R.sa), ("grades", .ref R.ga)])) R.p = some (.ins A.Pile R.dx [("asker", .ref I.s), ("least", .int S.least), ("low", .int S.low), ("end", .int S.end_), ("come", .int be), ("newest", .int S.come), ("spans", .ref R.sa), ("grades", .ref R.ga)]) := upd_same
  generalize upd (upd H4 R.p (.ins A.Pile R.dx [("asker", .ref I.s), ("least", .int S.least), ("low", .int S.low), ("end", .int S.end_), ("come", .int S.come), ("newest", .int S.come), ("spans", .ref R.sa), ("grades", .ref R.ga)])) R.p (.ins A.Pile R.dx [("asker", .ref I.s), ("least", .int S.least), ("low", .int S.low), ("end", .int S.end_), ("come", .int be), ("newest", .int S.come), ("spans", .ref R.sa), ("grades", .ref R.ga)]) = H5 at S5 hp5 ⊢
  have hsp5 := S5.keep1 hsp4 hnp.1.symm
  have hg5 := S5.keep1 hg4 hnp.2.1.symm
  have hq5 := S5.keep1 hq4 nqp
  have ht15 := S5.tup ht14
  have ht5 := S5.tup ht4
  clear hsp4 hg4 hq4 ht14 ht4
  refine v_ixTn (n := 0) (SqT.of ht5) rfl rfl ?_
  walk_at "rd"
  refine v_tup (by simp) fun t2 ht2 => ?_
  have S6 := (Stp.refl [] H5).new (o := .tup [.str "lay", .int S.come, .int found, .int be]) ht2
  have S25 : Stp [R.p, R.sa] H2 H5 := (S3.mono (by simp)).trans (S5.mono (by simp))
  have S15 : Stp [R.p, R.sa, R.ga] H1 H5 := (S2.mono (by simp)).trans (S25.mono (by intro b hb; simp only [List.mem_cons, List.not_mem_nil, or_false] at hb ⊢; rcases hb with h | h <;> simp [h]))
  have S05 : Stp (R.M I) H H5 := (S1.mono (by intro b hb; simp [PIL.M, hb])).trans (S15.mono (by intro b hb; simp only [PIL.M, List.mem_cons, List.not_mem_nil, or_false] at hb ⊢; rcases hb with h | h | h <;> simp [h]))
  have hA6 : I.At K A (upd H5 t2 (.tup [.str "lay", .int S.come, .int found, .int be])) (log ++ (es1 ++ es2)) := hA1.stp (S15.then0 S6) (by
    intro m hm
    refine hR1.own m ?_
    simp only [PIL.own, List.mem_cons, List.not_mem_nil, or_false] at hm ⊢
    rcases hm with h | h | h <;> simp [h])
  have n1 : ∀ {o : Addr}, o ∈ R.os → o ∉ [R.p, R.sa, R.ga] := fun {o} ho z => by
    simp only [List.mem_cons, List.not_mem_nil, or_false] at z
    have := hR1.no o ho
    rcases z with z | z | z
    · exact hnp.2.2 (z ▸ ho)
    · exact this.1 z
    · exact this.2 z
  have hsp6 := (hR1.sp.stp S15 fun o ho => n1 ho).stp S6 (by simp)
  refine k _ t2 ⟨R.p, R.dx, R.sa, R.ga, R.ts ++ [t1], R.os ++ [q]⟩ found fall es1 es2 res gs rfl (fun a ha => ?_) hE (by rw [hbe]; exact hP) (by rw [hbe]; exact hfew) hT hg0 (by rw [hbe]; exact hg1) (S05.then0 S6) hA6 ?_ (S05.dom _ ht2) (by rw [hbe]; exact upd_same)
  · simp only [PIL.own, List.mem_cons, List.mem_append, List.not_mem_nil, or_false] at ha ⊢
    rcases ha with h | h | h | h | h
    · simp [h]
    · simp [h]
    · simp [h]
    · simp [h]
    · subst h; exact .inr hq
  · refine ⟨?_, S6.keep0 hsp5, S6.keep0 hg5, ⟨by simp [layS, hspl], by simp [layS, hR1.sp.2.1], fun i s hi => ?_⟩, fun a ha => ?_, nsg, fun o ho => ?_⟩
    · have := S6.keep0 hp5
      rw [← hbe] at this ⊢
      exact this
    · by_cases hlt : i < S.sp.length
      · have hi' : S.sp[i]? = some s := by
          have : (S.sp ++ [_])[i]? = some s := hi
          rwa [List.getElem?_append_left hlt] at this
        obtain ⟨t, o, e1, e2, e3, e4⟩ := hsp6.2.2 i s hi'
        exact ⟨t, o, by rw [List.getElem?_append_left (by omega)]; exact e1, by rw [List.getElem?_append_left (by have := hR1.sp.2.1; omega)]; exact e2, e3, e4⟩
      · have hi' : (S.sp ++ [_])[i]? = some s := hi
        rw [List.getElem?_append_right (by omega)] at hi'
        obtain ⟨e1, e2⟩ := List.getElem?_eq_some_iff.mp hi'
        simp at e1 e2
        have hi0 : i = S.sp.length := by omega
        subst hi0
        refine ⟨t1, q, by rw [← hspl, List.getElem?_append_right (by omega)]; simp, by rw [← hR1.sp.2.1, List.getElem?_append_right (by omega)]; simp, ?_, ?_⟩
        · rw [← e2]; show _ = some (HO.tup [.int S.come, .int (bey S.come S.least S.end_ found), .ref q]); rw [hbe]; exact S6.tup ht15
        · rw [← e2]; exact S6.keep0 hq5
    · simp only [PIL.own, List.mem_cons, List.mem_append, List.not_mem_nil, or_false] at ha
      rcases ha with h | h | h | h | h
      · exact hR1.own a (by simp [PIL.own, h])
      · exact hR1.own a (by simp [PIL.own, h])
      · exact hR1.own a (by simp [PIL.own, h])
      · exact hR1.own a (by simp [PIL.own, h])
      · subst h; exact hqA
    · rcases List.mem_append.mp ho with h | h
      · exact hR1.no o h
      · rw [List.mem_singleton] at h
        subst h
        exact ⟨nqs, nqg⟩
theorem spl_at {α : Type} {xs : List α} {i j : Nat} {m s : α} (h : (xs.take i ++ [m] ++ xs.drop (i + 2))[j]? = some s) (hi : i ≤ xs.length := by omega) : (j < i ∧ xs[j]? = some s) ∨ (j = i ∧ m = s) ∨ (i < j ∧ xs[j + 1]? = some s) := by
  have hl : (xs.take i).length = i := by rw [List.length_take]; omega
  rw [List.append_assoc] at h
  rcases Nat.lt_trichotomy j i with c | c | c
  · rw [List.getElem?_append_left (by omega), List.getElem?_take_of_lt c] at h
    exact .inl ⟨c, h⟩
  · subst c
    rw [List.getElem?_append_right (by omega), hl] at h
    simp at h
    exact .inr (.inl ⟨rfl, h⟩)
  · rw [List.getElem?_append_right (by omega), hl, List.getElem?_append_right (by simp; omega), List.getElem?_drop] at h
    refine .inr (.inr ⟨c, ?_⟩)
    rw [← h]
    congr 1
    simp
    omega
theorem spl_lo {α : Type} {xs : List α} {i j : Nat} {m : α} (h : j < i) (hi : i ≤ xs.length) : (xs.take i ++ [m] ++ xs.drop (i + 2))[j]? = xs[j]? := by
  have hl : (xs.take i).length = i := by rw [List.length_take]; omega
  rw [List.append_assoc, List.getElem?_append_left (by omega), List.getElem?_take_of_lt h]
theorem spl_mid {α : Type} {xs : List α} {i : Nat} {m : α} (hi : i ≤ xs.length) : (xs.take i ++ [m] ++ xs.drop (i + 2))[i]? = some m := by
  have hl : (xs.take i).length = i := by rw [List.length_take]; omega
  rw [List.append_assoc, List.getElem?_append_right (by omega), hl]
  simp
theorem spl_hi {α : Type} {xs : List α} {i j : Nat} {m : α} (h : i < j) (hi : i ≤ xs.length) : (xs.take i ++ [m] ++ xs.drop (i + 2))[j]? = xs[j + 1]? := by
  have hl : (xs.take i).length = i := by rw [List.length_take]; omega
  rw [List.append_assoc, List.getElem?_append_right (by omega), hl, List.getElem?_append_right (by simp; omega), List.getElem?_drop]
  congr 1
  simp
  omega
def sp_Pile_put_together (K : PySem.W.Frag) (A : Ad) : Sp := fun vs H Q E => ∃ (R : PIL) (I : Ask) (log : List Ent) (S : PS) (i : Nat) (l u : Spn), vs = [.ref R.p, .int i] ∧
  (R.At A I H S ∧ I.At K A H log ∧ S.Ok I.n ∧ S.sp[i]? = some l ∧ S.sp[i + 1]? = some u ∧ I.n ≤ 300 ∧ log.length + I.pre.length < 80000) ∧
  Stop I K A H log (fun es => ∃ res, JN (LR l.o u.o) (fun _ => 0) false 0 es res) E ∧
  ∀ (H' : Hp) (t : Addr) (R' : PIL) (es : List Ent) (res : List Nat), R'.p = R.p → (∀ a ∈ R'.own, a ∈ R.own ∨ H a = none) → JN (LR l.o u.o) (fun _ => 0) false 0 es res → es.length ≤ 3 * (l.o.length + u.o.length) → Told I.or log es →
    Stp (R.M I) H H' → I.At K A H' (log ++ es) → R'.At A I H' (joinS S i l u res) → H t = none → H' t = some (.tup [.str "join", .int l.f, .int u.f, .int u.b]) → Q (.ref t) H'
theorem ok_Pile_put_together {P : Program} {w : World} {K : PySem.W.Frag} {mg : Str → Option Value} {base : Heap} {A : Ad} {f : Addr} {fd : FuncData} (F : Fun K "put_together" "Pile.put_together" s_Pile_put_together f fd) (T : Txt K mg A) (C_joined : SH.Cal P w K mg base (L2N.CX P w) 7 "joined" [] (sp_joined K A)) : FnOk P w K mg base (L2N.CX P w) 8 f fd ["self", "at"] (sp_Pile_put_together K A) := by
  refine SH.okN F sc_Pile_put_together (fun vs H Q E h => by obtain ⟨_, _, _, _, _, _, _, rfl, _⟩ := h; rfl) (fun cdv A' outer s H vs Q E hr h => ?_)
  obtain ⟨R, I, log, S, i, l, u, rfl, ⟨hR, hA, ok, hl, hu, hn, hlog⟩, kx, k⟩ := h
  refine ⟨_, (pss_cons (ps_set (i := 2) sc_Pile_put_together.nd rfl (Or.inl rfl) (pe_ix SH.ixA (SH.pe_fldF T.cl_Pile T.na_Pile_spans (pv 0)) (pv 1) (fun _ _ => rfl)))
        (pss_cons (ps_set (i := 3) sc_Pile_put_together.nd rfl (Or.inl rfl) (pe_ix SH.ixA (SH.pe_fldF T.cl_Pile T.na_Pile_spans (pv 0)) (pe_op SH.oAdd (pv 1) pe_int) (fun _ _ => rfl)))
        (pss_cons (ps_set (i := 4) sc_Pile_put_together.nd rfl (Or.inl rfl) (SH.pe_callF C_joined hr (by rfl) (L2N.passes_call (L2N.takes_of rfl rfl rfl rfl) fun _ _ _ _ h => h) (pa_cons (SH.pe_fldF T.cl_Pile T.na_Pile_asker (pv 0)) (pa_cons (pe_ix SH.ixA (pv 2) pe_int (fun _ _ => rfl)) (pa_cons (pe_ix SH.ixA (pv 3) pe_int (fun _ _ => rfl)) pa_nil)))))
        (pss_cons (SH.ps_fldF T.cl_Pile T.na_Pile_spans (pv 0) (pe_op SH.oAdd (pe_op SH.oAdd (pe_slice sl_list (SH.pe_fldF T.cl_Pile T.na_Pile_spans (pv 0)) po_none (po_some (pv 1))) (pe_lst (pa_cons (pe_tup (pa_cons (pe_ix SH.ixA (pv 2) pe_int (fun _ _ => rfl)) (pa_cons (pe_ix SH.ixA (pv 3) pe_int (fun _ _ => rfl)) (pa_cons (pv 4) pa_nil)))) pa_nil))) (pe_slice sl_list (SH.pe_fldF T.cl_Pile T.na_Pile_spans (pv 0)) (po_some (pe_op SH.oAdd (pv 1) pe_int)) po_none)) rfl)
        (pss_cons (SH.ps_fldF T.cl_Pile T.na_Pile_grades (pv 0) (pe_op SH.oAdd (pe_slice sl_list (SH.pe_fldF T.cl_Pile T.na_Pile_grades (pv 0)) po_none (po_some (pv 1))) (pe_slice sl_list (SH.pe_fldF T.cl_Pile T.na_Pile_grades (pv 0)) (po_some (pe_op SH.oAdd (pv 1) pe_int)) po_none)) rfl)
        (pss_one (ps_ret (pe_tup (pa_cons pe_str (pa_cons (pe_ix SH.ixA (pv 2) pe_int (fun _ _ => rfl)) (pa_cons (pe_ix SH.ixA (pv 3) pe_int (fun _ _ => rfl)) (pa_cons (pe_ix SH.ixA (pv 3) pe_int (fun _ _ => rfl)) pa_nil)))))))))))), ?_⟩
  walk_at "begin"
  have hp := hR.hp
  unfold PileF at hp
  have hsp := hR.hs
  have hen := ok.en
  have hle := ok.ends.le
  have hce := ok.ce
  obtain ⟨e1, e2, e3, e4, e5⟩ := ok.ends.two hl hu
  have hpl := ok.perm l (List.mem_of_getElem? hl)
  have hpu := ok.perm u (List.mem_of_getElem? hu)
  obtain ⟨tl, ol, hl1, hl2, hl3, hl4⟩ := hR.sp.2.2 i l hl
  obtain ⟨tu, ou, hu1, hu2, hu3, hu4⟩ := hR.sp.2.2 (i + 1) u hu
  have hol := hR.own ol (by simp [PIL.own, List.mem_of_getElem? hl2])
  have hou := hR.own ou (by simp [PIL.own, List.mem_of_getElem? hu2])
  have hil : i + 1 < S.sp.length := (List.getElem?_eq_some_iff.mp hu).1
  have hgl := ok.len
  walk_at "rd"
  refine v_ixLn (n := i) (SqL.of hsp) rfl (by rw [List.getElem?_map, hl1]; rfl) ?_
  walk_at "rd"
  refine v_ixLn (n := i + 1) (SqL.of hsp) (by omega) (by rw [List.getElem?_map, hu1]; rfl) ?_
  walk_at "rd"
  refine v_ixTn (n := 2) (SqT.of hl3) rfl rfl ?_
  walk_at "rd"
  refine v_ixTn (n := 2) (SqT.of hu3) rfl rfl ?_
  walk_at "rd"
  have hll : l.o.length ≤ 300 := by rw [hpl.length_eq, List.length_range']; omega
  have hul : u.o.length ≤ 300 := by rw [hpu.length_eq, List.length_range']; omega
  refine ⟨I, log, ol, ou, l.o, u.o, rfl, ⟨hA, hl4, hu4, fun z => hol (Ask.Mown z), fun z => hou (Ask.Mown z), fun o ho => by have := List.mem_range'_1.mp (hpl.mem_iff.mp ho); omega, fun o ho => by have := List.mem_range'_1.mp (hpu.mem_iff.mp ho); omega, spn_dis hpl hpu e2 e1, by omega, by omega, by omega⟩, kx, fun H1 q es res hq hel hT hJ S1 hA1 hq1 => ?_⟩
  have hR1 := hR.ask S1
  have hqO := hR.fresh hq
  have hqA := hA.freshO hq
  have hl31 := S1.tup hl3
  have hu31 := S1.tup hu3
  have hHq := hq
  clear hA hp hsp hl3 hu3 hl4 hu4
  have hp := hR1.hp
  have hg := hR1.hg
  have hsp := hR1.hs
  have hnp := hR1.np
  have nsg := hR1.ne
  unfold PileF at hp
  have nqg : q ≠ R.ga := fun z => hqO (by rw [z]; simp [PIL.own])
  have nqs : q ≠ R.sa := fun z => hqO (by rw [z]; simp [PIL.own])
  have nqp : q ≠ R.p := fun z => hqO (by rw [z]; simp [PIL.own])
  walk_at "rd"
  rw [cut_map, cutL_upto]
  intro a1 ha1
  walk_at "rd"
  refine v_ixTn (n := 0) (SqT.of (upd_old hl31 ha1)) rfl rfl ?_
  walk_at "rd"
  refine v_ixTn (n := 1) (SqT.of (upd_old hu31 ha1)) rfl rfl ?_
  walk_at "rd"
  intro t1 ht1
  walk_at "rd"
  intro a2 ha2
  refine v_addL (upd_old (upd_old upd_same ht1) ha2) upd_same (Nat.le_trans (m := 1000) (by rw [List.length_map, List.length_take]; simp; have := hR1.sp.1; omega) (by decide)) fun a3 ha3 => ?_
  have S2 := (((((Stp.refl [] H1).new (o := .lst ((R.ts.take i).map V.ref)) ha1).new (o := .tup [.int l.f, .int u.b, .ref q]) ht1).new (o := .lst [.ref t1]) ha2).new (o := .lst ((R.ts.take i).map V.ref ++ [.ref t1])) ha3)
  have ht12 := upd_old (u := .lst ((R.ts.take i).map V.ref ++ [.ref t1])) (upd_old (u := .lst [.ref t1]) (upd_same (H := upd H1 a1 (.lst ((R.ts.take i).map V.ref))) (a := t1) (o := .tup [.int l.f, .int u.b, .ref q])) ha2) ha3
  have ha32 := upd_same (H := upd (upd (upd H1 a1 (.lst ((R.ts.take i).map V.ref))) t1 (.tup [.int l.f, .int u.b, .ref q])) a2 (.lst [.ref t1])) (a := a3) (o := .lst ((R.ts.take i).map V.ref ++ [.ref t1]))
  generalize upd (upd (upd (upd H1 a1 (.lst ((R.ts.take i).map V.ref))) t1 (.tup [.int l.f, .int u.b, .ref q])) a2 (.lst [.ref t1])) a3 (.lst ((R.ts.take i).map V.ref ++ [.ref t1])) = H2 at S2 ht12 ha32 ⊢
  clear ha1 ht1 ha2 ha3
  have hsp2 := S2.keep0 hsp
  have hp2 := S2.keep0 hp
  walk_at "rd"
  rw [cut_map, show (i : Int) + 2 = ((i + 2 : Nat) : Int) by omega, cutL_from]
  intro a4 ha4
  refine v_addL (upd_old ha32 ha4) upd_same (Nat.le_trans (m := 1000) (by simp only [List.length_append, List.length_map, List.length_take, List.length_drop, List.length_cons, List.length_nil]; have := hR1.sp.1; omega) (by decide)) fun a5 ha5 => ?_
  have S3 := (S2.new (o := .lst ((R.ts.drop (i + 2)).map V.ref)) ha4).new (o := .lst ((R.ts.take i).map V.ref ++ [.ref t1] ++ (R.ts.drop (i + 2)).map V.ref)) ha5
  have ht13 := upd_old (u := .lst ((R.ts.take i).map V.ref ++ [.ref t1] ++ (R.ts.drop (i + 2)).map V.ref)) (upd_old (u := .lst ((R.ts.drop (i + 2)).map V.ref)) ht12 ha4) ha5
  have ha53 := upd_same (H := upd H2 a4 (.lst ((R.ts.drop (i + 2)).map V.ref))) (a := a5) (o := .lst ((R.ts.take i).map V.ref ++ [.ref t1] ++ (R.ts.drop (i + 2)).map V.ref))
  have ha5H : H1 a5 = none := S2.dom _ (upd_free ha5).1
  generalize upd (upd H2 a4 (.lst ((R.ts.drop (i + 2)).map V.ref))) a5 (.lst ((R.ts.take i).map V.ref ++ [.ref t1] ++ (R.ts.drop (i + 2)).map V.ref)) = H3 at S3 ht13 ha53 ⊢
  clear ha4 ha5 S2 ht12 ha32 hsp2 hp2
  have hp3 := S3.keep0 hp
  have n5p : a5 ≠ R.p := (ne_of_none hp ha5H).symm
  walk_at "rd"
  have S4 : Stp [R.p] H1 (upd H3 R.p (.ins A.Pile R.dx [("asker", .ref I.s), ("least", .int S.least), ("low", .int S.low), ("end", .int S.end_), ("come", .int S.come), ("newest", nwV S.newest), ("spans", .ref a5), ("grades", .ref R.ga)])) := (S3.mono (by simp)).putI (by simp) hp3
  have hp4 : (upd H3 R.p (.ins A.Pile R.dx [("asker", .ref I.s), ("least", .int S.least), ("low", .int S.low), ("end", .int S.end_), ("come", .int S.come), ("newest", nwV S.newest), ("spans", .ref a5), ("grades", .ref R.ga)])) R.p = _ := upd_same
  have ht14 := upd_far (u := .ins A.Pile R.dx [("asker", .ref I.s), ("least", .int S.least), ("low", .int S.low), ("end", .int S.end_), ("come", .int S.come), ("newest", nwV S.newest), ("spans", .ref a5), ("grades", .ref R.ga)]) (show t1 ≠ R.p from fun z => by rw [z, hp3] at ht13; cases ht13) ht13
  have ha54 := upd_far (u := .ins A.Pile R.dx [("asker", .ref I.s), ("least", .int S.least), ("low", .int S.low), ("end", .int S.end_), ("come", .int S.come), ("newest", nwV S.newest), ("spans", .ref a5), ("grades", .ref R.ga)]) n5p ha53
  generalize upd H3 R.p (.ins A.Pile R.dx [("asker", .ref I.s), ("least", .int S.least), ("low", .int S.low), ("end", .int S.end_), ("come", .int S.come), ("newest", nwV S.newest), ("spans", .ref a5), ("grades", .ref R.ga)]) = H4 at S4 hp4 ht14 ha54 ⊢
  have hg4 := S4.keep1 hg hnp.2.1.symm
  have n5g : a5 ≠ R.ga := (ne_of_none hg ha5H).symm
  clear S3 ht13 ha53 hp3
  walk_at "rd"
  intro b1 hb1
  rw [cut_map, cutL_upto]
  walk_at "rd"
  intro b2 hb2
  rw [cut_map, show (i : Int) + 1 = ((i + 1 : Nat) : Int) by omega, cutL_from]
  refine v_addL (upd_old upd_same hb2) upd_same (Nat.le_trans (m := 1000) (by simp only [List.length_map, List.length_take, List.length_drop]; omega) (by decide)) fun b3 hb3 => ?_
  have S5 := (((Stp.refl [] H4).new (o := .lst ((S.gr.take i).map fun n : Nat => V.int n)) hb1).new (o := .lst ((S.gr.drop (i + 1)).map fun n : Nat => V.int n)) hb2).new (o := .lst (((S.gr.take i).map fun n : Nat => V.int n) ++ ((S.gr.drop (i + 1)).map fun n : Nat => V.int n))) hb3
  have hb35 := upd_same (H := upd (upd H4 b1 (.lst ((S.gr.take i).map fun n : Nat => V.int n))) b2 (.lst ((S.gr.drop (i + 1)).map fun n : Nat => V.int n))) (a := b3) (o := .lst (((S.gr.take i).map fun n : Nat => V.int n) ++ ((S.gr.drop (i + 1)).map fun n : Nat => V.int n)))
  have hb34 : H4 b3 = none := (upd_free (upd_free hb3).1).1
  generalize upd (upd (upd H4 b1 (.lst ((S.gr.take i).map fun n : Nat => V.int n))) b2 (.lst ((S.gr.drop (i + 1)).map fun n : Nat => V.int n))) b3 (.lst (((S.gr.take i).map fun n : Nat => V.int n) ++ ((S.gr.drop (i + 1)).map fun n : Nat => V.int n))) = H5 at S5 hb35 ⊢
  clear hb1 hb2 hb3
  have hp5 := S5.keep0 hp4
  have hb3H : H1 b3 = none := S4.dom _ hb34
  have n3p : b3 ≠ R.p := (ne_of_none hp4 hb34).symm
  have n53 : a5 ≠ b3 := ne_of_none ha54 hb34
  walk_at "rd"
  have S6 : Stp [R.p] H1 (upd H5 R.p (.ins A.Pile R.dx [("asker", .ref I.s), ("least", .int S.least), ("low", .int S.low), ("end", .int S.end_), ("come", .int S.come), ("newest", nwV S.newest), ("spans", .ref a5), ("grades", .ref b3)])) := (S4.then0 S5).putI (by simp) hp5
  have S46 : Stp [R.p] H4 (upd H5 R.p (.ins A.Pile R.dx [("asker", .ref I.s), ("least", .int S.least), ("low", .int S.low), ("end", .int S.end_), ("come", .int S.come), ("newest", nwV S.newest), ("spans", .ref a5), ("grades", .ref b3)])) := (S5.mono (by simp)).putI (by simp) hp5
  have hp6 : (upd H5 R.p (.ins A.Pile R.dx [("asker", .ref I.s), ("least", .int S.least), ("low", .int S.low), ("end", .int S.end_), ("come", .int S.come), ("newest", nwV S.newest), ("spans", .ref a5), ("grades", .ref b3)])) R.p = some (.ins A.Pile R.dx [("asker", .ref I.s), ("least", .int S.least), ("low", .int S.low), ("end", .int S.end_), ("come", .int S.come), ("newest", nwV S.newest), ("spans", .ref a5), ("grades", .ref b3)]) := upd_same
  have hb36 := upd_far (u := .ins A.Pile R.dx [("asker", .ref I.s), ("least", .int S.least), ("low", .int S.low), ("end", .int S.end_), ("come", .int S.come), ("newest", nwV S.newest), ("spans", .ref a5), ("grades", .ref b3)]) n3p hb35
  generalize upd H5 R.p (.ins A.Pile R.dx [("asker", .ref I.s), ("least", .int S.least), ("low", .int S.low), ("end", .int S.end_), ("come", .int S.come), ("newest", nwV S.newest), ("spans", .ref a5), ("grades", .ref b3)]) = H6 at S6 S46 hp6 hb36 ⊢
  have ha56 := S46.keep1 ha54 n5p
  have ht16 := S46.tup ht14
  have hq6 := S6.keep1 hq1 nqp
  have hl36 := S6.tup hl31
  have hu36 := S6.tup hu31
  clear S4 S5 S46 hp4 hp5 hb35 ha54 ht14 hg4
  refine v_ixTn (n := 0) (SqT.of hl36) rfl rfl ?_
  walk_at "rd"
  refine v_ixTn (n := 0) (SqT.of hu36) rfl rfl ?_
  walk_at "rd"
  refine v_ixTn (n := 1) (SqT.of hu36) rfl rfl ?_
  walk_at "rd"
  refine v_tup (by simp) fun t2 ht2 => ?_
  have S7 := (Stp.refl [] H6).new (o := .tup [.str "join", .int l.f, .int u.f, .int u.b]) ht2
  have S06 : Stp (R.M I) H H6 := (S1.mono (by intro b hb; simp [PIL.M, hb])).trans (S6.mono (by intro b hb; simp only [PIL.M, List.mem_cons, List.not_mem_nil, or_false] at hb ⊢; simp [hb]))
  have hA7 : I.At K A (upd H6 t2 (.tup [.str "join", .int l.f, .int u.f, .int u.b])) (log ++ es) := hA1.stp (S6.then0 S7) (by
    intro m hm
    refine hR1.own m ?_
    simp only [PIL.own, List.mem_cons, List.not_mem_nil, or_false] at hm ⊢
    simp [hm])
  have ha5A := hA1.freshO ha5H
  have hb3A := hA1.freshO hb3H
  have hspl := hR1.sp
  refine k _ t2 ⟨R.p, R.dx, a5, b3, R.ts.take i ++ [t1] ++ R.ts.drop (i + 2), R.os.take i ++ [q] ++ R.os.drop (i + 2)⟩ es res rfl (fun a ha => ?_) hJ hel hT (S06.then0 S7) hA7 ?_ (S06.dom _ ht2) upd_same
  · simp only [PIL.own, List.mem_cons, List.mem_append, List.not_mem_nil, or_false] at ha ⊢
    rcases ha with h | h | h | (h | h) | h
    · simp [h]
    · subst h; exact .inr (S1.dom _ ha5H)
    · subst h; exact .inr (S1.dom _ hb3H)
    · exact .inl (.inr (.inr (.inr (List.mem_of_mem_take h))))
    · subst h; exact .inr hHq
    · exact .inl (.inr (.inr (.inr (List.mem_of_mem_drop h))))
  · have no1 : ∀ o ∈ R.os, o ≠ a5 ∧ o ≠ b3 := fun o ho => by
      obtain ⟨xs, e⟩ := hspl.there ho
      exact ⟨ne_of_none e ha5H, ne_of_none e hb3H⟩
    refine ⟨?_, ?_, ?_, ⟨?_, ?_, fun j s hj => ?_⟩, fun a ha => ?_, n53, fun o ho => ?_⟩
    · exact S7.keep0 hp6
    · have := S7.keep0 ha56
      simpa using this
    · have := S7.keep0 hb36
      simpa [joinS, nv] using this
    · simp only [joinS, List.length_append, List.length_take, List.length_drop, List.length_cons, List.length_nil, hspl.1]
    · simp only [joinS, List.length_append, List.length_take, List.length_drop, List.length_cons, List.length_nil, hspl.2.1]
    · have hsp7 := (hspl.stp S6 fun o ho z => hnp.2.2 (by rw [List.mem_singleton] at z; exact z ▸ ho)).stp S7 (by simp)
      rcases spl_at hj with ⟨h1, h2⟩ | ⟨h1, h2⟩ | ⟨h1, h2⟩
      · obtain ⟨t, o, e1, e2, e3, e4⟩ := hsp7.2.2 j s h2
        exact ⟨t, o, (spl_lo h1 (by rw [hspl.1]; omega)).trans e1, (spl_lo h1 (by rw [hspl.2.1]; omega)).trans e2, e3, e4⟩
      · subst h1 h2
        exact ⟨t1, q, spl_mid (by rw [hspl.1]; omega), spl_mid (by rw [hspl.2.1]; omega), S7.tup ht16, S7.keep0 hq6⟩
      · obtain ⟨t, o, e1, e2, e3, e4⟩ := hsp7.2.2 (j + 1) s h2
        exact ⟨t, o, (spl_hi h1 (by rw [hspl.1]; omega)).trans e1, (spl_hi h1 (by rw [hspl.2.1]; omega)).trans e2, e3, e4⟩
    · simp only [PIL.own, List.mem_cons, List.mem_append, List.not_mem_nil, or_false] at ha
      rcases ha with h | h | h | (h | h) | h
      · exact hR1.own a (by simp [PIL.own, h])
      · subst h; exact ha5A
      · subst h; exact hb3A
      · exact hR1.own a (by simp [PIL.own, List.mem_of_mem_take h])
      · subst h; exact hqA
      · exact hR1.own a (by simp [PIL.own, List.mem_of_mem_drop h])
    · simp only [List.mem_append, List.mem_cons, List.not_mem_nil, or_false] at ho
      rcases ho with (h | h) | h
      · exact no1 o (List.mem_of_mem_take h)
      · subst h
        exact ⟨ne_of_none hq1 ha5H, ne_of_none hq1 hb3H⟩
      · exact no1 o (List.mem_of_mem_drop h)
/-- how many asks a deed takes -/
def Few (n : Nat) (S S' : PS) (es : List Ent) : Prop := es.length + 3 * n * S'.sp.length ≤ 3 * n * S.sp.length + (S'.come - S.come) * (4 * n + 1)
theorem few_lay {S : PS} {n found : Nat} {es1 es2 : List Ent} {res gs : List Nat} (h1 : S.come < bey S.come S.least S.end_ found) (h2 : S.come < found) (h3 : es1.length ≤ found - S.come) (h4 : es2.length ≤ (bey S.come S.least S.end_ found - found) * n) (h5 : found ≤ bey S.come S.least S.end_ found) : Few n S (layS S found res gs) (es1 ++ es2) := by
  unfold Few
  show (es1 ++ es2).length + 3 * n * (S.sp ++ [_]).length ≤ 3 * n * S.sp.length + (bey S.come S.least S.end_ found - S.come) * (4 * n + 1)
  generalize bey S.come S.least S.end_ found = be at *
  rw [List.length_append, List.length_append, List.length_cons, List.length_nil, Nat.mul_add, Nat.mul_add]
  obtain ⟨d, hd⟩ : ∃ d, be = S.come + 1 + d := ⟨be - S.come - 1, by omega⟩
  have e1 : be - S.come = d + 1 := by omega
  have h6 : (be - found) * n ≤ d * n := Nat.mul_le_mul_right _ (by omega)
  have h7 : (be - S.come) * (4 * n) = d * n * 4 + n * 4 := by rw [e1, Nat.add_mul, Nat.one_mul, Nat.mul_comm 4 n, ← Nat.mul_assoc]
  rw [Nat.mul_add (be - S.come), Nat.mul_one, h7]
  omega
theorem few_join {S : PS} {n i : Nat} {l u : Spn} {es : List Ent} {res : List Nat} (h : es.length ≤ 3 * (l.o.length + u.o.length)) (hn : l.o.length + u.o.length ≤ n) (hi : i + 1 < S.sp.length) : Few n S (joinS S i l u res) es := by
  unfold Few
  show es.length + 3 * n * (S.sp.take i ++ [_] ++ S.sp.drop (i + 2)).length ≤ 3 * n * S.sp.length + (S.come - S.come) * (4 * n + 1)
  obtain ⟨k, hk⟩ : ∃ k, S.sp.length = k + 1 := ⟨S.sp.length - 1, by omega⟩
  have e : (S.sp.take i ++ [(⟨l.f, u.b, res⟩ : Spn)] ++ S.sp.drop (i + 2)).length = k := by
    simp only [List.length_append, List.length_take, List.length_drop, List.length_cons, List.length_nil]; omega
  rw [e, hk, Nat.mul_add]
  omega
theorem Grd.ex {many first middle beyond : Int} (h0 : 0 ≤ first) (h1 : first < middle) (h2 : middle < beyond) (h3 : beyond ≤ many) : ∃ g, Grd many first middle beyond g := by
  have b1 := bits_lt (n := many - 1) (by omega)
  have hp := part_at h0 h1 h2 h3 (k := Builtin.Int.intBits (many - 1)) (by omega)
  have hpos : 1 ≤ Builtin.Int.intBits (many - 1) := by
    apply Nat.one_le_iff_ne_zero.mpr
    intro z
    rw [z] at b1
    simp at b1
    omega
  have key : ∀ n : Nat, ∀ t : Nat, 1 ≤ t → t + n = Builtin.Int.intBits (many - 1) → (∀ k : Nat, 1 ≤ k → k < t → (first + middle) * 2 ^ k / (2 * many) = (middle + beyond) * 2 ^ k / (2 * many)) → ∃ g, Grd many first middle beyond g := by
    intro n
    induction n with
    | zero => intro t ht e hl; exact ⟨t, ht, by omega, hl, by rw [show t = Builtin.Int.intBits (many - 1) by omega]; exact hp⟩
    | succ n ih =>
      intro t ht e hl
      by_cases c : (first + middle) * 2 ^ t / (2 * many) = (middle + beyond) * 2 ^ t / (2 * many)
      · refine ih (t + 1) (by omega) (by omega) fun k hk1 hk2 => ?_
        by_cases e2 : k = t
        · rw [e2]; exact c
        · exact hl k hk1 (by omega)
      · exact ⟨t, ht, by omega, hl, c⟩
  exact key (Builtin.Int.intBits (many - 1) - 1) 1 (Nat.le_refl _) (by omega) fun k hk1 hk2 => by omega
theorem lay_deed {S : PS} {n found : Nat} {fall : Bool} {es1 es2 : List Ent} {res : List Nat} (ok : S.Ok n) (hb : ¬ S.bene) (hc : S.come < S.end_) (hE : StretchEs S.come S.end_ found fall es1) (hP : PO (bey S.come S.least S.end_ found) found (trn S.come found fall) es2 res) : ∃ S' d, Deed S (es1 ++ es2) S' d := by
  have hlo := hE.lo
  have hbg := bey_gt (least := S.least) hlo.1 hlo.2.1
  have hle := ok.ends.le
  cases hnw : S.newest with
  | none => exact ⟨_, _, .lay (gs := []) hb hc hE hP (fun _ => rfl) (fun k hk => by rw [hnw] at hk; cases hk)⟩
  | some nw =>
    obtain ⟨n1, n2, n3⟩ := ok.new1 nw hnw
    obtain ⟨g, hg⟩ := Grd.ex (many := ((S.end_ - S.low : Nat) : Int)) (first := ((nw - S.low : Nat) : Int)) (middle := ((S.come - S.low : Nat) : Int)) (beyond := ((bey S.come S.least S.end_ found - S.low : Nat) : Int)) (by omega) (by omega) (by omega) (by omega)
    exact ⟨_, _, .lay (gs := [g]) hb hc hE hP (fun z => by rw [hnw] at z; cases z) (fun k hk => by rw [hnw] at hk; cases hk; exact ⟨g, rfl, hg⟩)⟩
theorem Deed.total (or : List Ent → Nat → Nat → Bool) {S : PS} {n : Nat} (ok : S.Ok n) (log : List Ent) : S.done ∨ ∃ es S' d, Deed S es S' d ∧ Told or log es := by
  have join : ∀ i, (S.bene ∧ i = S.sp.length - 3) ∨ (¬ S.bene ∧ S.come = S.end_ ∧ 1 < S.sp.length ∧ i = S.sp.length - 2) → i + 1 < S.sp.length → ∃ es S' d, Deed S es S' d ∧ Told or log es := by
    intro i hi hil
    obtain ⟨e1, e2, e3, e4, e5⟩ := ok.ends.two (List.getElem?_eq_getElem (by omega : i < S.sp.length)) (List.getElem?_eq_getElem hil)
    have hpl := ok.perm S.sp[i] (List.getElem_mem _)
    have hpu := ok.perm S.sp[i + 1] (List.getElem_mem _)
    obtain ⟨es, res, hJ, hT⟩ := JN.total or (L := LR S.sp[i].o S.sp[i + 1].o) (spn_dis hpl hpu e2 e1) _ (fun _ => 0) false 0 log rfl
    exact ⟨es, _, _, .join hi (List.getElem?_eq_getElem _) (List.getElem?_eq_getElem _) hJ, hT⟩
  by_cases hb : S.bene
  · have := hb.1
    exact .inr (join _ (.inl ⟨hb, rfl⟩) (by omega))
  by_cases hc : S.come < S.end_
  · obtain ⟨found, fall, es1, hE, hT, _⟩ := StretchEs.total or log hc
    obtain ⟨es2, res, hP, hT2⟩ := PO.total or (n := bey S.come S.least S.end_ found) _ found (trn S.come found fall) (log ++ es1) rfl
    obtain ⟨S', d, h⟩ := lay_deed ok hb hc hE hP
    exact .inr ⟨_, S', d, h, Told.app hT hT2⟩
  have := ok.ce
  by_cases h1 : 1 < S.sp.length
  · exact .inr (join _ (.inr ⟨hb, by omega, h1, rfl⟩) (by omega))
  · exact .inl ⟨by omega, by omega⟩
def sp_Pile_step (K : PySem.W.Frag) (A : Ad) : Sp := fun vs H Q E => ∃ (R : PIL) (I : Ask) (log : List Ent) (S : PS), vs = [.ref R.p] ∧
  (R.At A I H S ∧ I.At K A H log ∧ S.Ok I.n ∧ I.n ≤ 300 ∧ log.length + I.pre.length + I.n * I.n + 1000 ≤ 80000) ∧
  Stop I K A H log (fun es => ∃ S' d, Deed S es S' d) E ∧
  (S.done → Q .non H) ∧
  ∀ (H' : Hp) (t : Addr) (R' : PIL) (es : List Ent) (S' : PS) (d : Dd), R'.p = R.p → (∀ a ∈ R'.own, a ∈ R.own ∨ H a = none) → Deed S es S' d → Few I.n S S' es → Told I.or log es →
    Stp (R.M I) H H' → I.At K A H' (log ++ es) → R'.At A I H' S' → H t = none → H' t = some (.tup [.str d.w, .int d.a, .int d.b, .int d.c]) → Q (.ref t) H'
theorem ok_Pile_step {P : Program} {w : World} {K : PySem.W.Frag} {mg : Str → Option Value} {base : Heap} {A : Ad} {f : Addr} {fd : FuncData} (F : Fun K "step" "Pile.step" s_Pile_step f fd) (T : Txt K mg A) (M_Pile_lay : SH.CalM P w K mg base (L2N.CX P w) 6 A.Pile "lay" [] (sp_Pile_lay K A)) (M_Pile_put_together : SH.CalM P w K mg base (L2N.CX P w) 8 A.Pile "put_together" [] (sp_Pile_put_together K A)) : FnOk P w K mg base (L2N.CX P w) 9 f fd ["self"] (sp_Pile_step K A) := by
  refine SH.okN F sc_Pile_step (fun vs H Q E h => by obtain ⟨_, _, _, _, rfl, _⟩ := h; rfl) (fun cdv A' outer s H vs Q E hr h => ?_)
  obtain ⟨R, I, log, S, rfl, ⟨hR, hA, ok, hn, hlog⟩, kx, k0, k⟩ := h
  refine ⟨_, (pss_cons (ps_set (i := 1) sc_Pile_step.nd rfl (Or.inl rfl) (pe_callB SH.cLen (by rfl) T.z_len (by decide +kernel) (pa_cons (SH.pe_fldF T.cl_Pile T.na_Pile_spans (pv 0)) pa_nil)))
        (pss_cons (ps_if (PW.pt (pw_and (pt_cmpR SH.oGt (pv 1) pe_int (nomark _)) (pw_and1 (pt_cmpR SH.oGt (pe_ix SH.ixA (SH.pe_fldF T.cl_Pile T.na_Pile_grades (pv 0)) (pe_op SH.oSub (pv 1) pe_int) (fun _ _ => rfl)) (pe_ix SH.ixA (SH.pe_fldF T.cl_Pile T.na_Pile_grades (pv 0)) (pe_op SH.oSub (pv 1) pe_int) (fun _ _ => rfl)) (nomark _))))) (pss_one (ps_ret (SH.pe_methF (pv 0) M_Pile_put_together hr (L2N.passes_call (L2N.takes_of rfl rfl rfl rfl) fun _ _ _ _ h => h) (pa_cons (pe_op SH.oSub (pv 1) pe_int) pa_nil)))) pss_nil)
        (pss_cons (ps_if (pt_cmpR (SH.oLt hr.units0) (SH.pe_fldF T.cl_Pile T.na_Pile_come (pv 0)) (SH.pe_fldF T.cl_Pile T.na_Pile_end (pv 0)) (nomark _)) (pss_one (ps_ret (SH.pe_methF0 (pv 0) M_Pile_lay hr (L2N.passes_call (L2N.takes_of rfl rfl rfl rfl) fun _ _ _ _ h => h)))) pss_nil)
        (pss_cons (ps_if (pt_cmpR SH.oGt (pv 1) pe_int (nomark _)) (pss_one (ps_ret (SH.pe_methF (pv 0) M_Pile_put_together hr (L2N.passes_call (L2N.takes_of rfl rfl rfl rfl) fun _ _ _ _ h => h) (pa_cons (pe_op SH.oSub (pv 1) pe_int) pa_nil)))) pss_nil)
        (pss_one (ps_ret pe_non)))))), ?_⟩
  walk_at "begin"
  have hp := hR.hp
  unfold PileF at hp
  have hsp := hR.hs
  have hg := hR.hg
  have hgl := ok.len
  have hspl := hR.sp.1
  have hce := ok.ce
  have join : ∀ i, (S.bene ∧ i = S.sp.length - 3) ∨ (¬ S.bene ∧ S.come = S.end_ ∧ 1 < S.sp.length ∧ i = S.sp.length - 2) → i + 1 < S.sp.length → ∀ v : Int, v = i → sp_Pile_put_together K A ([.ref R.p, .int v] ++ []) H Q E := by
    rintro i hi hil v rfl
    refine ⟨R, I, log, S, i, S.sp[i], S.sp[i + 1], rfl, ⟨hR, hA, ok, List.getElem?_eq_getElem _, List.getElem?_eq_getElem _, hn, by omega⟩, kx.imp (fun es ⟨res, hJ⟩ _ => ⟨_, _, .join hi (List.getElem?_eq_getElem _) (List.getElem?_eq_getElem _) hJ⟩), fun H' t R' es res h1 h2 h3 h4 h5 h6 h7 h8 h9 h10 => ?_⟩
    obtain ⟨e1, e2, e3, e4, e5⟩ := ok.ends.two (List.getElem?_eq_getElem (by omega : i < S.sp.length)) (List.getElem?_eq_getElem hil)
    have hpl := ok.perm S.sp[i] (List.getElem_mem _)
    have hpu := ok.perm S.sp[i + 1] (List.getElem_mem _)
    have hen := ok.en
    refine k H' t R' es _ ⟨false, S.sp[i].f, S.sp[i + 1].f, S.sp[i + 1].b⟩ h1 h2 (.join hi (List.getElem?_eq_getElem _) (List.getElem?_eq_getElem _) h3) (few_join h4 ?_ hil) h5 h6 h7 h8 h9 h10
    rw [hpl.length_eq, hpu.length_eq, List.length_range', List.length_range']
    omega
  walk_at "rd"
  refine r_waJ (W := fun σ' H' => (H' = H ∧ σ' = [some (.ref R.p), some (.int R.ts.length)]) ∧ ¬ S.bene) ?_ (fun hc N hN => ?_) (fun hc N hN => ?_)
  rotate_left
  · have hc' : 2 < S.sp.length := by omega
    walk_at "rd"
    refine v_ixLn (n := S.sp.length - 3) (v := .int (S.gr.getD (S.sp.length - 3) 0 : Nat)) (SqL.of hg) (by omega) (by unfold nv; rw [List.getElem?_map, List.getD_eq_getElem?_getD, List.getElem?_eq_getElem (by omega)]; rfl) ?_
    walk_at "rd"
    refine v_ixLn (n := S.sp.length - 2) (v := .int (S.gr.getD (S.sp.length - 2) 0 : Nat)) (SqL.of hg) (by omega) (by unfold nv; rw [List.getElem?_map, List.getD_eq_getElem?_getD, List.getElem?_eq_getElem (by omega)]; rfl) ?_
    walk_at "rd"
    refine r_w (fun hb => ?_) fun hb => ?_
    · walk_at "rd"
      exact join (S.sp.length - 3) (.inl ⟨⟨hc', by omega⟩, rfl⟩) (by omega) _ (by omega)
    · walk_at "rd"
      exact hN _ _ ⟨⟨rfl, rfl⟩, fun z => hb (by have := z.2; omega)⟩
  · walk_at "rd"
    exact hN _ _ ⟨⟨rfl, rfl⟩, fun z => hc (by have := z.1; omega)⟩
  rintro σ' H' ⟨⟨rfl, rfl⟩, hb⟩
  dsimp only
  walk_at "rd"
  refine r_w (fun hc => ?_) fun hc => ?_
  · walk_at "rd"
    refine ⟨R, I, log, S, rfl, ⟨hR, hA, ok, by omega, hn, by omega⟩, kx.imp (fun es ⟨found, fall, es1, es2, res, e, hE, hP⟩ _ => by subst e; exact lay_deed ok hb (by omega) hE hP), fun H' t R' found fall es1 es2 res gs h1 h2 h3 h4 h5 h6 h7 h8 h9 h10 h11 h12 h13 => ?_⟩
    have hlo := h3.lo
    have hbg := bey_gt (least := S.least) hlo.1 hlo.2.1
    exact k H' t R' _ _ ⟨true, S.come, found, bey S.come S.least S.end_ found⟩ h1 h2 (.lay hb (by omega) h3 h4 h7 h8) (few_lay hbg.1 hlo.1 hlo.2.2 h5 hbg.2.2) h6 h9 h10 h11 h12 h13
  walk_at "rd"
  refine r_w (fun hc2 => ?_) fun hc2 => ?_
  · walk_at "rd"
    exact join (S.sp.length - 2) (.inr ⟨hb, by omega, by omega, rfl⟩) (by omega) _ (by omega)
  · walk_at "rd"
    exact k0 ⟨by omega, by omega⟩
theorem PS.Ok.few {S : PS} {n : Nat} (ok : S.Ok n) : S.sp.length ≤ n := by
  have := ok.ends.le
  have := ok.ce
  have := ok.en
  omega
/-- what stands -/
def stds (S : PS) : List (T3 Nat Nat Nat) := (S.sp.zip (S.gr ++ [0])).map fun x => ⟨x.1.f, x.1.b, x.2⟩
def sp_Pile_standing (K : PySem.W.Frag) (A : Ad) : Sp := fun vs H Q _ => ∃ (R : PIL) (I : Ask) (S : PS), vs = [.ref R.p] ∧ (R.At A I H S ∧ S.Ok I.n ∧ I.n ≤ 300) ∧
  ∀ (H' : Hp) (q : Addr) (tas : List Addr), H q = none → Stp [] H H' → H' q = some (.lst (tas.map V.ref)) → (∀ t ∈ tas, H t = none) → tas.length = (stds S).length → (∀ (i : Nat) (t : Addr) (x : T3 Nat Nat Nat), tas[i]? = some t → (stds S)[i]? = some x → H' t = some (.tup [.int x.a, .int x.b, .int x.c])) → Q (.ref q) H'
theorem ok_Pile_standing {P : Program} {w : World} {K : PySem.W.Frag} {mg : Str → Option Value} {base : Heap} {A : Ad} {f : Addr} {fd : FuncData} (F : Fun K "standing" "Pile.standing" s_Pile_standing f fd) (T : Txt K mg A)  : FnOk P w K mg base CX0 1 f fd ["self"] (sp_Pile_standing K A) := by
  refine F.ok sc_Pile_standing (fun vs H Q E h => by obtain ⟨_, _, _, rfl, _⟩ := h; rfl) (fun cdv A' outer s H vs Q E hr h => ?_)
  obtain ⟨R, I, S, rfl, ⟨hR, ok, hn⟩, k⟩ := h
  refine ⟨_, (pss_cons (ps_set (i := 1) sc_Pile_standing.nd rfl (Or.inl rfl) (pe_lst pa_nil))
        (pss_cons (ps_for PassesOwn.never rfl (pi_zip (by rfl) T.z_zip (pa_cons (SH.pe_fldF T.cl_Pile T.na_Pile_spans (pv 0)) (pa_cons (pe_op SH.oAdd (SH.pe_fldF T.cl_Pile T.na_Pile_grades (pv 0)) (pe_lst (pa_cons pe_int pa_nil))) pa_nil))) (pg_tup (by rfl) (pgs_cons (pg_name (i := 2) sc_Pile_standing.nd rfl (Or.inl rfl)) (pgs_cons (pg_name (i := 3) sc_Pile_standing.nd rfl (Or.inl rfl)) pgs_nil))) (pss_one (ps_expr (pe_bm PySem.F.plainAttrs_list PySem.F.slot_list_append PySem.F.type_list_append mt_append (pv 1) (pa_cons (pe_tup (pa_cons (pe_ix SH.ixA (pv 2) pe_int (fun _ _ => rfl)) (pa_cons (pe_ix SH.ixA (pv 2) pe_int (fun _ _ => rfl)) (pa_cons (pv 3) pa_nil)))) pa_nil)))))
        (pss_one (ps_ret (pv 1))))), ?_⟩
  walk_at "begin"
  have hp := hR.hp
  unfold PileF at hp
  have hsp := hR.hs
  have hg := hR.hg
  have hgl := ok.len
  have hspl := hR.sp.1
  have hfew := ok.few
  walk_at "rd"
  intro q hq
  walk_at "rd"
  intro b0 hb0
  have hb0H : H b0 = none := (upd_free hb0).1
  refine v_addL (upd_old (upd_old hg hq) hb0) upd_same (Nat.le_trans (m := 1000) (by rw [List.length_map]; simp; omega) (by decide)) fun b1 hb1 => ?_
  have S1 := (((Stp.refl [] H).new (o := .lst []) hq).new (o := .lst [.int 0]) hb0).new (o := .lst (S.gr.map (fun n : Nat => V.int n) ++ [.int 0])) hb1
  have hq1 : (upd (upd (upd H q (.lst [])) b0 (.lst [.int 0])) b1 (.lst (S.gr.map (fun n : Nat => V.int n) ++ [.int 0]))) q = some (.lst ([] : List V)) := upd_old (upd_old upd_same hb0) hb1
  have hb11 : (upd (upd (upd H q (.lst [])) b0 (.lst [.int 0])) b1 (.lst (S.gr.map (fun n : Nat => V.int n) ++ [.int 0]))) b1 = some (.lst (nv (S.gr ++ [0]))) := by rw [upd_same]; simp [nv]
  generalize upd (upd (upd H q (.lst [])) b0 (.lst [.int 0])) b1 (.lst (S.gr.map (fun n : Nat => V.int n) ++ [.int 0])) = H1 at S1 hq1 hb11 ⊢
  have nqb : b1 ≠ q := fun z => by rw [z, hq1] at hb11; simp [nv] at hb11
  have hsp1 := S1.keep0 hsp
  have hst := hR.sp.stp S1 (by simp)
  have hqH := hq
  clear hb0 hb1 hp hg hq
  walk_at "rd"
  have hzl : (stds S).length = S.sp.length := by unfold stds; rw [List.length_map, List.length_zip]; simp; omega
  have nqs : R.sa ≠ q := ne_of_none hsp hqH
  refine for_it (walk_zip (xs := R.ts.map V.ref) (ys := nv (S.gr ++ [0])) (n := S.sp.length) (by simp; omega)) (fun j σ H' => (Stp [q] H1 H' ∧ ∃ tas : List Addr, tas.length = j ∧ H' q = some (.lst (tas.map V.ref)) ∧ (∀ t ∈ tas, H t = none) ∧ ∀ (i : Nat) (t : Addr) (x : T3 Nat Nat Nat), tas[i]? = some t → (stds S)[i]? = some x → H' t = some (.tup [.int x.a, .int x.b, .int x.c])) ∧ ∃ v2 v3, σ = [some (.ref R.p), some (.ref q), v2, v3])
    ⟨⟨.refl _ _, [], rfl, hq1, by simp, by simp⟩, _, _, rfl⟩ (fun j σ H' _ z => ⟨SqL.of (z.1.1.keep1 hsp1 nqs), SqL.of (z.1.1.keep1 hb11 nqb)⟩) ?_ ?_
  · rintro j x σ H2 H3 hj ⟨⟨S2, tas, htl, hL, hf, hat⟩, v2, v3, rfl⟩ ⟨T0, x0, y0, rfl, hT0, rfl, hx, hy⟩
    obtain ⟨t, ht, rfl⟩ := map_at hx
    obtain ⟨g, hg, rfl⟩ := map_at hy
    have hs := List.getElem?_eq_getElem hj
    obtain ⟨t', o, e1, e2, e3, e4⟩ := hst.2.2 j S.sp[j] hs
    rw [ht] at e1
    cases e1
    have ex : (stds S)[j]? = some ⟨S.sp[j].f, S.sp[j].b, g⟩ := by
      unfold stds
      rw [List.getElem?_map, List.getElem?_zip_eq_some (z := (S.sp[j], g)) |>.mpr ⟨hs, hg⟩]
      rfl
    have ht2 := S2.tup e3
    have ht2' := upd_old (u := .tup [.ref t, .int (g : Nat)]) ht2 hT0
    walk_at "rd"
    refine v_ixTn (n := 0) (SqT.of ht2') rfl rfl ?_
    walk_at "rd"
    refine v_ixTn (n := 1) (SqT.of ht2') rfl rfl ?_
    walk_at "rd"
    intro t3 ht3
    have hL3 := upd_old (u := .tup [.int S.sp[j].f, .int S.sp[j].b, .int (g : Nat)]) (upd_old (u := .tup [.ref t, .int (g : Nat)]) hL hT0) ht3
    have nt3 : t3 ≠ q := (ne_of_none (upd_old (u := .tup [.ref t, .int (g : Nat)]) hL hT0) ht3).symm
    walk_at "rd"
    refine v_app hL3 (by rw [List.length_map]; omega) ?_
    have S3 : Stp [q] H2 (upd (upd (upd H2 T0 (.tup [.ref t, .int (g : Nat)])) t3 (.tup [.int S.sp[j].f, .int S.sp[j].b, .int (g : Nat)])) q (.lst (tas.map V.ref ++ [.ref t3]))) := (((Stp.refl _ _).new hT0).new ht3).putL (by simp) hL3
    refine ⟨⟨S2.trans S3, tas ++ [t3], by simp [htl], by rw [upd_same, List.map_append]; rfl, fun t' hm => ?_, fun i t' x h1 h2 => ?_⟩, _, _, rfl⟩
    · rcases List.mem_append.mp hm with hm | hm
      · exact hf t' hm
      · rw [List.mem_singleton] at hm
        subst hm
        exact S1.dom _ (S2.dom _ (upd_free ht3).1)
    · by_cases hi : i < tas.length
      · rw [List.getElem?_append_left hi] at h1
        exact S3.tup (hat i t' x h1 h2)
      · rw [List.getElem?_append_right (by omega)] at h1
        have hz : i = j := by
          have := (List.getElem?_eq_some_iff.mp h1).1
          simp at this; omega
        subst hz
        rw [htl] at h1
        simp at h1
        subst h1
        rw [ex] at h2
        cases h2
        rw [upd_ne nt3]
        exact upd_same
  · rintro σ H2 ⟨⟨S2, tas, htl, hL, hf, hat⟩, v2, v3, rfl⟩
    walk_at "rd"
    exact k H2 q tas hqH (S1.then S2 (by intro m hm; rw [List.mem_singleton] at hm; subst hm; exact .inr hqH) |>.mono (by simp)) hL hf (by omega) hat
theorem EndTo.flat {lo c : Nat} {sp : List Spn} (h : EndTo lo sp c) (hp : ∀ s ∈ sp, s.o.Perm (List.range' s.f (s.b - s.f))) : (sp.map (·.o)).flatten.Perm (List.range' lo (c - lo)) := by
  induction sp generalizing lo with
  | nil => cases h; simp
  | cons s r ih =>
    obtain ⟨a, b, d⟩ := h
    have h1 := hp s (List.mem_cons_self ..)
    have h2 := ih d fun x hx => hp x (List.mem_cons_of_mem _ hx)
    have hle := EndTo.le d
    rw [List.map_cons, List.flatten_cons]
    refine (h1.append h2).trans (.of_eq ?_)
    rw [a]
    have := List.range'_append (s := lo) (m := s.b - lo) (n := c - s.b) (step := 1)
    rw [Nat.one_mul, show lo + (s.b - lo) = s.b by omega, show s.b - lo + (c - s.b) = c - lo by omega] at this
    exact this
theorem flat_take {sp : List Spn} (j : Nat) : ((sp.take j).map (·.o)).flatten.length ≤ (sp.map (·.o)).flatten.length := by
  have := congrArg (fun l => (l.map (·.o)).flatten.length) (List.take_append_drop j sp)
  simp only [List.map_append, List.flatten_append, List.length_append] at this
  omega
/-- the paper of a pile -/
def PS.paper (S : PS) : List Nat := (S.sp.map (·.o)).flatten ++ List.range' S.come (S.end_ - S.come)
theorem PS.Ok.paper {S : PS} {n : Nat} (ok : S.Ok n) : S.paper.Perm (List.range' S.low (S.end_ - S.low)) := by
  have h := ok.ends.flat ok.perm
  have := ok.ends.le
  have := ok.ce
  refine (h.append_right _).trans (.of_eq ?_)
  have := List.range'_append (s := S.low) (m := S.come - S.low) (n := S.end_ - S.come) (step := 1)
  rw [Nat.one_mul, show S.low + (S.come - S.low) = S.come by omega, show S.come - S.low + (S.end_ - S.come) = S.end_ - S.low by omega] at this
  exact this
def sp_Pile_paper (K : PySem.W.Frag) (A : Ad) : Sp := fun vs H Q _ => ∃ (R : PIL) (I : Ask) (S : PS), vs = [.ref R.p] ∧ (R.At A I H S ∧ S.Ok I.n ∧ I.n ≤ 300) ∧
  ∀ (H' : Hp) (q : Addr), H q = none → Stp [] H H' → H' q = some (.lst (nv S.paper)) → Q (.ref q) H'
theorem ok_Pile_paper {P : Program} {w : World} {K : PySem.W.Frag} {mg : Str → Option Value} {base : Heap} {A : Ad} {f : Addr} {fd : FuncData} (F : Fun K "paper" "Pile.paper" s_Pile_paper f fd) (T : Txt K mg A)  : FnOk P w K mg base CX0 1 f fd ["self"] (sp_Pile_paper K A) := by
  refine F.ok sc_Pile_paper (fun vs H Q E h => by obtain ⟨_, _, _, rfl, _⟩ := h; rfl) (fun cdv A' outer s H vs Q E hr h => ?_)
  obtain ⟨R, I, S, rfl, ⟨hR, ok, hn⟩, k⟩ := h
  refine ⟨_, (pss_cons (ps_set (i := 1) sc_Pile_paper.nd rfl (Or.inl rfl) (pe_lst pa_nil))
        (pss_cons (ps_for PassesOwn.never rfl (pi_list (SH.pe_fldF T.cl_Pile T.na_Pile_spans (pv 0))) (pg_name (i := 2) sc_Pile_paper.nd rfl (Or.inl rfl)) (pss_one (ps_expr (pe_bm PySem.F.plainAttrs_list PySem.F.slot_list_extend PySem.F.type_list_extend mt_extend (pv 1) (pa_cons (pe_ix SH.ixA (pv 2) pe_int (fun _ _ => rfl)) pa_nil)))))
        (pss_one (ps_ret (pe_op SH.oAdd (pv 1) (SH.pe_listrange2 (by rfl) T.z_list (by rfl) T.z_range (SH.pe_fldF T.cl_Pile T.na_Pile_come (pv 0)) (SH.pe_fldF T.cl_Pile T.na_Pile_end (pv 0)))))))), ?_⟩
  walk_at "begin"
  have hp := hR.hp
  unfold PileF at hp
  have hsp := hR.hs
  have hspl := hR.sp.1
  have hfew := ok.few
  walk_at "rd"
  intro q hq
  walk_at "rd"
  have S1 := (Stp.refl [] H).new (o := .lst []) hq
  have hq1 := upd_same (H := H) (a := q) (o := .lst [])
  generalize upd H q (.lst []) = H1 at S1 hq1 ⊢
  have hqH := hq
  have hsp1 := S1.keep0 hsp
  have hp1 := S1.keep0 hp
  have hR1 := hR.stp S1 (by simp)
  have hqO := hR.fresh hq
  have nqs : R.sa ≠ q := fun z => hqO (by rw [← z]; simp [PIL.own])
  have hfl := ok.ends.flat ok.perm
  have hfl2 := hfl.length_eq
  rw [List.length_range'] at hfl2
  have hle := ok.ends.le
  have hce := ok.ce
  have hen := ok.en
  clear hp hq
  refine for_it (walk_list (xs := R.ts.map V.ref)) (fun j σ H' => (Stp [q] H1 H' ∧ H' q = some (.lst (nv ((S.sp.take j).map (·.o)).flatten))) ∧ ∃ v2, σ = [some (.ref R.p), some (.ref q), v2])
    ⟨⟨.refl _ _, hq1⟩, _, rfl⟩ (fun j σ H' _ z => SqL.of (z.1.1.keep1 hsp1 nqs)) ?_ ?_
  · rintro j x σ H2 H3 hj ⟨⟨S2, hL⟩, v2, rfl⟩ ⟨rfl, hx⟩
    obtain ⟨t, ht, rfl⟩ := map_at hx
    rw [List.length_map, hspl] at hj
    have hs := List.getElem?_eq_getElem hj
    obtain ⟨t', o, e1, e2, e3, e4⟩ := hR1.sp.2.2 j S.sp[j] hs
    rw [ht] at e1
    cases e1
    have nqo : o ≠ q := fun z => hqO (by rw [← z]; simp [PIL.own, List.mem_of_getElem? e2])
    have ht3 := S2.tup e3
    have ho3 := S2.keep1 e4 nqo
    walk_at "rd"
    refine v_ixTn (n := 2) (SqT.of ht3) rfl rfl ?_
    walk_at "rd"
    have hol : S.sp[j].o.length ≤ 1000 := by rw [(ok.perm _ (List.getElem_mem hj)).length_eq, List.length_range']; have := ok.ends.mem _ (List.getElem_mem hj); omega
    have := flat_take (sp := S.sp) j
    refine v_ext hL ho3 (by rw [List.length_map, List.length_map]; omega) ?_
    refine ⟨⟨S2.trans ((Stp.refl _ _).putL (by simp) hL), ?_⟩, _, rfl⟩
    rw [upd_same, List.take_succ, hs, List.map_append, List.flatten_append, show ((some S.sp[j]).toList.map (·.o)).flatten = S.sp[j].o by simp, show nv (((S.sp.take j).map (·.o)).flatten ++ S.sp[j].o) = nv ((S.sp.take j).map (·.o)).flatten ++ nv S.sp[j].o from List.map_append]
  · rintro σ H2 ⟨⟨S2, hL⟩, v2, rfl⟩
    rw [List.length_map, hspl, List.take_length] at hL
    have hp2 := S2.keep1 hp1 (fun z => hqO (by rw [← z]; simp [PIL.own]))
    walk_at "rd"
    refine v_lrg2 (n := S.come) (m := S.end_) rfl rfl (by omega) (by omega) fun q2 hq2 => ?_
    refine v_addL (upd_old hL hq2) upd_same (Nat.le_trans (m := 1000) (by rw [List.length_map, List.length_map, List.length_range']; omega) (by decide)) fun q3 hq3 => ?_
    have S02 : Stp [] H H2 := S1.then S2 (by intro m hm; rw [List.mem_singleton] at hm; subst hm; exact .inr hqH) |>.mono (by simp)
    refine k _ q3 (S02.dom _ (upd_free hq3).1) ((S02.new hq2).new hq3) ?_
    rw [upd_same]
    simp [nv, PS.paper]
/-- a pile just made -/
def PS.init (least low end_ : Nat) : PS := ⟨low, end_, least, low, none, [], []⟩
theorem PS.init_ok {least low end_ n : Nat} (h : low ≤ end_) (h2 : end_ ≤ n) : (PS.init least low end_).Ok n := ⟨rfl, rfl, by simp [PS.init], fun _ => rfl, (by intro k z; cases z), h, h2⟩
def sp_Pile___init__ (K : PySem.W.Frag) (A : Ad) : Sp := fun vs H Q _ => ∃ (p : Addr) (I : Ask) (log : List Ent) (least low end_ : Nat) (pav : V), vs = [.ref p, .ref I.s, .int least, pav] ∧
  ((∃ dx, H p = some (.ins A.Pile dx [])) ∧ I.At K A H log ∧ p ∉ I.own ∧ ((pav = .non ∧ low = 0 ∧ end_ = I.n) ∨ ∃ t : Addr, pav = .ref t ∧ H t = some (.tup [.int low, .int end_]))) ∧
  ∀ (R : PIL) (H' : Hp), R.p = p → (∀ a ∈ R.own, a ≠ p → H a = none) → Stp [p] H H' → R.At A I H' (PS.init least low end_) → Q .non H'
theorem ok_Pile___init__ {P : Program} {w : World} {K : PySem.W.Frag} {mg : Str → Option Value} {base : Heap} {A : Ad} {f : Addr} {fd : FuncData} (F : FunD K "__init__" "Pile.__init__" (defArgs s_Pile___init__) (defBody s_Pile___init__) (defScope s_Pile___init__) [.int 1, .non] [] f fd) (T : Txt K mg A) (M_Asker_many : SH.CalM P w K mg base CX0 1 A.Asker "many" [] (sp_Asker_many K A)) : FnOk P w K mg base CX0 2 f fd ["self", "asker", "least", "part"] (sp_Pile___init__ K A) := by
  refine SH.funD_ok F sc_Pile___init__ (fun vs H Q E h => by obtain ⟨_, _, _, _, _, _, _, rfl, _⟩ := h; rfl) (fun cdv A' outer s H vs Q E hr h => ?_)
  obtain ⟨p, I, log, least, low, end_, pav, rfl, ⟨⟨dx, hp⟩, hA, hpO, hpv⟩, k⟩ := h
  refine ⟨_, (pss_cons (ps_if (pt_cmpR SH.oIsN (pv 3) pe_non (nomark _)) (pss_one (ps_set (i := 3) sc_Pile___init__.nd rfl (Or.inl rfl) (pe_tup (pa_cons pe_int (pa_cons (SH.pe_methF0 (pv 1) M_Asker_many hr pass0) pa_nil))))) pss_nil)
        (pss_cons (SH.ps_fldF T.cl_Pile T.na_Pile_asker (pv 0) (pv 1) rfl)
        (pss_cons (SH.ps_fldF T.cl_Pile T.na_Pile_least (pv 0) (pv 2) rfl)
        (pss_cons (SH.ps_fldF T.cl_Pile T.na_Pile_low (pv 0) (pe_ix SH.ixA (pv 3) pe_int (fun _ _ => rfl)) rfl)
        (pss_cons (SH.ps_fldF T.cl_Pile T.na_Pile_end (pv 0) (pe_ix SH.ixA (pv 3) pe_int (fun _ _ => rfl)) rfl)
        (pss_cons (SH.ps_fldF T.cl_Pile T.na_Pile_come (pv 0) (pe_ix SH.ixA (pv 3) pe_int (fun _ _ => rfl)) rfl)
        (pss_cons (SH.ps_fldF T.cl_Pile T.na_Pile_newest (pv 0) pe_non rfl)
        (pss_cons (SH.ps_fldF T.cl_Pile T.na_Pile_spans (pv 0) (pe_lst pa_nil) rfl)
        (pss_one (SH.ps_fldF T.cl_Pile T.na_Pile_grades (pv 0) (pe_lst pa_nil) rfl)))))))))), ?_⟩
  walk_at "begin"
  walk_at "rd"
  refine r_wJ (W := fun σ' H' => Stp [] H H' ∧ ∃ t : Addr, H' t = some (.tup [.int low, .int end_]) ∧ σ' = [some (.ref p), some (.ref I.s), some (.int least), some (.ref t)]) ?_ (fun hc N hN => ?_) (fun hc N hN => ?_)
  rotate_left
  · rcases hpv with ⟨h1, rfl, rfl⟩ | ⟨t, h1, _⟩
    · have hs := hA.hs
      walk_at "rd"
      refine ⟨I, log, rfl, hA, ?_⟩
      walk_at "rd"
      intro t ht
      walk_at "rd"
      exact hN _ _ ⟨(Stp.refl _ _).new ht, t, upd_same, rfl⟩
    · rw [h1] at hc; cases hc
  · rcases hpv with ⟨h1, _⟩ | ⟨t, rfl, h2⟩
    · exact (hc h1).elim
    · walk_at "rd"
      exact hN _ _ ⟨.refl _ _, t, h2, rfl⟩
  rintro σ' H1 ⟨S1, t, ht, rfl⟩
  dsimp only
  have hp1 := S1.keep0 hp
  have np : t ≠ p := ne_of ht hp1 (by intro z; cases z)
  walk_at "rd"
  refine v_ixTn (n := 0) (SqT.of (upd_far np (upd_far np ht))) rfl rfl ?_
  walk_at "rd"
  refine v_ixTn (n := 1) (SqT.of (upd_far np (upd_far np (upd_far np ht)))) rfl rfl ?_
  walk_at "rd"
  refine v_ixTn (n := 0) (SqT.of (upd_far np (upd_far np (upd_far np (upd_far np ht))))) rfl rfl ?_
  walk_at "rd"
  intro sa hsa
  simp only [upd_upd] at hsa ⊢
  have S2 : Stp [p] H (upd H1 p (.ins A.Pile dx [("asker", .ref I.s), ("least", .int least), ("low", .int low), ("end", .int end_), ("come", .int low), ("newest", .non)])) := (S1.mono (by simp)).putI (by simp) hp1
  have hp2 : (upd H1 p (.ins A.Pile dx [("asker", .ref I.s), ("least", .int least), ("low", .int low), ("end", .int end_), ("come", .int low), ("newest", .non)])) p = some (.ins A.Pile dx [("asker", .ref I.s), ("least", .int least), ("low", .int low), ("end", .int end_), ("come", .int low), ("newest", .non)]) := upd_same
  generalize upd H1 p (.ins A.Pile dx [("asker", .ref I.s), ("least", .int least), ("low", .int low), ("end", .int end_), ("come", .int low), ("newest", .non)]) = H2 at S2 hp2 hsa ⊢
  walk_at "rd"
  intro ga hga
  have hsaH := S2.dom _ hsa
  have nsa : sa ≠ p := (ne_of_none hp2 hsa).symm
  have S3 : Stp [p] H (upd (upd H2 sa (.lst [])) p (.ins A.Pile dx [("asker", .ref I.s), ("least", .int least), ("low", .int low), ("end", .int end_), ("come", .int low), ("newest", .non), ("spans", .ref sa)])) := (S2.new hsa).putI (by simp) (upd_old hp2 hsa)
  have hp3 : (upd (upd H2 sa (.lst [])) p (.ins A.Pile dx [("asker", .ref I.s), ("least", .int least), ("low", .int low), ("end", .int end_), ("come", .int low), ("newest", .non), ("spans", .ref sa)])) p = some (.ins A.Pile dx [("asker", .ref I.s), ("least", .int least), ("low", .int low), ("end", .int end_), ("come", .int low), ("newest", .non), ("spans", .ref sa)]) := upd_same
  have hs3 := upd_far (u := .ins A.Pile dx [("asker", .ref I.s), ("least", .int least), ("low", .int low), ("end", .int end_), ("come", .int low), ("newest", .non), ("spans", .ref sa)]) nsa (upd_same (H := H2) (a := sa) (o := .lst []))
  generalize upd (upd H2 sa (.lst [])) p (.ins A.Pile dx [("asker", .ref I.s), ("least", .int least), ("low", .int low), ("end", .int end_), ("come", .int low), ("newest", .non), ("spans", .ref sa)]) = H3 at S3 hp3 hs3 hga ⊢
  walk_at "rd"
  have hgaH := S3.dom _ hga
  have nga : ga ≠ p := (ne_of_none hp3 hga).symm
  have S4 : Stp [p] H (upd (upd H3 ga (.lst [])) p (.ins A.Pile dx (PileF I.s (PS.init least low end_) sa ga))) := (S3.new hga).putI (by simp) (upd_old hp3 hga)
  refine k ⟨p, dx, sa, ga, [], []⟩ _ rfl (fun a ha n => ?_) S4 ⟨upd_same, ?_, ?_, ⟨rfl, rfl, by simp [PS.init]⟩, fun a ha => ?_, ne_of_none hs3 hga, by simp⟩
  · simp only [PIL.own, List.mem_cons, List.not_mem_nil, or_false] at ha
    rcases ha with h | h | h
    · exact (n h).elim
    · rw [h]; exact hsaH
    · rw [h]; exact hgaH
  · exact upd_far nsa (upd_old hs3 hga)
  · exact upd_far nga upd_same
  · simp only [PIL.own, List.mem_cons, List.not_mem_nil, or_false] at ha
    rcases ha with h | h | h
    · rw [h]; exact hpO
    · rw [h]; exact hA.freshO hsaH
    · rw [h]; exact hA.freshO hgaH
def sp__law_cell_at (K : PySem.W.Frag) (A : Ad) : Sp := fun vs H Q _ => ∃ (a : Addr) (ns : List Int) (k : Nat), vs = [.ref a, .int k] ∧ SqL K H a (ns.map V.int) ∧ ∀ c : Int, Q (.int c) H
theorem ok__law_cell_at {P : Program} {w : World} {K : PySem.W.Frag} {mg : Str → Option Value} {base : Heap} {A : Ad} {f : Addr} {fd : FuncData} (F : Fun K "_law_cell_at" "_law_cell_at" s__law_cell_at f fd) (T : Txt K mg A)  : FnOk P w K mg base CX0 1 f fd ["_law_script", "_law_k"] (sp__law_cell_at K A) := by
  refine F.ok sc__law_cell_at (fun vs H Q E h => by obtain ⟨_, _, _, rfl, _⟩ := h; rfl) (fun cdv A' outer s H vs Q E hr h => ?_)
  obtain ⟨a, ns, i, rfl, hS, k⟩ := h
  refine ⟨_, (pss_cons (ps_if (pt_cmpR (SH.oLt hr.units0) (pv 1) (pe_callB SH.cLen (by rfl) T.z_len (by decide +kernel) (pa_cons (pv 0) pa_nil)) (nomark _)) (pss_one (ps_ret (pe_ix SH.ixA (pv 0) (pv 1) (fun _ _ => rfl)))) pss_nil)
        (pss_one (ps_ret pe_int))), ?_⟩
  walk_at "begin"
  walk_at "rd"
  refine r_w (fun hc => ?_) fun hc => ?_
  · walk_at "rd"
    refine v_ixE (n := i) (by walk_at "sq") rfl (by omega) ?_
    walk_at "rd"
    exact k _
  · walk_at "rd"
    exact k _
/-! ### keys and rows of the piles' laws -/
def sp__law_blocks (K : PySem.W.Frag) (A : Ad) : Sp := fun vs H Q _ => ∃ (a : Addr) (ns : List Int) (one two : Int), vs = [.ref a, .int one, .int two] ∧ (SqL K H a (ns.map V.int) ∧ ns.length ≤ 200) ∧
  ∀ (q : Addr) (H' : Hp) (ms : List Int), H q = none → Stp [] H H' → H' q = some (.lst (ms.map V.int)) → ms.length = ns.length → Q (.ref q) H'
theorem ok__law_blocks {P : Program} {w : World} {K : PySem.W.Frag} {mg : Str → Option Value} {base : Heap} {A : Ad} {f : Addr} {fd : FuncData} (F : Fun K "_law_blocks" "_law_blocks" s__law_blocks f fd) (T : Txt K mg A)  : FnOk P w K mg base CX0 1 f fd ["_law_keys", "_law_one", "_law_two"] (sp__law_blocks K A) := by
  refine F.ok sc__law_blocks (fun vs H Q E h => by obtain ⟨_, _, _, _, rfl, _⟩ := h; rfl) (fun cdv A' outer s H vs Q E hr h => ?_)
  obtain ⟨a, ns, one, two, rfl, ⟨hS, hl⟩, k⟩ := h
  refine ⟨_, (pss_cons (ps_set (i := 3) sc__law_blocks.nd rfl (Or.inl rfl) (pe_lst pa_nil))
        (pss_cons (ps_set (i := 4) sc__law_blocks.nd rfl (Or.inl rfl) pe_int)
        (pss_cons (ps_while PassesOwn.never (pt_cmpR (SH.oLt hr.units0) (pe_callB SH.cLen (by rfl) T.z_len (by decide +kernel) (pa_cons (pv 3) pa_nil)) (pe_callB SH.cLen (by rfl) T.z_len (by decide +kernel) (pa_cons (pv 0) pa_nil)) (nomark _)) (pss_cons (ps_set (i := 5) sc__law_blocks.nd rfl (Or.inl rfl) (pe_callB cr_sortedI (by rfl) T.z_sorted (by decide +kernel) (pa_cons (pe_slice sl_list (pv 0) (po_some (pe_callB SH.cLen (by rfl) T.z_len (by decide +kernel) (pa_cons (pv 3) pa_nil))) (po_some (pe_op SH.oAdd (pe_op SH.oAdd (pe_callB SH.cLen (by rfl) T.z_len (by decide +kernel) (pa_cons (pv 3) pa_nil)) pe_int) (pe_ix SH.ixA (pe_lst (pa_cons (pe_op SH.oMod (pv 1) pe_int) (pa_cons (pe_op SH.oMod (pv 2) pe_int) pa_nil))) (pe_op SH.oMod (pv 4) pe_int) (fun _ _ => rfl))))) pa_nil)))
        (pss_cons (ps_if (pt_cmpR (SH.oEq hr.units) (pe_op SH.oMod (pe_op SH.oDiv (pe_op SH.oDiv (pv 1) pe_int) (pe_op SH.oAdd (pv 4) pe_int)) pe_int) pe_int (nomark _)) (pss_one (ps_expr (pe_bm0 PySem.F.plainAttrs_list PySem.F.slot_list_reverse PySem.F.type_list_reverse mt_reverse (pv 5)))) pss_nil)
        (pss_cons (ps_set (i := 3) sc__law_blocks.nd rfl (Or.inl rfl) (pe_op SH.oAdd (pv 3) (pv 5)))
        (pss_one (ps_set (i := 4) sc__law_blocks.nd rfl (Or.inl rfl) (pe_op SH.oAdd (pv 4) pe_int)))))))
        (pss_one (ps_ret (pv 3)))))), ?_⟩
  walk_at "begin"
  walk_at "rd"
  intro r0 hr0
  walk_at "rd"
  refine r_while (fun m σ H' => ∃ (r : Addr) (ks : List Int) (j : Nat) (v5 : Option V), m = ns.length - ks.length ∧ Stp [] H H' ∧ H r = none ∧ H' r = some (.lst (ks.map V.int)) ∧ ks.length ≤ ns.length ∧ j ≤ ks.length ∧ σ = [some (.ref a), some (.int one), some (.int two), some (.ref r), some (.int j), v5])
    ⟨_, r0, [], 0, _, rfl, (Stp.refl _ _).new hr0, hr0, upd_same, Nat.zero_le _, Nat.le_refl _, rfl⟩ ?_
  rintro m σ H1 ⟨r, ks, j, v5, rfl, S, hr, hR, hkl, hjk, rfl⟩
  have hS1 := S.sql0 hS
  walk_at "rd"
  refine r_w (fun hlt => ?_) fun hlt => ?_
  · refine r_next_turn ?_
    walk_at "rd"
    intro tw htw
    walk_at "rd"
    refine v_ixMod (m := 2) (SqL.of upd_same) rfl (by decide) fun v hv => ?_
    obtain ⟨x, rfl, hx⟩ : ∃ x : Int, v = .int x ∧ 0 ≤ x := by
      simp only [List.mem_cons, List.not_mem_nil, or_false] at hv
      rcases hv with rfl | rfl
      · exact ⟨_, rfl, Int.emod_nonneg _ (by decide)⟩
      · exact ⟨_, rfl, Int.emod_nonneg _ (by decide)⟩
    have S1 := (Stp.refl [] H1).new (o := .lst [.int (one % 17), .int (two % 40)]) htw
    generalize upd H1 tw (.lst [.int (one % 17), .int (two % 40)]) = H2 at S1 ⊢
    have hS2 := S1.sql0 hS1
    clear htw
    walk_at "rd"
    intro sl hsl
    rw [cut_map]
    obtain ⟨y, hy⟩ : ∃ y : Nat, (ks.length : Int) + 1 + x = ((ks.length + y + 1 : Nat) : Int) := ⟨x.toNat, by omega⟩
    rw [hy, cutL_span]
    have hcl : ((ns.drop ks.length).take (ks.length + y + 1 - ks.length)).length ≤ ns.length - ks.length ∧ 1 ≤ ((ns.drop ks.length).take (ks.length + y + 1 - ks.length)).length := by rw [List.length_take, List.length_drop]; omega
    generalize (ns.drop ks.length).take (ks.length + y + 1 - ks.length) = cs at hcl ⊢
    have S2 := (Stp.refl [] H2).new (o := .lst (cs.map V.int)) hsl
    have hsl2 := upd_same (H := H2) (a := sl) (o := .lst (cs.map V.int))
    generalize upd H2 sl (.lst (cs.map V.int)) = H3 at S2 hsl2 ⊢
    walk_at "rd"
    refine v_sortI (SqL.of hsl2) fun ps pt hpp _ hpt => ?_
    have hpl := hpp.length_eq
    have S3 := (Stp.refl [] H3).new (o := .lst (ps.map V.int)) hpt
    have hpt3 := upd_same (H := H3) (a := pt) (o := .lst (ps.map V.int))
    have hptH1 : H1 pt = none := S1.dom _ (S2.dom _ hpt)
    have S13 := (S1.trans S2).trans S3
    generalize upd H3 pt (.lst (ps.map V.int)) = H4 at S3 hpt3 S13 ⊢
    clear hsl hpt S1 S2 S3 hsl2
    walk_at "rd"
    refine r_wJ (W := fun σ' H' => Stp [] H1 H' ∧ ∃ ps' : List Int, ps'.length = cs.length ∧ H' pt = some (.lst (ps'.map V.int)) ∧ σ' = [some (.ref a), some (.int one), some (.int two), some (.ref r), some (.int j), some (.ref pt)]) ?_ (fun hc N hN => ?_) (fun hc N hN => ?_)
    · rintro σ' H5 ⟨S5, ps', hpl', hP, rfl⟩
      dsimp only
      have hR5 := S5.keep0 hR
      walk_at "rd"
      refine v_addL hR5 hP (Nat.le_trans (m := 1000) (by rw [List.length_map, List.length_map]; omega) (by decide)) fun nr hnr => ?_
      walk_at "rd"
      exact ⟨ns.length - (ks ++ ps').length, by rw [List.length_append]; omega, nr, ks ++ ps', j + 1, _, rfl, (S.trans S5).new hnr, (S.trans S5).dom _ hnr, by rw [upd_same, List.map_append], by rw [List.length_append]; omega, by rw [List.length_append]; omega, rfl⟩
    · walk_at "rd"
      refine v_rev hpt3 ?_
      walk_at "rd"
      exact hN _ _ ⟨S13.putN hptH1, ps.reverse, by rw [List.length_reverse]; exact hpl, by rw [upd_same, List.map_reverse], rfl⟩
    · walk_at "rd"
      exact hN _ _ ⟨S13, ps, hpl, hpt3, rfl⟩
  · walk_at "rd"
    exact k r H1 ks hr S hR (by omega)
def sp__law_keys_by (K : PySem.W.Frag) (A : Ad) : Sp := fun vs H Q _ => ∃ (a : Addr) (ns : List Int) (many : Int) (most : Nat), vs = [.ref a, .int many, .int most] ∧ (SqL K H a (ns.map V.int) ∧ ns.length ≤ 63 ∧ 0 < many ∧ many < 2 ^ 200 ∧ most ≤ 1000) ∧
  ∀ (q : Addr) (H' : Hp) (ms : List Int), H q = none → Stp [] H H' → H' q = some (.lst (ms.map V.int)) → ms.length ≤ most → Q (.ref q) H'
theorem ok__law_keys_by {P : Program} {w : World} {K : PySem.W.Frag} {mg : Str → Option Value} {base : Heap} {A : Ad} {f : Addr} {fd : FuncData} (F : Fun K "_law_keys_by" "_law_keys_by" s__law_keys_by f fd) (T : Txt K mg A) (C__law_cell_at : SH.Cal P w K mg base CX0 1 "_law_cell_at" [] (sp__law_cell_at K A)) : FnOk P w K mg base CX0 2 f fd ["_law_script", "_law_many", "_law_most"] (sp__law_keys_by K A) := by
  refine F.ok sc__law_keys_by (fun vs H Q E h => by obtain ⟨_, _, _, _, rfl, _⟩ := h; rfl) (fun cdv A' outer s H vs Q E hr h => ?_)
  obtain ⟨a, ns, many, most, rfl, ⟨hS, hl, hm0, hm1, hmo⟩, k⟩ := h
  refine ⟨_, (pss_cons (ps_if (pt_cmpR (SH.oEq hr.units) (pe_op SH.oMod (pe_op SH.oDiv (SH.pe_callF C__law_cell_at hr (by rfl) pass0 (pa_cons (pv 0) (pa_cons pe_int pa_nil))) pe_int) pe_int) pe_int (nomark _)) (pss_one (ps_ret (pe_lc (own := [("_law_cell", 6)]) (g := (gName 6)) (tt := tYes) (by rfl) sc__law_keys_by.nd (pi_list (pe_slice sl_list (pv 0) (po_some pe_int) (po_some (pe_op SH.oAdd pe_int (pv 2))))) (blkOk_by (own := [("_law_cell", 6)]) (N := ["_law_script", "_law_many", "_law_most", "_law_number", "_law_keys", "_law_k", "_law_cell"]) (sc := defScope s__law_keys_by) (by decide +kernel)) (fun _ _ _ _ _ => (pg_name (i := 6) sc__law_keys_by.nd rfl (Or.inl rfl))) (fun _ _ _ _ _ => pts_nil) (fun _ _ _ _ _ => (pe_op SH.oMod (pv 6) (pv 1)))))) pss_nil)
        (pss_cons (ps_set (i := 3) sc__law_keys_by.nd rfl (Or.inl rfl) (pe_op SH.oDiv (SH.pe_callF C__law_cell_at hr (by rfl) pass0 (pa_cons (pv 0) (pa_cons pe_int pa_nil))) (pe_op SH.oAdd (pe_callB (SH.cMin2 rfl) (by rfl) T.z_min (by decide +kernel) (pa_cons (pv 2) (pa_cons pe_int pa_nil))) pe_int)))
        (pss_cons (ps_set (i := 4) sc__law_keys_by.nd rfl (Or.inl rfl) (pe_lst pa_nil))
        (pss_cons (ps_for PassesOwn.never rfl (pi_range1 (by rfl) T.z_range (pa_cons (pe_op SH.oMod (SH.pe_callF C__law_cell_at hr (by rfl) pass0 (pa_cons (pv 0) (pa_cons pe_int pa_nil))) (pe_op SH.oAdd (pe_callB (SH.cMin2 rfl) (by rfl) T.z_min (by decide +kernel) (pa_cons (pv 2) (pa_cons pe_int pa_nil))) pe_int)) pa_nil)) (pg_name (i := 5) sc__law_keys_by.nd rfl (Or.inl rfl)) (pss_cons (ps_if (pt_cmpR (SH.oLt hr.units0) (pv 3) pe_int (nomark _)) (pss_one (ps_set (i := 3) sc__law_keys_by.nd rfl (Or.inl rfl) (pe_op SH.oAdd (pe_op SH.oMul (pe_callB call_abs (by rfl) T.z_abs (by decide +kernel) (pa_cons (SH.pe_callF C__law_cell_at hr (by rfl) pass0 (pa_cons (pv 0) (pa_cons (pe_op SH.oAdd pe_int (pv 5)) pa_nil))) pa_nil)) pe_int) (pe_op SH.oMul (pe_op SH.oMul pe_int (pv 5)) (pv 5))))) pss_nil)
        (pss_cons (ps_expr (pe_bm PySem.F.plainAttrs_list PySem.F.slot_list_append PySem.F.type_list_append mt_append (pv 4) (pa_cons (pe_op SH.oMod (pv 3) (pv 1)) pa_nil)))
        (pss_one (ps_set (i := 3) sc__law_keys_by.nd rfl (Or.inl rfl) (pe_op SH.oDiv (pv 3) (pv 1)))))))
        (pss_one (ps_ret (pv 4))))))), ?_⟩
  walk_at "begin"
  have lg : many.natAbs.log2 < 9000 := PySem.Flt.log2_lt_of (by decide) (Nat.lt_trans (nat_lt (n := many) (k := 200) (by omega) hm1) (Nat.pow_lt_pow_right (by decide) (by decide)))
  walk_at "rd"
  refine ⟨a, ns, 1, rfl, hS, fun c1 => ?_⟩
  walk_at "rd"
  refine r_w (fun hd => ?_) fun hd => ?_
  · walk_at "rd"
    intro sl hsl
    rw [cut_map]
    have hcl0 : (cutL ns (some 5) (some (5 + (most : Int)))).length ≤ most := by
      have := cutL_span ns 5 (5 + most)
      rw [show (((5 + most : Nat)) : Int) = 5 + (most : Int) by omega] at this
      rw [show (some 5 : Option Int) = some ((5 : Nat) : Int) from rfl, this, List.length_take]
      omega
    have hcl := cutL_len ns (some 5) (some (5 + (most : Int)))
    generalize cutL ns (some 5) (some (5 + (most : Int))) = cs at hcl hcl0 ⊢
    have S0 := (Stp.refl [] H).new (o := .lst (cs.map V.int)) hsl
    have hs0 := upd_same (H := H) (a := sl) (o := .lst (cs.map V.int))
    generalize upd H sl (.lst (cs.map V.int)) = H0 at S0 hs0 ⊢
    walk_at "rd"
    intro D hD
    refine lc_it (walk_list (xs := cs.map V.int)) (fun j H' => Stp [] H0 H' ∧ ∃ ms : List Int, ms.length = j ∧ H' D = some (.lst (ms.map V.int))) ⟨(Stp.refl _ _).new hD, [], rfl, upd_same⟩ (fun j H' _ z => z.1.sql0 (SqL.of hs0)) ?_ ?_
    · rintro j x H3 H4 hj ⟨S, ms, hml, hL⟩ ⟨rfl, hx⟩
      obtain ⟨c, hc, rfl⟩ := map_at hx
      rw [List.length_map] at hj
      walk_at "rd"
      exact ⟨_, hL, by rw [List.length_map]; exact Nat.lt_of_le_of_lt (m := 1000) (by omega) (by decide), S.putN hD, ms ++ [c % many], by simp [hml], by rw [upd_same, List.map_append]; rfl⟩
    · rintro H2 ⟨S, ms, hml, hL⟩
      rw [List.length_map] at hml
      walk_at "rd"
      exact k D H2 ms (S0.dom _ hD) (S0.trans S) hL (by omega)
  · walk_at "rd"
    refine ⟨a, ns, 5, rfl, hS, fun c5 => ?_⟩
    walk_at "rd"
    obtain ⟨mm, hmm, hmm1⟩ : ∃ mm : Nat, (if (60 : Int) < (most : Int) then (60 : Int) else (most : Int)) = mm ∧ (mm ≤ 60 ∧ mm ≤ most) := ⟨min most 60, by split <;> omega, by omega⟩
    rw [hmm]
    walk_at "rd"
    intro D hD
    walk_at "rd"
    refine ⟨a, ns, 5, rfl, by walk_at "sq", fun c5' => ?_⟩
    walk_at "rd"
    rw [hmm]
    walk_at "rd"
    have r0 := Int.emod_nonneg c5' (show ((mm : Int) + 1) ≠ 0 by omega)
    have r1 := Int.emod_lt_of_pos c5' (show 0 < ((mm : Int) + 1) by omega)
    refine v_rng1 ⟨by omega, by omega⟩ ?_
    refine for_it walk_range (fun j σ H' => (Stp [] H H' ∧ ∃ ms : List Int, ms.length = j ∧ H' D = some (.lst (ms.map V.int))) ∧ ∃ (num : Int) (v5 : Option V), σ = [some (.ref a), some (.int many), some (.int most), some (.int num), some (.ref D), v5, none])
      ⟨⟨(Stp.refl _ _).new hD, [], rfl, upd_same⟩, _, _, rfl⟩ (fun _ _ _ _ _ => True.intro) ?_ ?_
    · rintro j x σ H2 H3 hj ⟨⟨S, ms, hml, hL⟩, num, v5, rfl⟩ ⟨rfl, rfl⟩
      have hS3 := S.sql0 hS
      simp only [Int.zero_add]
      have hj60 : j ≤ 60 := by omega
      walk_at "rd"
      refine r_wJ (W := fun σ' H' => H' = H3 ∧ ∃ num : Int, σ' = [some (.ref a), some (.int many), some (.int most), some (.int num), some (.ref D), some (.int j), none]) ?_ (fun hc N hN => ?_) (fun hc N hN => ?_)
      · rintro σ' H4 ⟨rfl, num, rfl⟩
        dsimp only
        walk_at "rd"
        refine v_app hL (by rw [List.length_map]; omega) ?_
        walk_at "rd"
        refine v_divW hm0 lg ?_
        walk_at "rd"
        exact ⟨⟨S.putN hD, ms ++ [num % many], by simp [hml], by rw [upd_same, List.map_append]; rfl⟩, _, _, rfl⟩
      · walk_at "rd"
        refine ⟨a, ns, 6 + j, by rw [show ((6 + j : Nat) : Int) = 6 + (j : Int) by omega]; rfl, hS3, fun ck => ?_⟩
        refine ⟨ck, rfl, ?_⟩
        walk_at "rd"
        exact hN _ _ ⟨rfl, _, rfl⟩
      · walk_at "rd"
        exact hN _ _ ⟨rfl, _, rfl⟩
    · rintro σ H2 ⟨⟨S, ms, hml, hL⟩, num, v5, rfl⟩
      walk_at "rd"
      exact k D H2 ms hD S hL (by omega)
def sp__law_row_by (K : PySem.W.Frag) (A : Ad) : Sp := fun vs H Q _ => ∃ (a : Addr) (ns : List Int), vs = [.ref a] ∧ (SqL K H a (ns.map V.int) ∧ ns.length ≤ 63) ∧
  ∀ (q : Addr) (H' : Hp) (row : List V) (ks : List Int), H q = none → Stp [] H H' → H' q = some (.lst row) → RowP H' row ks → ks.length ≤ 24 → Q (.ref q) H'
theorem ok__law_row_by {P : Program} {w : World} {K : PySem.W.Frag} {mg : Str → Option Value} {base : Heap} {A : Ad} {f : Addr} {fd : FuncData} (F : Fun K "_law_row_by" "_law_row_by" s__law_row_by f fd) (T : Txt K mg A) (C__law_blocks : SH.Cal P w K mg base CX0 1 "_law_blocks" [] (sp__law_blocks K A)) (C__law_cell_at : SH.Cal P w K mg base CX0 1 "_law_cell_at" [] (sp__law_cell_at K A)) (C__law_keys_by : SH.Cal P w K mg base CX0 2 "_law_keys_by" [] (sp__law_keys_by K A)) : FnOk P w K mg base CX0 3 f fd ["_law_script"] (sp__law_row_by K A) := by
  refine F.ok sc__law_row_by (fun vs H Q E h => by obtain ⟨_, _, rfl, _⟩ := h; rfl) (fun cdv A' outer s H vs Q E hr h => ?_)
  obtain ⟨a, ns, rfl, ⟨hS, hl⟩, k⟩ := h
  refine ⟨_, (pss_cons (ps_set (i := 1) sc__law_row_by.nd rfl (Or.inl rfl) (pe_ix SH.ixA (pe_lst (pa_cons pe_int (pa_cons pe_int (pa_cons pe_int (pa_cons (pe_op SH.oPow pe_int pe_int) pa_nil))))) (pe_op SH.oMod (SH.pe_callF C__law_cell_at hr (by rfl) pass0 (pa_cons (pv 0) (pa_cons pe_int pa_nil))) pe_int) (fun _ _ => rfl)))
        (pss_cons (ps_set (i := 2) sc__law_row_by.nd rfl (Or.inr rfl) (SH.pe_callF C__law_keys_by hr (by rfl) pass0 (pa_cons (pv 0) (pa_cons (pv 1) (pa_cons pe_int pa_nil)))))
        (pss_cons (ps_set (i := 3) sc__law_row_by.nd rfl (Or.inl rfl) (pe_op SH.oMod (SH.pe_callF C__law_cell_at hr (by rfl) pass0 (pa_cons (pv 0) (pa_cons pe_int pa_nil))) pe_int))
        (pss_cons (ps_set (i := 4) sc__law_row_by.nd rfl (Or.inl rfl) (SH.pe_callF C__law_cell_at hr (by rfl) pass0 (pa_cons (pv 0) (pa_cons pe_int pa_nil))))
        (pss_cons (ps_set (i := 5) sc__law_row_by.nd rfl (Or.inl rfl) (SH.pe_callF C__law_cell_at hr (by rfl) pass0 (pa_cons (pv 0) (pa_cons pe_int pa_nil))))
        (pss_cons (ps_if (pt_cmpR (SH.oEq hr.units) (pv 3) pe_int (nomark _)) (pss_one (ps_set (i := 2) sc__law_row_by.nd rfl (Or.inr rfl) (SH.pe_callF C__law_blocks hr (by rfl) pass0 (pa_cons (pv 2) (pa_cons (pv 4) (pa_cons (pv 5) pa_nil)))))) pss_nil)
        (pss_cons (ps_if (PW.pt (pw_and (pt_cmpR (SH.oEq hr.units) (pv 3) pe_int (nomark _)) (pw_and1 (pt_cmpR (SH.oNe hr.units) (pv 2) (pe_lst pa_nil) (nomark _))))) (pss_cons (ps_set (i := 2) sc__law_row_by.nd rfl (Or.inr rfl) (pe_callB cr_sortedI (by rfl) T.z_sorted (by decide +kernel) (pa_cons (pv 2) pa_nil)))
        (pss_one (ps_expr (pe_bm PySem.F.plainAttrs_list PySem.F.slot_list_insert PySem.F.type_list_insert SH.mIns (pv 2) (pa_cons (pe_op SH.oMod (pv 5) (pe_callB SH.cLen (by rfl) T.z_len (by decide +kernel) (pa_cons (pv 2) pa_nil))) (pa_cons (pe_bm PySem.F.plainAttrs_list PySem.F.slot_list_pop PySem.F.type_list_pop mt_popAt (pv 2) (pa_cons (pe_op SH.oMod (pv 4) (pe_callB SH.cLen (by rfl) T.z_len (by decide +kernel) (pa_cons (pv 2) pa_nil))) pa_nil)) pa_nil)))))) pss_nil)
        (pss_cons (ps_if (PW.pt (pw_and (pt_cmpR (SH.oEq hr.units) (pv 3) pe_int (nomark _)) (pw_and1 (pt_cmpR (SH.oNe hr.units) (pv 2) (pe_lst pa_nil) (nomark _))))) (pss_one (ps_set (i := 2) sc__law_row_by.nd rfl (Or.inr rfl) (pe_op SH.oAdd (pe_slice sl_list (pv 2) po_none (po_some (pe_op SH.oMod (pv 4) (pe_callB SH.cLen (by rfl) T.z_len (by decide +kernel) (pa_cons (pv 2) pa_nil))))) (pe_callB cr_sortedI (by rfl) T.z_sorted (by decide +kernel) (pa_cons (pe_slice sl_list (pv 2) (po_some (pe_op SH.oMod (pv 4) (pe_callB SH.cLen (by rfl) T.z_len (by decide +kernel) (pa_cons (pv 2) pa_nil)))) po_none) pa_nil))))) pss_nil)
        (pss_one (ps_ret (pe_lc (own := [("_law_k", 6)]) (g := (gName 6)) (tt := tYes) (by rfl) sc__law_row_by.nd (pi_range1 (by rfl) T.z_range (pa_cons (pe_callB SH.cLen (by rfl) T.z_len (by decide +kernel) (pa_cons (pv 2) pa_nil)) pa_nil)) (blkOk_by (own := [("_law_k", 6)]) (N := ["_law_script", "_law_many", "_law_keys", "_law_way", "_law_one", "_law_two", "_law_k"]) (sc := defScope s__law_row_by) (by decide +kernel)) (fun _ _ _ _ _ => (pg_name (i := 6) sc__law_row_by.nd rfl (Or.inl rfl))) (fun _ _ _ _ _ => pts_nil) (fun _ _ _ _ _ => (pe_tup (pa_cons (pe_ix (SH.ixK SH.aIx K SH.ixA) (pv 2) (pv 6) (fun _ _ => rfl)) (pa_cons (pv 6) pa_nil))))))))))))))), ?_⟩
  walk_at "begin"
  walk_at "rd"
  intro ml hml
  walk_at "rd"
  refine ⟨a, ns, 0, rfl, by walk_at "sq", fun c0 => ?_⟩
  walk_at "rd"
  refine v_ixMod (m := 4) (SqL.of upd_same) rfl (by decide) fun v hv => ?_
  obtain ⟨many, rfl, hm0, hm1⟩ : ∃ x : Int, v = .int x ∧ 0 < x ∧ x < 2 ^ 200 := by
    simp only [List.mem_cons, List.not_mem_nil, or_false] at hv
    rcases hv with rfl | rfl | rfl | rfl
    · exact ⟨_, rfl, by decide, by decide⟩
    · exact ⟨_, rfl, by decide, by decide⟩
    · exact ⟨_, rfl, by decide, by decide⟩
    · exact ⟨_, rfl, big60_pos, big60_lt⟩
  clear hv
  have S0 := (Stp.refl [] H).new (o := .lst [.int 2, .int 5, .int 100, .int big60]) hml
  generalize upd H ml (.lst [.int 2, .int 5, .int 100, .int big60]) = H0 at S0 ⊢
  have hS0 := S0.sql0 hS
  clear hml
  walk_at "rd"
  refine ⟨a, ns, many, 24, rfl, ⟨hS0, hl, hm0, hm1, by decide⟩, fun kq H1 ks hkq S1 hK hkl => ?_⟩
  have hS1 := S1.sql0 hS0
  have hkqH := S0.dom _ hkq
  have S01 := S0.trans S1
  clear S0 S1 hS0 hkq
  walk_at "rd"
  refine ⟨a, ns, 1, rfl, hS1, fun c1 => ?_⟩
  walk_at "rd"
  refine ⟨a, ns, 2, rfl, hS1, fun c2 => ?_⟩
  walk_at "rd"
  refine ⟨a, ns, 3, rfl, hS1, fun c3 => ?_⟩
  walk_at "rd"
  generalize c1 % 4 = way
  have done : ∀ (kq : Addr) (H1 : Hp) (ks : List Int) (v6 : Option V), H kq = none → Stp [] H H1 → H1 kq = some (.lst (ks.map V.int)) → ks.length ≤ 24 → True := fun _ _ _ _ _ _ _ _ => True.intro
  clear done
  refine r_wJ (W := fun σ' H' => ∃ (kq : Addr) (ks : List Int), H kq = none ∧ Stp [] H H' ∧ H' kq = some (.lst (ks.map V.int)) ∧ ks.length ≤ 24 ∧ σ' = [some (.ref a), some (.int many), some (.ref kq), some (.int way), some (.int c2), some (.int c3), none]) ?_ (fun hc N hN => ?_) (fun hc N hN => ?_)
  rotate_left
  · walk_at "rd"
    refine ⟨kq, ks, c2, c3, rfl, ⟨SqL.of hK, by omega⟩, fun q2 H2 ks2 hq2 S2 hK2 hkl2 => ?_⟩
    walk_at "rd"
    exact hN _ _ ⟨q2, ks2, S01.dom _ hq2, S01.trans S2, hK2, by omega, rfl⟩
  · walk_at "rd"
    exact hN _ _ ⟨kq, ks, hkqH, S01, hK, hkl, rfl⟩
  clear hK hkqH S01 hS1 hkl kq ks
  rintro σ' H1 ⟨kq, ks, hkqH, S01, hK, hkl, rfl⟩
  dsimp only
  walk_at "ri"
  refine r_J (fun σ' H' => ∃ (kq : Addr) (ks : List Int), H kq = none ∧ Stp [] H H' ∧ H' kq = some (.lst (ks.map V.int)) ∧ ks.length ≤ 24 ∧ σ' = [some (.ref a), some (.int many), some (.ref kq), some (.int way), some (.int c2), some (.int c3), none]) ?_ fun N hN => ?_
  rotate_left
  · walk_at "rd"
    refine r_w (fun h2 => ?_) fun h2 => ?_
    · walk_at "rd"
      intro z hz
      refine v_neE (x := ks) (y := []) (is_lst (by walk_at "sq") isl_ints) (is_lst (SqL.of upd_same) isl_nil) ?_
      refine ⟨_, rfl, ?_⟩
      have S2 := S01.new (o := .lst []) hz
      have hK2 := upd_old (u := .lst []) hK hz
      generalize upd H1 z (.lst []) = H2 at S2 hK2 ⊢
      clear hz
      refine r_nw (fun hne => ?_) fun he => ?_
      · have hlen : 0 < ks.length := List.length_pos_iff.mpr hne
        walk_at "rd"
        refine v_sortI (SqL.of hK2) fun ps pt hpp _ hpt => ?_
        have hpl := hpp.length_eq
        have S3 := S2.new (o := .lst (ps.map V.int)) hpt
        have hpt3 := upd_same (H := H2) (a := pt) (o := .lst (ps.map V.int))
        have hptH := S2.dom _ hpt
        generalize upd H2 pt (.lst (ps.map V.int)) = H3 at S3 hpt3 ⊢
        clear hpt S2 hK2 hK S01
        walk_at "rd"
        rw [hpl]
        have m0 := Int.emod_nonneg c3 (show (ks.length : Int) ≠ 0 by omega)
        have m1 := Int.emod_lt_of_pos c3 (show (0 : Int) < (ks.length : Int) by omega)
        have n0 := Int.emod_nonneg c2 (show (ks.length : Int) ≠ 0 by omega)
        have n1 := Int.emod_lt_of_pos c2 (show (0 : Int) < (ks.length : Int) by omega)
        walk_at "rd"
        refine v_popAt (n := (c2 % (ks.length : Int)).toNat) (v := .int (getE ps (c2 % (ks.length : Int)).toNat)) hpt3 (by omega) (by omega) (getE_at (by omega)) ?_
        walk_at "rd"
        have hl2 : (ps.eraseIdx (c2 % (ks.length : Int)).toNat).length = ps.length - 1 := List.length_eraseIdx_of_lt (by omega)
        refine w_insI upd_same m0 (by omega) (by rw [List.length_eraseIdx_of_lt (by rw [List.length_map]; omega), List.length_map]; omega) ?_
        walk_at "rd"
        refine hN _ _ ⟨pt, (ps.eraseIdx (c2 % (ks.length : Int)).toNat).take (c3 % (ks.length : Int)).toNat ++ [getE ps (c2 % (ks.length : Int)).toNat] ++ (ps.eraseIdx (c2 % (ks.length : Int)).toNat).drop (c3 % (ks.length : Int)).toNat, hptH, (S3.putN hptH).putN hptH, ?_, ?_, rfl⟩
        · rw [upd_same]
          simp only [List.map_append, List.map_take, List.map_drop, List.eraseIdx_eq_take_drop_succ, List.map_cons, List.map_nil]
        · simp only [List.length_append, List.length_take, List.length_drop, List.length_singleton]; omega
      · walk_at "rd"
        exact hN _ _ ⟨kq, ks, hkqH, S2, hK2, hkl, rfl⟩
    · walk_at "rd"
      exact hN _ _ ⟨kq, ks, hkqH, S01, hK, hkl, rfl⟩
  clear hK hkqH S01 hkl kq ks
  rintro σ' H1 ⟨kq, ks, hkqH, S01, hK, hkl, rfl⟩
  dsimp only
  walk_at "ri"
  refine r_J (fun σ' H' => ∃ (kq : Addr) (ks : List Int), H kq = none ∧ Stp [] H H' ∧ H' kq = some (.lst (ks.map V.int)) ∧ ks.length ≤ 24 ∧ σ' = [some (.ref a), some (.int many), some (.ref kq), some (.int way), some (.int c2), some (.int c3), none]) ?_ fun N hN => ?_
  rotate_left
  · walk_at "rd"
    refine r_w (fun h2 => ?_) fun h2 => ?_
    · walk_at "rd"
      intro z hz
      refine v_neE (x := ks) (y := []) (is_lst (by walk_at "sq") isl_ints) (is_lst (SqL.of upd_same) isl_nil) ?_
      refine ⟨_, rfl, ?_⟩
      have S2 := S01.new (o := .lst []) hz
      have hK2 := upd_old (u := .lst []) hK hz
      generalize upd H1 z (.lst []) = H2 at S2 hK2 ⊢
      clear hz hK S01
      refine r_nw (fun hne => ?_) fun he => ?_
      · have hlen : 0 < ks.length := List.length_pos_iff.mpr hne
        have n0 := Int.emod_nonneg c2 (show (ks.length : Int) ≠ 0 by omega)
        have n1 := Int.emod_lt_of_pos c2 (show (0 : Int) < (ks.length : Int) by omega)
        obtain ⟨m, hm⟩ : ∃ m : Nat, c2 % (ks.length : Int) = m := ⟨(c2 % (ks.length : Int)).toNat, by omega⟩
        walk_at "rd"
        rw [hm]
        walk_at "rd"
        rw [cut_map, cutL_upto]
        intro x1 hx1
        have S3 := S2.new (o := .lst ((ks.take m).map V.int)) hx1
        have hx13 := upd_same (H := H2) (a := x1) (o := .lst ((ks.take m).map V.int))
        have hK3 := upd_old (u := .lst ((ks.take m).map V.int)) hK2 hx1
        generalize upd H2 x1 (.lst ((ks.take m).map V.int)) = H3 at S3 hx13 hK3 ⊢
        clear hx1 S2 hK2
        walk_at "rd"
        rw [hm]
        walk_at "rd"
        rw [cut_map, cutL_from]
        intro x2 hx2
        have S4 := S3.new (o := .lst ((ks.drop m).map V.int)) hx2
        have hx24 := upd_same (H := H3) (a := x2) (o := .lst ((ks.drop m).map V.int))
        have hx14 := upd_old (u := .lst ((ks.drop m).map V.int)) hx13 hx2
        generalize upd H3 x2 (.lst ((ks.drop m).map V.int)) = H4 at S4 hx24 hx14 ⊢
        clear hx2 S3 hK3 hx13
        walk_at "rd"
        refine v_sortI (SqL.of hx24) fun ps pt hpp _ hpt => ?_
        have hpl := hpp.length_eq
        rw [List.length_drop] at hpl
        refine v_addL (upd_old hx14 hpt) upd_same (Nat.le_trans (m := 1000) (by rw [List.length_map, List.length_map, List.length_take]; omega) (by decide)) fun x3 hx3 => ?_
        walk_at "rd"
        refine hN _ _ ⟨x3, ks.take m ++ ps, S4.dom _ (upd_free hx3).1, (S4.new hpt).new hx3, by rw [upd_same, List.map_append], by rw [List.length_append, List.length_take]; omega, rfl⟩
      · walk_at "rd"
        exact hN _ _ ⟨kq, ks, hkqH, S2, hK2, hkl, rfl⟩
    · walk_at "rd"
      exact hN _ _ ⟨kq, ks, hkqH, S01, hK, hkl, rfl⟩
  clear hkqH hkl kq ks hK S01
  rintro σ' H1 ⟨kq, ks, hkqH, S01, hK, hkl, rfl⟩
  dsimp only
  walk_at "rd"
  intro D hD
  refine lc_it walk_range (fun j H' => Stp [] H1 H' ∧ ∃ row : List V, row.length = j ∧ RowP H' row (ks.take j) ∧ H' D = some (.lst row)) ⟨(Stp.refl _ _).new hD, [], rfl, ⟨rfl, fun i v e => by cases e⟩, upd_same⟩ (fun _ _ _ _ => True.intro) ?_ ?_
  · rintro j x H5 H6 hj ⟨S, row, hrl, hrow, hL⟩ ⟨rfl, rfl⟩
    simp only [Int.zero_add]
    have hj' : j < ks.length := by omega
    have hK5 := S.keep0 hK
    walk_at "rd"
    refine v_ixE (n := j) (SqL.of hK5) rfl hj' ?_
    walk_at "rd"
    intro t ht
    have htD : t ≠ D := (ne_of_none hL ht).symm
    have S5 : Stp [D] H6 (upd (upd H6 t (.tup [.int (getE ks j), .int (j : Nat)])) D (.lst (row ++ [.ref t]))) := ((Stp.refl [D] H6).new ht).putL (by simp) (upd_old hL ht)
    refine ⟨_, upd_old hL ht, Nat.lt_of_le_of_lt (m := 1000) (by omega) (by decide), (S.new ht).putN hD, row ++ [.ref t], by simp [hrl], ?_, upd_same⟩
    rw [List.take_succ, List.getElem?_eq_getElem hj', show (some ks[j]).toList = [getE ks j] by simp [getE, hj']]
    refine RowP.app (k := getE ks j) (hrow.stp S5) ?_
    rw [upd_ne htD, upd_same, hrl]
  rintro H5 ⟨S5, row, hrl, hrow, hD5⟩
  rw [show ((ks.length : Nat) : Int).toNat = ks.length by omega, List.take_length] at hrow
  walk_at "rd"
  exact k D H5 row ks (S01.dom _ hD) (S01.trans S5) hD5 hrow hkl
/-! ### a pile stepped to its end -/
inductive Run : PS → List Ent → PS → Prop
  | nil {S : PS} : Run S [] S
  | step {S S1 S2 : PS} {e1 e2 : List Ent} {d : Dd} (h : Deed S e1 S1 d) (k : Run S1 e2 S2) : Run S (e1 ++ e2) S2
theorem Run.snoc {S S1 S2 : PS} {e1 e2 : List Ent} {d : Dd} (h : Run S e1 S1) (k : Deed S1 e2 S2 d) : Run S (e1 ++ e2) S2 := by
  induction h with
  | nil => have := Run.step k (.nil); rwa [List.append_nil] at this
  | step h _ ih => rw [List.append_assoc]; exact .step h (ih k)
theorem Run.ok {S S' : PS} {n : Nat} {es : List Ent} (h : Run S es S') (ok : S.Ok n) : S'.Ok n := by
  induction h with
  | nil => exact ok
  | step h _ ih => exact ih (h.ok ok)
theorem Deed.same {S S' : PS} {es : List Ent} {d : Dd} (h : Deed S es S' d) : S'.low = S.low ∧ S'.end_ = S.end_ ∧ S'.least = S.least ∧ S.come ≤ S'.come := by
  cases h with
  | lay hb hc hE hP h0 h1 => have := hE.lo; exact ⟨rfl, rfl, rfl, by show S.come ≤ bey _ _ _ _; unfold bey; omega⟩
  | join hi hl hu hJ => exact ⟨rfl, rfl, rfl, Nat.le_refl _⟩
theorem Run.same {S S' : PS} {es : List Ent} (h : Run S es S') : S'.low = S.low ∧ S'.end_ = S.end_ ∧ S'.least = S.least ∧ S.come ≤ S'.come := by
  induction h with
  | nil => exact ⟨rfl, rfl, rfl, Nat.le_refl _⟩
  | step h _ ih => have := h.same; omega
/-- what is left to be done -/
def PS.rest (S : PS) : Nat := 2 * (S.end_ - S.come) + S.sp.length
theorem Deed.rest {S S' : PS} {n : Nat} {es : List Ent} {d : Dd} (h : Deed S es S' d) (ok : S.Ok n) : S'.rest < S.rest := by
  have := ok.ce
  cases h with
  | @lay found fall es1 es2 res gs hb hc hE hP h0 h1 =>
    have hlo := hE.lo
    have hbg := bey_gt (least := S.least) hlo.1 hlo.2.1
    show 2 * (S.end_ - bey _ _ _ _) + (S.sp ++ [_]).length < 2 * (S.end_ - S.come) + S.sp.length
    rw [List.length_append, List.length_singleton]
    omega
  | @join i l u es res hi hl hu hJ =>
    have hil : i + 1 < S.sp.length := (List.getElem?_eq_some_iff.mp hu).1
    show 2 * (S.end_ - S.come) + (S.sp.take i ++ [_] ++ S.sp.drop (i + 2)).length < 2 * (S.end_ - S.come) + S.sp.length
    simp only [List.length_append, List.length_take, List.length_drop, List.length_cons, List.length_nil]
    omega
/-- how many asks so far -/
def FewS (n : Nat) (S : PS) (es : List Ent) : Prop := es.length + 3 * n * S.sp.length ≤ (S.come - S.low) * (4 * n + 1)
theorem FewS.init {n least low end_ : Nat} : FewS n (PS.init least low end_) [] := by simp [FewS, PS.init]
theorem FewS.step {S S' : PS} {n : Nat} {es es2 : List Ent} {d : Dd} (h : FewS n S es) (hd : Deed S es2 S' d) (k : Few n S S' es2) (hle : S.low ≤ S.come) : FewS n S' (es ++ es2) := by
  unfold FewS Few at *
  obtain ⟨a, _, _, c⟩ := hd.same
  rw [a, List.length_append]
  have : (S'.come - S.low) * (4 * n + 1) = (S.come - S.low) * (4 * n + 1) + (S'.come - S.come) * (4 * n + 1) := by rw [← Nat.add_mul]; congr 1; omega
  omega
theorem FewS.bd {S : PS} {n : Nat} {es : List Ent} (h : FewS n S es) (ok : S.Ok n) : es.length ≤ n * (4 * n + 1) := by
  unfold FewS at h
  have := ok.ce
  have := ok.en
  have : (S.come - S.low) * (4 * n + 1) ≤ n * (4 * n + 1) := Nat.mul_le_mul_right _ (by omega)
  omega
theorem PS.Ok.lc {S : PS} {n : Nat} (ok : S.Ok n) : S.low ≤ S.come := by have := ok.ends.le; omega
theorem Run.app {S S1 S2 : PS} {e1 e2 : List Ent} (h : Run S e1 S1) (k : Run S1 e2 S2) : Run S (e1 ++ e2) S2 := by
  induction h with
  | nil => exact k
  | step h _ ih => rw [List.append_assoc]; exact .step h (ih k)
theorem Run.total (or : List Ent → Nat → Nat → Bool) {n : Nat} : ∀ (m : Nat) (S : PS) (log : List Ent), S.Ok n → S.rest = m → ∃ es S', Run S es S' ∧ S'.done ∧ Told or log es := by
  intro m
  induction m using Nat.strongRecOn with
  | _ m ih =>
    intro S log ok hm
    rcases Deed.total or ok log with h | ⟨es, S', d, h, hT⟩
    · exact ⟨[], S, .nil, h, True.intro⟩
    · obtain ⟨es2, S2, h2, h3, hT2⟩ := ih S'.rest (by have := h.rest ok; omega) S' (log ++ es) (h.ok ok) rfl
      exact ⟨es ++ es2, S2, .step h h2, h3, Told.app hT hT2⟩
def sp_by_pile (K : PySem.W.Frag) (A : Ad) : Sp := fun vs H Q E => ∃ (I : Ask) (log : List Ent) (least low end_ : Nat) (pav : V), vs = [.ref I.s, .int least, pav] ∧
  (I.At K A H log ∧ ((pav = .non ∧ low = 0 ∧ end_ = I.n) ∨ ∃ t : Addr, pav = .ref t ∧ H t = some (.tup [.int low, .int end_])) ∧ low ≤ end_ ∧ end_ ≤ I.n ∧ I.n ≤ 300 ∧ log.length + I.pre.length + I.n * (4 * I.n + 1) + I.n * I.n + 1000 ≤ 80000) ∧
  Stop I K A H log (fun es => ∃ S, Run (PS.init least low end_) es S ∧ S.done) E ∧
  ∀ (H' : Hp) (q : Addr) (es : List Ent) (S : PS), Run (PS.init least low end_) es S → FewS I.n S es → S.done → Told I.or log es → Stp I.M H H' → I.At K A H' (log ++ es) → H q = none → H' q = some (.lst (nv S.paper)) → Q (.ref q) H'
theorem ok_by_pile {P : Program} {w : World} {K : PySem.W.Frag} {mg : Str → Option Value} {base : Heap} {A : Ad} {f : Addr} {fd : FuncData} (F : FunD K "by_pile" "by_pile" (defArgs s_by_pile) (defBody s_by_pile) (defScope s_by_pile) [.int 1, .non] [] f fd) (T : Txt K mg A) (M_Pile_paper : SH.CalM P w K mg base CX0 1 A.Pile "paper" [] (sp_Pile_paper K A)) (M_Pile_step : SH.CalM P w K mg base (L2N.CX P w) 9 A.Pile "step" [] (sp_Pile_step K A)) (N_Pile : SH.CalC P w K mg base CX0 2 "Pile" A.Pile [] (sp_Pile___init__ K A)) : FnOk P w K mg base (L2N.CX P w) 10 f fd ["asker", "least", "part"] (sp_by_pile K A) := by
  refine SH.okND F sc_by_pile (fun vs H Q E h => by obtain ⟨_, _, _, _, _, _, rfl, _⟩ := h; rfl) (fun cdv A' outer s H vs Q E hr h => ?_)
  obtain ⟨I, log, least, low, end_, pav, rfl, ⟨hA, hpv, hle, hen, hn, hlog⟩, kx, k⟩ := h
  refine ⟨_, (pss_cons (ps_set (i := 3) sc_by_pile.nd rfl (Or.inl rfl) (SH.pe_makeF N_Pile hr (by rfl) pass0 (pa_cons (pv 0) (pa_cons (pv 1) (pa_cons (pv 2) pa_nil)))))
        (pss_cons (ps_while (L2.passes_of rfl) (pt_cmpR SH.oNotN (SH.pe_methF0 (pv 3) M_Pile_step hr (L2N.passes_call (L2N.takes_of rfl rfl rfl rfl) fun _ _ _ _ h => h)) pe_non (nomark _)) (pss_one ps_pass))
        (pss_one (ps_ret (SH.pe_methF0 (pv 3) M_Pile_paper hr pass0))))), ?_⟩
  walk_at "begin"
  have ok0 : (PS.init least low end_).Ok I.n := PS.init_ok hle hen
  walk_at "rd"
  intro x dx hx hdx hne
  have S0 : Stp [] H (upd (upd H dx (.own x)) x (.ins A.Pile dx [])) := ((Stp.refl [] H).new hdx).new (by rw [upd_ne hne.symm]; exact hx)
  have hx0 : (upd (upd H dx (.own x)) x (.ins A.Pile dx [])) x = some (.ins A.Pile dx []) := upd_same
  generalize upd (upd H dx (.own x)) x (.ins A.Pile dx []) = H0 at S0 hx0 ⊢
  have hA0 := hA.stp S0 (by simp)
  refine ⟨x, I, log, least, low, end_, pav, rfl, ⟨⟨dx, hx0⟩, hA0, hA.freshO hx, ?_⟩, fun R H1 hRp hRo S1 hR1 => ⟨rfl, ?_⟩⟩
  · rcases hpv with h | ⟨t, h1, h2⟩
    · exact .inl h
    · exact .inr ⟨t, h1, S0.tup h2⟩
  subst hRp
  have hA1 := hA0.stp S1 (by intro m hm; rw [List.mem_singleton] at hm; subst hm; exact hA.freshO hx)
  have S01 : Stp [] H H1 := S0.then S1 (by intro m hm; rw [List.mem_singleton] at hm; subst hm; exact .inr hx)
  have fr1 : ∀ a ∈ R.own, H a = none := fun a ha => by
    by_cases e : a = R.p
    · rw [e]; exact hx
    · exact S0.dom _ (hRo a ha e)
  clear hA0 S0 hx0 S1 hRo hA
  generalize hp0 : R.p = p at *
  refine r_while (fun m σ H' => ∃ (R' : PIL) (S : PS) (es : List Ent), m = S.rest ∧ R'.p = p ∧ (∀ a ∈ R'.own, H a = none) ∧ R'.At A I H' S ∧ Run (PS.init least low end_) es S ∧ FewS I.n S es ∧ Told I.or log es ∧ Stp I.M H H' ∧ I.At K A H' (log ++ es) ∧ σ = [some (.ref I.s), some (.int least), some pav, some (.ref p)])
    ⟨_, R, _, [], rfl, hp0, fr1, hR1, .nil, .init, True.intro, S01.mono (by simp), by rw [List.append_nil]; exact hA1, rfl⟩ ?_
  clear hR1 S01 hA1 fr1
  rintro m σ H2 ⟨R', S, es, rfl, rfl, hRo, hR, hrun, hfew, hT, S2, hA2, rfl⟩
  have ok := hrun.ok ok0
  have hbd := hfew.bd ok
  have hp := hR.hp
  walk_at "rd"
  refine ⟨R', I, _, S, rfl, ⟨hR, hA2, ok, hn, by rw [List.length_append]; omega⟩, kx.sub S2 hT (fun es2 ⟨S', d, hd⟩ hT2 => by
    obtain ⟨es3, S3, hr, hdn, hT3⟩ := Run.total I.or _ S' (log ++ es ++ es2) (hd.ok ok) rfl
    exact ⟨es3, hT3, S3, (hrun.snoc hd).app hr, hdn⟩), fun hd => ?_, fun H3 t R2 es2 S2' d h1 h2 h3 h4 h5 h6 h7 h8 h9 h10 => ?_⟩
  · walk_at "rd"
    rw [if_neg (by decide)]
    walk_at "rd"
    refine ⟨R', I, S, rfl, ⟨hR, ok, hn⟩, fun H3 q hq S3 hq3 => ?_⟩
    exact k H3 q es S hrun hfew hd hT (S2.then0 S3) (hA2.stp S3 (by simp)) (S2.dom _ hq) hq3
  · walk_at "rd"
    rw [if_pos (by simp)]
    refine r_next_turn ?_
    walk_at "rd"
    have hsafe : Stp I.M H H3 := S2.then h6 (by
      intro m hm
      simp only [PIL.M, List.mem_cons] at hm
      rcases hm with h | h | h | h
      · exact .inr (hRo _ (by simp [PIL.own, h]))
      · exact .inr (hRo _ (by simp [PIL.own, h]))
      · exact .inr (hRo _ (by simp [PIL.own, h]))
      · exact .inl h)
    refine ⟨_, h3.rest ok, R2, S2', es ++ es2, rfl, h1, fun a ha => ?_, h8, hrun.snoc h3, hfew.step h3 h4 ok.lc, Told.app hT h5, hsafe, by rw [← List.append_assoc]; exact h7, rfl⟩
    rcases h2 a ha with h | h
    · exact hRo a h
    · exact S2.dom _ h
/-! ### the blocks of an order dealt to two sides -/
/-- the sizes of the blocks, the first one begun: k of c -/
def rest : Bool → Nat → List Bool → List Nat
  | _, k, [] => [k]
  | c, k, f :: fs => if f = c then rest c (k + 1) fs else k :: rest f 1 fs
def runs : List Bool → List Nat
  | [] => []
  | f :: fs => rest f 1 fs
/-- what a block costs -/
def cost (k : Nat) : Nat := if k < 4 then k else 4 + max 1 (2 * Builtin.Int.intBits ((k - 4 : Nat) : Int))
/-- all blocks but the last one -/
def bl : Bool → Nat → List Bool → Nat
  | _, _, [] => 0
  | c, k, f :: fs => if f = c then bl c (k + 1) fs else cost k + bl f 1 fs
theorem rest_ne {c : Bool} {k : Nat} {fs : List Bool} : rest c k fs ≠ [] := by
  induction fs generalizing c k with
  | nil => simp [rest]
  | cons f fs ih => unfold rest; split; exact ih; simp
theorem bl_rest {c : Bool} {k : Nat} {fs : List Bool} : bl c k fs = (((rest c k fs).dropLast).map cost).sum := by
  induction fs generalizing c k with
  | nil => simp [bl, rest]
  | cons f fs ih =>
    unfold bl rest
    split
    · exact ih
    · rw [List.dropLast_cons_of_ne_nil rest_ne, List.map_cons, List.sum_cons, ih]
theorem rest_len {c : Bool} {k : Nat} {fs : List Bool} : (rest c k fs).length ≤ fs.length + 1 := by
  induction fs generalizing c k with
  | nil => simp [rest]
  | cons f fs ih =>
    unfold rest
    split
    · have := ih (c := c) (k := k + 1); rw [List.length_cons]; omega
    · have := ih (c := f) (k := 1); rw [List.length_cons, List.length_cons]; omega
theorem runs_len {fs : List Bool} : (runs fs).length ≤ fs.length := by
  cases fs with
  | nil => simp [runs]
  | cons f fs => exact rest_len
theorem cost_mono {a b : Nat} (h : a ≤ b) : cost a ≤ cost b := by
  unfold cost
  split
  · split <;> omega
  · rw [if_neg (by omega)]
    have := bits_mono (show a - 4 ≤ b - 4 by omega)
    omega
theorem cost_ge {k : Nat} (h : k ≤ 4) : k ≤ cost k := by unfold cost; split <;> omega
theorem bl_mono {c : Bool} {fs : List Bool} : ∀ {a b : Nat}, a ≤ b → bl c a fs ≤ bl c b fs := by
  induction fs generalizing c with
  | nil => intro a b h; simp [bl]
  | cons f fs ih =>
    intro a b h
    unfold bl
    split
    · exact ih (by omega)
    · have := cost_mono h; omega
theorem bl_flip {c : Bool} {fs : List Bool} : bl c 0 fs ≤ bl (!c) 1 fs := by
  cases fs with
  | nil => simp [bl]
  | cons f fs =>
    unfold bl
    by_cases h : f = c
    · subst h
      rw [if_pos rfl, if_neg (by cases f <;> simp), Nat.zero_add]
      omega
    · have : f = !c := by cases f <;> cases c <;> simp_all
      subst this
      rw [if_neg h, if_pos rfl]
      have := bl_mono (c := !c) (fs := fs) (show 1 ≤ 2 by decide)
      have e : cost 0 = 0 := by decide
      rw [e, Nat.zero_add]; exact this
theorem bl_same {c : Bool} {g : Nat} {fs : List Bool} : ∀ {k : Nat}, bl c k (List.replicate g c ++ fs) = bl c (k + g) fs := by
  induction g with
  | zero => intro k; simp
  | succ g ih =>
    intro k
    rw [List.replicate_succ, List.cons_append]
    conv => lhs; unfold bl; rw [if_pos rfl, ih]
    congr 1
    omega
/-- the side of each of what is told -/
def flags (L : Bool → List Nat) (res : List Nat) : List Bool := res.map fun x => decide (x ∈ L true)
theorem flag_at {L : Bool → List Nat} (hd : ∀ x ∈ L false, ∀ y ∈ L true, x ≠ y) {s : Bool} {x : Nat} (hx : x ∈ L s) : decide (x ∈ L true) = s := by
  cases s
  · exact decide_eq_false fun z => hd x hx x z rfl
  · exact decide_eq_true hx
theorem flags_of {L : Bool → List Nat} (hd : ∀ x ∈ L false, ∀ y ∈ L true, x ≠ y) {s : Bool} {xs : List Nat} (h : ∀ x ∈ xs, x ∈ L s) : flags L xs = List.replicate xs.length s := by
  unfold flags
  rw [List.eq_replicate_iff]
  refine ⟨by simp, fun b hb => ?_⟩
  obtain ⟨x, hx, rfl⟩ := List.mem_map.mp hb
  exact flag_at hd (h x hx)
/-- the join has come to the end of a side -/
def Out (L : Bool → List Nat) (p : Bool → Nat) : Prop := (L false).length ≤ p false ∨ (L true).length ≤ p true
theorem Out.of {L : Bool → List Nat} {p : Bool → Nat} (s : Bool) (h : (L s).length ≤ p s) : Out L p := by cases s; exact .inl h; exact .inr h
theorem Out.side {L : Bool → List Nat} {p : Bool → Nat} (h : Out L p) (s : Bool) (hs : p s < (L s).length) : (L !s).length ≤ p !s := by
  cases s
  · exact h.resolve_left (by omega)
  · exact h.resolve_right (by omega)
theorem JN.out {L : Bool → List Nat} {p : Bool → Nat} {last : Bool} {wins : Nat} {es : List Ent} {res : List Nat} (h : JN L p last wins es res) (ho : Out L p) : es = [] ∧ res = (L false).drop (p false) ++ (L true).drop (p true) := by
  have key : ∀ (s : Bool) (x y : Nat), (L s)[p s]? = some x → (L !s)[p !s]? = some y → False := fun s x y hx hy => by
    have h1 := (List.getElem?_eq_some_iff.mp hx).1
    have h2 := (List.getElem?_eq_some_iff.mp hy).1
    have := ho.side s h1
    omega
  cases h with
  | done h => exact ⟨rfl, rfl⟩
  | win s hx hy h k => exact (key s _ _ hx hy).elim
  | leap s hx hy h h2 hL h3 k => exact (key s _ _ hx hy).elim
  | leapA s hx hy h h2 hL h3 k => exact (key s _ _ hx hy).elim
theorem out_res {L : Bool → List Nat} (hd : ∀ x ∈ L false, ∀ y ∈ L true, x ≠ y) {p : Bool → Nat} {s : Bool} (hs : (L s).length ≤ p s) (hn : p (!s) < (L !s).length) : ∃ n, flags L ((L false).drop (p false) ++ (L true).drop (p true)) = List.replicate (n + 1) !s := by
  refine ⟨(L !s).length - p (!s) - 1, ?_⟩
  have e : (L false).drop (p false) ++ (L true).drop (p true) = (L !s).drop (p !s) := by
    cases s
    · rw [List.drop_of_length_le hs, List.nil_append]; rfl
    · rw [show (L true).drop (p true) = [] from List.drop_of_length_le hs, List.append_nil]; rfl
  rw [e, flags_of hd (s := !s) (fun x hx => List.mem_of_mem_drop hx), List.length_drop]
  congr 1
  omega
theorem put2_eq {p : Bool → Nat} {s : Bool} {n : Nat} {b : Bool} (h : ¬ b = s) : put2 p s n b = p b := by simp [put2, h]
/-- the asks by the blocks -/
theorem JN.blocks {L : Bool → List Nat} (hd : ∀ x ∈ L false, ∀ y ∈ L true, x ≠ y) {p : Bool → Nat} {last : Bool} {wins : Nat} {es : List Ent} {res : List Nat} (h : JN L p last wins es res) :
    wins ≤ 3 → ¬ Out L p → es.length + wins ≤ bl last wins (flags L res) := by
  have hds : ∀ (s : Bool) {x : Nat}, x ∈ L s → decide (x ∈ L true) = s := fun s x hx => flag_at hd hx
  have nn : ∀ s : Bool, ¬ (!s) = s := fun s => by cases s <;> simp
  induction h with
  | done h => intro _ ho; exact (ho h).elim
  | @win p last wins s x y es res hx hy h k ih =>
    intro hw ho
    have hxm := hds s (List.mem_of_getElem? hx)
    have hxl := (List.getElem?_eq_some_iff.mp hx).1
    have hyl := (List.getElem?_eq_some_iff.mp hy).1
    rw [List.length_cons, show flags L (x :: res) = s :: flags L res by unfold flags; rw [List.map_cons, hxm]]
    have key : es.length + (if s = last then wins + 1 else 1) ≤ bl s (if s = last then wins + 1 else 1) (flags L res) := by
      by_cases hO : Out L (put2 p s (p s + 1))
      · obtain ⟨e1, e2⟩ := k.out hO
        have hs : (L s).length ≤ put2 p s (p s + 1) s := by
          have := hO.side (!s) (by rw [put2_not]; exact hyl)
          rwa [Bool.not_not] at this
        obtain ⟨n, hn⟩ := out_res hd hs (by rw [put2_not]; exact hyl)
        rw [e1, e2, hn, List.replicate_succ]
        unfold bl
        rw [if_neg (nn s)]
        have := cost_ge (k := if s = last then wins + 1 else 1) (by split <;> omega)
        simp only [List.length_nil]
        omega
      · refine ih ?_ hO
        split
        · apply Classical.byContradiction
          intro h4
          have e4 : wins + 1 = 4 := by omega
          refine h ⟨by rw [if_pos (by assumption)]; exact e4, ?_⟩
          apply Classical.byContradiction
          intro h5
          exact hO (.of s (by rw [put2_same]; omega))
        · omega
    by_cases e : s = last
    · subst e
      rw [if_pos rfl] at key
      unfold bl
      rw [if_pos rfl]
      omega
    · rw [if_neg e] at key
      unfold bl
      rw [if_neg e]
      have := cost_ge (k := wins) (by omega)
      omega
  | @leap p last wins s x y g es1 es res hx hy h h2 hL h3 k ih =>
    intro hw ho
    have e : s = last := by
      apply Classical.byContradiction
      intro z
      rw [if_neg z] at h
      omega
    subst e
    rw [if_pos rfl] at h
    have hxm := hds s (List.mem_of_getElem? hx)
    have hym := hds (!s) (List.mem_of_getElem? hy)
    have hgm : flags L (((L s).drop (p s + 1)).take g) = List.replicate g s := by
      rw [flags_of hd (s := s) (fun x hx => List.mem_of_mem_drop (List.mem_of_mem_take hx)), List.length_take, List.length_drop]
      congr 1
      omega
    have ef : flags L (x :: (((L s).drop (p s + 1)).take g ++ y :: res)) = s :: (List.replicate g s ++ (!s) :: flags L res) := by
      rw [← hgm]
      unfold flags
      rw [List.map_cons, List.map_append, List.map_cons, hxm, hym]
    rw [ef, List.length_cons, List.length_append]
    have hfew := hL.few0 (by omega)
    have hk : es.length ≤ bl s 0 (flags L res) := by
      by_cases hO : Out L (put2 (put2 p s (p s + 1 + g)) (!s) (p (!s) + 1))
      · rw [(k.out hO).1]; simp
      · exact ih (by omega) hO
    have hf := bl_flip (c := s) (fs := flags L res)
    have e1 : bl s wins (s :: (List.replicate g s ++ (!s) :: flags L res)) = cost (wins + 1 + g) + bl (!s) 1 (flags L res) := by
      conv => lhs; unfold bl; rw [if_pos rfl, bl_same]
      conv => lhs; unfold bl; rw [if_neg (nn s)]
    rw [e1]
    have e2 : cost (wins + 1 + g) = 4 + max 1 (2 * Builtin.Int.intBits ((g : Nat) : Int)) := by
      unfold cost
      rw [if_neg (by omega), show wins + 1 + g - 4 = g by omega]
    rw [e2]
    omega
  | @leapA p last wins s x y g es1 es res hx hy h h2 hL h3 k ih =>
    intro hw ho
    have e : s = last := by
      apply Classical.byContradiction
      intro z
      rw [if_neg z] at h
      omega
    subst e
    rw [if_pos rfl] at h
    have hbd := hL.bd (Nat.le_refl _) (Nat.le_refl _) (by omega) (by omega)
    have hxm := hds s (List.mem_of_getElem? hx)
    have hyl := (List.getElem?_eq_some_iff.mp hy).1
    have hgm : flags L (((L s).drop (p s + 1)).take g) = List.replicate g s := by
      rw [flags_of hd (s := s) (fun x hx => List.mem_of_mem_drop (List.mem_of_mem_take hx)), List.length_take, List.length_drop]
      congr 1
      omega
    have hs : (L s).length ≤ put2 p s (p s + 1 + g) s := by rw [put2_same]; omega
    obtain ⟨q1, q2⟩ := k.out (.of s hs)
    obtain ⟨n, hn⟩ := out_res hd hs (by rw [put2_not]; exact hyl)
    have ef : flags L (x :: (((L s).drop (p s + 1)).take g ++ res)) = s :: (List.replicate g s ++ List.replicate (n + 1) !s) := by
      rw [← hgm, ← hn, ← q2]
      unfold flags
      rw [List.map_cons, List.map_append, hxm]
    rw [ef, List.length_cons, List.length_append, q1]
    have hfew := hL.few0 (by omega)
    have e1 : bl s wins (s :: (List.replicate g s ++ List.replicate (n + 1) !s)) = cost (wins + 1 + g) + bl (!s) 1 (List.replicate n !s) := by
      rw [List.replicate_succ]
      conv => lhs; unfold bl; rw [if_pos rfl, bl_same]
      conv => lhs; unfold bl; rw [if_neg (nn s)]
    rw [e1]
    have e2 : cost (wins + 1 + g) = 4 + max 1 (2 * Builtin.Int.intBits ((g : Nat) : Int)) := by
      unfold cost
      rw [if_neg (by omega), show wins + 1 + g - 4 = g by omega]
    rw [e2]
    simp only [List.length_nil]
    omega
theorem JN.most {sl : Bool → List Nat} (hd : ∀ x ∈ sl false, ∀ y ∈ sl true, x ≠ y) {es : List Ent} {res : List Nat} (h : JN sl (fun _ => 0) false 0 es res) (h0 : 0 < (sl false).length) (h1 : 0 < (sl true).length) : es.length ≤ ((runs (flags sl res)).dropLast.map cost).sum := by
  have hb := h.blocks hd (by omega) (by rintro (z | z) <;> simp only [Nat.le_zero] at z <;> omega)
  cases e : flags sl res with
  | nil => rw [e] at hb; simp [bl] at hb; rw [hb]; simp
  | cons f fs =>
    rw [e] at hb
    unfold runs
    rw [← bl_rest]
    unfold bl at hb
    split at hb
    · rename_i h; subst h; simpa using hb
    · have e0 : cost 0 = 0 := by decide
      rw [e0] at hb; omega
/-! ### and by how many there are -/
theorem bits_few {g : Nat} : 2 * Builtin.Int.intBits ((g : Nat) : Int) ≤ g + 2 := by
  induction g using Nat.strongRecOn with
  | _ g ih =>
    by_cases h : g = 0
    · subst h; decide
    · rw [bits_half (by omega)]
      have := ih (g / 2) (by omega)
      by_cases h2 : g < 4
      · match g, h2 with
        | 1, _ => decide
        | 2, _ => decide
        | 3, _ => decide
      · omega
theorem pow_gt {i : Nat} : i + 1 ≤ 2 ^ i := by
  induction i with
  | zero => decide
  | succ i ih => rw [Nat.pow_succ]; omega
/-- a leap to the end of a side takes no more asks than it gets -/
theorem LP.over_few {ord : List Nat} {place first : Nat} : ∀ {lo step r : Nat} {es : List Ent}, LP ord place first lo step es r → ∀ (j h : Nat), step = 2 ^ j → lo = first + h → ((j = 0 ∧ h = 0) ∨ (1 ≤ j ∧ 2 * h = 2 ^ j)) → lo ≤ ord.length → first < ord.length →
    first + r = ord.length → j + es.length ≤ r := by
  intro lo step r es hL
  induction hL with
  | @more lo step o es r hh ho k ih =>
    intro j h hs hl hj h2 h3 h4
    have := ih (j + 1) step (by rw [hs, Nat.pow_succ]) rfl (.inr ⟨by omega, by rw [hs, Nat.pow_succ]; omega⟩) hh h3 h4
    rw [List.length_cons]
    omega
  | @stop lo step o es r hh ho k =>
    intro j h hs hl hj h2 h3 h4
    have hbd := k.bd
    have hp : 0 < 2 ^ j := Nat.pos_of_ne_zero (by simp)
    omega
  | @over lo step es r hh k =>
    intro j h hs hl hj h2 h3 h4
    have hbd := k.bd
    rcases hj with ⟨rfl, rfl⟩ | ⟨hj, hh2⟩
    · simp at hs
      omega
    · have hlen := k.len
      obtain ⟨i, rfl⟩ : ∃ i, j = i + 1 := ⟨j - 1, by omega⟩
      rw [Nat.pow_succ] at hs hh2
      have hp : 0 < 2 ^ i := Nat.pos_of_ne_zero (by simp)
      have b1 := bits_self (n := ord.length - lo)
      have b2 := bits_nat_le (n := ord.length - lo) (k := i) (by omega)
      have b3 := pow_gt (i := i)
      omega
theorem JN.count {L : Bool → List Nat} {p : Bool → Nat} {last : Bool} {wins : Nat} {es : List Ent} {res : List Nat} (h : JN L p last wins es res) :
    wins ≤ 3 → ¬ Out L p → es.length + 1 ≤ res.length + (res.length + wins) / 7 := by
  induction h with
  | done h => intro _ ho; exact (ho h).elim
  | @win p last wins s x y es res hx hy h k ih =>
    intro hw ho
    have hxl := (List.getElem?_eq_some_iff.mp hx).1
    have hyl := (List.getElem?_eq_some_iff.mp hy).1
    rw [List.length_cons, List.length_cons]
    by_cases hO : Out L (put2 p s (p s + 1))
    · obtain ⟨e1, e2⟩ := k.out hO
      have : 1 ≤ res.length := by
        rw [e2, List.length_append, List.length_drop, List.length_drop]
        cases s
        · have := hyl; simp only [put2, Bool.not_false] at this ⊢; simp; omega
        · have := hyl; simp only [put2, Bool.not_true] at this ⊢; simp; omega
      rw [e1, List.length_nil]
      omega
    · have := ih ?_ hO
      · have hw' : (if s = last then wins + 1 else 1) ≤ wins + 1 := by split <;> omega
        have : (res.length + (if s = last then wins + 1 else 1)) / 7 ≤ (res.length + 1 + wins) / 7 := Nat.div_le_div_right (by omega)
        omega
      · split
        · apply Classical.byContradiction
          intro h4
          have e4 : wins + 1 = 4 := by omega
          refine h ⟨by rw [if_pos (by assumption)]; exact e4, ?_⟩
          apply Classical.byContradiction
          intro h5
          exact hO (.of s (by rw [put2_same]; omega))
        · omega
  | @leap p last wins s x y g es1 es res hx hy h h2 hL h3 k ih =>
    intro hw ho
    have e : s = last := by
      apply Classical.byContradiction
      intro z
      rw [if_neg z] at h
      omega
    subst e
    rw [if_pos rfl] at h
    have hlg : (((L s).drop (p s + 1)).take g).length = g := by rw [List.length_take, List.length_drop]; omega
    simp only [List.length_cons, List.length_append, hlg]
    have hfew := hL.few0 (by omega)
    have hb := bits_few (g := g)
    have hk : es.length + 1 ≤ res.length + res.length / 7 := by
      by_cases hO : Out L (put2 (put2 p s (p s + 1 + g)) (!s) (p (!s) + 1))
      · obtain ⟨e1, e2⟩ := k.out hO
        have : 1 ≤ res.length := by
          rw [e2, List.length_append, List.length_drop, List.length_drop]
          cases s
          · simp [put2]; omega
          · simp [put2]; omega
        rw [e1, List.length_nil]; omega
      · exact ih (by omega) hO
    by_cases hg : 2 ≤ g
    · have : (res.length + 7) / 7 ≤ (g + (res.length + 1) + 1 + wins) / 7 := Nat.div_le_div_right (by omega)
      omega
    · have : res.length / 7 ≤ (g + (res.length + 1) + 1 + wins) / 7 := Nat.div_le_div_right (by omega)
      have hg1 : es1.length ≤ g + 1 := by
        rcases (show g = 0 ∨ g = 1 by omega) with rfl | rfl
        · have : Builtin.Int.intBits ((0 : Nat) : Int) = 0 := by decide
          rw [this] at hfew; omega
        · have : Builtin.Int.intBits ((1 : Nat) : Int) = 1 := by decide
          rw [this] at hfew; omega
      omega
  | @leapA p last wins s x y g es1 es res hx hy h h2 hL h3 k ih =>
    intro hw ho
    have e : s = last := by
      apply Classical.byContradiction
      intro z
      rw [if_neg z] at h
      omega
    subst e
    rw [if_pos rfl] at h
    have hbd := hL.bd (Nat.le_refl _) (Nat.le_refl _) (by omega) (by omega)
    have hyl := (List.getElem?_eq_some_iff.mp hy).1
    have hlg : (((L s).drop (p s + 1)).take g).length = g := by rw [List.length_take, List.length_drop]; omega
    have hs : (L s).length ≤ put2 p s (p s + 1 + g) s := by rw [put2_same]; omega
    obtain ⟨q1, q2⟩ := k.out (.of s hs)
    have : 1 ≤ res.length := by
      rw [q2, List.length_append, List.length_drop, List.length_drop]
      cases s
      · have := hyl; simp only [put2, Bool.not_false] at this ⊢; simp; omega
      · have := hyl; simp only [put2, Bool.not_true] at this ⊢; simp; omega
    have hf := hL.over_few 0 0 rfl rfl (.inl ⟨rfl, rfl⟩) (by omega) h2 (by omega)
    simp only [List.length_cons, List.length_append, hlg, q1, List.length_nil]
    omega
/-! ### by a function that doesn't look at the log, the asks are what they are -/
theorem HB.uniq {f : Nat → Nat → Bool} {ord : List Nat} {place lo high r r' : Nat} {es es' : List Ent} (h : HB ord place lo high es r) (h' : HB ord place lo high es' r') (hT : ∀ e ∈ es, e.c = f e.a e.b) (hT' : ∀ e ∈ es', e.c = f e.a e.b) : es = es' ∧ r = r' := by
  induction h generalizing es' with
  | done low =>
    cases h' with
    | done => exact ⟨rfl, rfl⟩
    | up h _ _ => omega
    | down h _ _ => omega
  | up h ho k ih =>
    have t1 := hT _ (List.mem_cons_self ..)
    cases h' with
    | done => omega
    | up h2 ho2 k2 =>
      rw [ho] at ho2; cases ho2
      obtain ⟨rfl, rfl⟩ := ih k2 (fun e he => hT e (List.mem_cons_of_mem _ he)) fun e he => hT' e (List.mem_cons_of_mem _ he)
      exact ⟨rfl, rfl⟩
    | down h2 ho2 k2 =>
      rw [ho] at ho2; cases ho2
      have t2 := hT' _ (List.mem_cons_self ..)
      have : (!(_ : Bool)) = _ := t2.trans t1.symm
      exact absurd this (by simp)
  | down h ho k ih =>
    have t1 := hT _ (List.mem_cons_self ..)
    cases h' with
    | done => omega
    | down h2 ho2 k2 =>
      rw [ho] at ho2; cases ho2
      obtain ⟨rfl, rfl⟩ := ih k2 (fun e he => hT e (List.mem_cons_of_mem _ he)) fun e he => hT' e (List.mem_cons_of_mem _ he)
      exact ⟨rfl, rfl⟩
    | up h2 ho2 k2 =>
      rw [ho] at ho2; cases ho2
      have t2 := hT' _ (List.mem_cons_self ..)
      have : (!(_ : Bool)) = _ := t1.trans t2.symm
      exact absurd this (by simp)
theorem LP.uniq {f : Nat → Nat → Bool} {ord : List Nat} {place first lo step r r' : Nat} {es es' : List Ent} (h : LP ord place first lo step es r) (h' : LP ord place first lo step es' r') (hT : ∀ e ∈ es, e.c = f e.a e.b) (hT' : ∀ e ∈ es', e.c = f e.a e.b) : es = es' ∧ r = r' := by
  induction h generalizing es' r' with
  | more h ho k ih =>
    have t1 := hT _ (List.mem_cons_self ..)
    cases h' with
    | more h2 ho2 k2 =>
      rw [ho] at ho2; cases ho2
      obtain ⟨rfl, rfl⟩ := ih k2 (fun e he => hT e (List.mem_cons_of_mem _ he)) fun e he => hT' e (List.mem_cons_of_mem _ he)
      exact ⟨rfl, rfl⟩
    | stop h2 ho2 k2 =>
      rw [ho] at ho2; cases ho2
      have t2 := hT' _ (List.mem_cons_self ..)
      have : (!(_ : Bool)) = _ := t2.trans t1.symm
      exact absurd this (by simp)
    | over h2 _ => omega
  | stop h ho k =>
    have t1 := hT _ (List.mem_cons_self ..)
    cases h' with
    | more h2 ho2 k2 =>
      rw [ho] at ho2; cases ho2
      have t2 := hT' _ (List.mem_cons_self ..)
      have : (!(_ : Bool)) = _ := t1.trans t2.symm
      exact absurd this (by simp)
    | stop h2 ho2 k2 =>
      rw [ho] at ho2; cases ho2
      obtain ⟨rfl, rfl⟩ := k.uniq k2 (fun e he => hT e (List.mem_cons_of_mem _ he)) fun e he => hT' e (List.mem_cons_of_mem _ he)
      exact ⟨rfl, rfl⟩
    | over h2 _ => omega
  | over h k =>
    cases h' with
    | more h2 _ _ => omega
    | stop h2 _ _ => omega
    | over _ k2 =>
      obtain ⟨rfl, rfl⟩ := k.uniq k2 hT hT'
      exact ⟨rfl, rfl⟩
theorem side_uniq {f : Nat → Nat → Bool} {L : Bool → List Nat} (hd : ∀ x ∈ L false, ∀ y ∈ L true, x ≠ y) {p : Bool → Nat} {s s' : Bool} {x y x' y' : Nat} (hx : (L s)[p s]? = some x) (hy : (L !s)[p !s]? = some y) (hx' : (L s')[p s']? = some x') (hy' : (L !s')[p !s']? = some y')
    (e1 : (ahE x y).c = f (ahE x y).a (ahE x y).b) (e2 : (ahE x' y').c = f (ahE x' y').a (ahE x' y').b) : s = s' ∧ x = x' ∧ y = y' := by
  by_cases h : s = s'
  · subst h
    rw [hx] at hx'; rw [hy] at hy'
    cases hx'; cases hy'
    exact ⟨rfl, rfl, rfl⟩
  · exfalso
    obtain rfl : s' = !s := by cases s <;> cases s' <;> simp_all
    rw [Bool.not_not] at hy'
    rw [hx] at hy'; rw [hy] at hx'
    cases hy'; cases hx'
    have hne : x ≠ y := by
      cases s
      · exact hd x (List.mem_of_getElem? hx) y (List.mem_of_getElem? hy)
      · exact (hd y (List.mem_of_getElem? hy) x (List.mem_of_getElem? hx)).symm
    simp only [ahE] at e1 e2
    rw [Nat.max_comm, Nat.min_comm] at e2
    have e3 := e1.trans e2.symm
    have e4 := decide_eq_decide.mp e3
    omega
theorem not_out {L : Bool → List Nat} {p : Bool → Nat} {s : Bool} {x y : Nat} (hx : (L s)[p s]? = some x) (hy : (L !s)[p !s]? = some y) : ¬ ((L false).length ≤ p false ∨ (L true).length ≤ p true) := fun h => by
  have h1 := (List.getElem?_eq_some_iff.mp hx).1
  have h2 := (List.getElem?_eq_some_iff.mp hy).1
  cases s
  · simp only [Bool.not_false] at h2; omega
  · simp only [Bool.not_true] at h2; omega
theorem JN.uniq {f : Nat → Nat → Bool} {L : Bool → List Nat} (hd : ∀ x ∈ L false, ∀ y ∈ L true, x ≠ y) {p : Bool → Nat} {last : Bool} {wins : Nat} {es es' : List Ent} {res res' : List Nat} (h : JN L p last wins es res) (h' : JN L p last wins es' res') (hT : ∀ e ∈ es, e.c = f e.a e.b) (hT' : ∀ e ∈ es', e.c = f e.a e.b) : es = es' ∧ res = res' := by
  induction h generalizing es' res' with
  | done h =>
    obtain ⟨rfl, rfl⟩ := h'.out h
    exact ⟨rfl, rfl⟩
  | win s hx hy h k ih =>
    have t1 := hT _ (List.mem_cons_self ..)
    generalize hp : p = p' at h'
    cases h' with
    | done h2 => subst hp; exact absurd h2 (not_out hx hy)
    | win s' hx' hy' h2 k2 =>
      subst hp
      obtain ⟨rfl, rfl, rfl⟩ := side_uniq hd hx hy hx' hy' t1 (hT' _ (List.mem_cons_self ..))
      obtain ⟨rfl, rfl⟩ := ih k2 (fun e he => hT e (List.mem_cons_of_mem _ he)) fun e he => hT' e (List.mem_cons_of_mem _ he)
      exact ⟨rfl, rfl⟩
    | leap s' hx' hy' h2 h3 hL h4 k2 =>
      subst hp
      obtain ⟨rfl, rfl, rfl⟩ := side_uniq hd hx hy hx' hy' t1 (hT' _ (List.mem_cons_self ..))
      exact absurd ⟨h2, h3⟩ h
    | leapA s' hx' hy' h2 h3 hL h4 k2 =>
      subst hp
      obtain ⟨rfl, rfl, rfl⟩ := side_uniq hd hx hy hx' hy' t1 (hT' _ (List.mem_cons_self ..))
      exact absurd ⟨h2, h3⟩ h
  | leap s hx hy h h2 hL h3 k ih =>
    have t1 := hT _ (List.mem_cons_self ..)
    generalize hp : p = p' at h'
    cases h' with
    | done h2 => subst hp; exact absurd h2 (not_out hx hy)
    | win s' hx' hy' h4 k2 =>
      subst hp
      obtain ⟨rfl, rfl, rfl⟩ := side_uniq hd hx hy hx' hy' t1 (hT' _ (List.mem_cons_self ..))
      exact absurd ⟨h, h2⟩ h4
    | leap s' hx' hy' h4 h5 hL' h6 k2 =>
      subst hp
      obtain ⟨rfl, rfl, rfl⟩ := side_uniq hd hx hy hx' hy' t1 (hT' _ (List.mem_cons_self ..))
      obtain ⟨rfl, rfl⟩ := hL.uniq hL' (fun e he => hT e (by simp [he])) fun e he => hT' e (by simp [he])
      obtain ⟨rfl, rfl⟩ := ih k2 (fun e he => hT e (by simp [he])) fun e he => hT' e (by simp [he])
      exact ⟨rfl, rfl⟩
    | leapA s' hx' hy' h4 h5 hL' h6 k2 =>
      subst hp
      obtain ⟨rfl, rfl, rfl⟩ := side_uniq hd hx hy hx' hy' t1 (hT' _ (List.mem_cons_self ..))
      obtain ⟨rfl, rfl⟩ := hL.uniq hL' (fun e he => hT e (by simp [he])) fun e he => hT' e (by simp [he])
      exact absurd h3 h6
  | leapA s hx hy h h2 hL h3 k ih =>
    have t1 := hT _ (List.mem_cons_self ..)
    generalize hp : p = p' at h'
    cases h' with
    | done h2 => subst hp; exact absurd h2 (not_out hx hy)
    | win s' hx' hy' h4 k2 =>
      subst hp
      obtain ⟨rfl, rfl, rfl⟩ := side_uniq hd hx hy hx' hy' t1 (hT' _ (List.mem_cons_self ..))
      exact absurd ⟨h, h2⟩ h4
    | leap s' hx' hy' h4 h5 hL' h6 k2 =>
      subst hp
      obtain ⟨rfl, rfl, rfl⟩ := side_uniq hd hx hy hx' hy' t1 (hT' _ (List.mem_cons_self ..))
      obtain ⟨rfl, rfl⟩ := hL.uniq hL' (fun e he => hT e (by simp [he])) fun e he => hT' e (by simp [he])
      exact absurd h6 h3
    | leapA s' hx' hy' h4 h5 hL' h6 k2 =>
      subst hp
      obtain ⟨rfl, rfl, rfl⟩ := side_uniq hd hx hy hx' hy' t1 (hT' _ (List.mem_cons_self ..))
      obtain ⟨rfl, rfl⟩ := hL.uniq hL' (fun e he => hT e (by simp [he])) fun e he => hT' e (by simp [he])
      obtain ⟨rfl, rfl⟩ := ih k2 (fun e he => hT e (by simp [he])) fun e he => hT' e (by simp [he])
      exact ⟨rfl, rfl⟩
/-! ### one deed alone, by a function of the two places -/
theorem StretchEs.uniq {f : Nat → Nat → Bool} {first end_ a1 a2 : Nat} {f1 f2 : Bool} {e1 e2 : List Ent} (h1 : StretchEs first end_ a1 f1 e1) (h2 : StretchEs first end_ a2 f2 e2) (t1 : ∀ e ∈ e1, e.c = f e.a e.b) (t2 : ∀ e ∈ e2, e.c = f e.a e.b) : a1 = a2 ∧ f1 = f2 ∧ e1 = e2 := by
  have key : ∀ {a : Nat} {b : Bool} {es : List Ent}, StretchEs first end_ a b es → (∀ e ∈ es, e.c = f e.a e.b) → Shape first end_ a b (fun k => f k (k - 1)) ∧ es = esC first end_ a (fun k => f k (k - 1)) := by
    intro at_ fall es k h
    rcases k with ⟨a, b, c, d⟩ | ⟨a, b, d, c, e, f', g⟩
    · refine ⟨.inl ⟨a, b, c⟩, ?_⟩
      unfold esC
      rw [d, show min (at_ + 1) end_ - (first + 1) = 0 by omega]
      rfl
    · have hc : ∀ k, first < k → k < min (at_ + 1) end_ → c k = f k (k - 1) := fun k h1 h2 => by
        have := h ⟨k, k - 1, c k⟩ (by rw [e]; exact List.mem_map.mpr ⟨k, List.mem_range'_1.mpr ⟨by omega, by omega⟩, rfl⟩)
        exact this
      refine ⟨.inr ⟨a, b, d, fun k h1 h2 => ?_, fun h1 => ?_⟩, ?_⟩
      · show f k (k - 1) = fall
        rw [← hc k h1 (by omega)]; exact f' k h1 h2
      · show f at_ (at_ - 1) ≠ fall
        rw [← hc at_ (by omega) (by omega)]; exact g h1
      · rw [e]
        unfold esC
        refine List.map_congr_left fun k hk => ?_
        have := List.mem_range'_1.mp hk
        rw [hc k (by omega) (by omega)]
  obtain ⟨s1, q1⟩ := key h1 t1
  obtain ⟨s2, q2⟩ := key h2 t2
  obtain ⟨rfl, rfl⟩ := s1.uniq s2
  exact ⟨rfl, rfl, q1.trans q2.symm⟩
theorem Deed.uniq {f : Nat → Nat → Bool} {S S1 S2 : PS} {n : Nat} {e1 e2 : List Ent} {d1 d2 : Dd} (h1 : Deed S e1 S1 d1) (h2 : Deed S e2 S2 d2) (ok : S.Ok n) (t1 : ∀ e ∈ e1, e.c = f e.a e.b) (t2 : ∀ e ∈ e2, e.c = f e.a e.b) : e1 = e2 ∧ S1 = S2 ∧ d1 = d2 := by
  cases h1 with
  | @lay found fall es1 es2 res gs hb hc hE hP h0 h1 =>
    cases h2 with
    | @lay found' fall' es1' es2' res' gs' hb' hc' hE' hP' h0' h1' =>
      obtain ⟨rfl, rfl, rfl⟩ := hE.uniq hE' (fun e he => t1 e (List.mem_append_left _ he)) (fun e he => t2 e (List.mem_append_left _ he))
      have hlo := hE.lo
      obtain ⟨rfl, rfl⟩ := hP.uniq hP' (fun e he => t1 e (List.mem_append_right _ he)) (fun e he => t2 e (List.mem_append_right _ he))
      have hg : gs = gs' := by
        cases q : S.newest with
        | none => rw [h0 q, h0' q]
        | some k =>
          obtain ⟨g, a, b⟩ := h1 k q
          obtain ⟨g', a', b'⟩ := h1' k q
          rw [a, a', b.uniq b']
      subst hg
      exact ⟨rfl, rfl, rfl⟩
    | join hi hl hu hJ =>
      rcases hi with ⟨a, _⟩ | ⟨_, a, _⟩
      · exact (hb a).elim
      · omega
  | @join i l u es res hi hl hu hJ =>
    cases h2 with
    | lay hb hc hE hP h0 h1 =>
      rcases hi with ⟨a, _⟩ | ⟨_, a, _⟩
      · exact (hb a).elim
      · omega
    | @join i' l' u' es' res' hi' hl' hu' hJ' =>
      have ei : i = i' := by
        rcases hi with ⟨a, b⟩ | ⟨a, _, _, b⟩
        · rcases hi' with ⟨a', b'⟩ | ⟨a', _⟩
          · omega
          · exact (a' a).elim
        · rcases hi' with ⟨a', b'⟩ | ⟨a', _, _, b'⟩
          · exact (a a').elim
          · omega
      subst ei
      rw [hl] at hl'
      rw [hu] at hu'
      cases hl'
      cases hu'
      obtain ⟨q1, q2, q3, q4, q5⟩ := ok.ends.two hl hu
      obtain ⟨rfl, rfl⟩ := hJ.uniq (L := LR l.o u.o) (spn_dis (ok.perm l (List.mem_of_getElem? hl)) (ok.perm u (List.mem_of_getElem? hu)) q2 q1) hJ' t1 t2
      exact ⟨rfl, rfl, rfl⟩
theorem PS.done.no {S S' : PS} {es : List Ent} {d : Dd} (h : S.done) (k : Deed S es S' d) : False := by
  obtain ⟨a, b⟩ := h
  cases k with
  | lay hb hc => omega
  | join hi hl hu =>
    rcases hi with ⟨q, _⟩ | ⟨_, _, q, _⟩
    · have := q.1; omega
    · omega
theorem Run.uniq {f : Nat → Nat → Bool} {S S1 S2 : PS} {n : Nat} {e1 e2 : List Ent} (h1 : Run S e1 S1) (h2 : Run S e2 S2) (ok : S.Ok n) (d1 : S1.done) (d2 : S2.done) (t1 : ∀ e ∈ e1, e.c = f e.a e.b) (t2 : ∀ e ∈ e2, e.c = f e.a e.b) : e1 = e2 ∧ S1 = S2 := by
  induction h1 generalizing e2 with
  | nil =>
    cases h2 with
    | nil => exact ⟨rfl, rfl⟩
    | step h _ => exact (d1.no h).elim
  | @step S S3 S4 es1 es2 d h k ih =>
    cases h2 with
    | nil => exact (d2.no h).elim
    | @step _ S5 _ es3 es4 d' h' k' =>
      obtain ⟨rfl, rfl, _⟩ := h.uniq h' ok (fun e he => t1 e (List.mem_append_left _ he)) (fun e he => t2 e (List.mem_append_left _ he))
      obtain ⟨rfl, rfl⟩ := ih k' (h.ok ok) d1 (fun e he => t1 e (List.mem_append_right _ he)) (fun e he => t2 e (List.mem_append_right _ he))
      exact ⟨rfl, rfl⟩
/-! ### a pile by keys: what stands is in order, and was asked about -/
theorem ahE_ahd {ks : List Int} {u v : Nat} (hne : u ≠ v) (h : (ahE u v).c = decide (getE ks (ahE u v).a < getE ks (ahE u v).b)) : Ahd ks u v := (ahd_told hne).mp h.symm
theorem ahd_ahE {ks : List Int} {u v : Nat} (hne : u ≠ v) (h : Ahd ks u v) : decide (getE ks (max u v) < getE ks (min u v)) = decide (v < u) := (ahd_told hne).mpr h
theorem Ahd.ne {ks : List Int} {u v : Nat} (h : Ahd ks u v) : u ≠ v := by rintro rfl; exact h.asym h
theorem JN.sorted {ks : List Int} {L : Bool → List Nat} (hd : ∀ x ∈ L false, ∀ y ∈ L true, x ≠ y) (hs : ∀ b, (L b).Pairwise (Ahd ks)) {p : Bool → Nat} {last : Bool} {wins : Nat} {es : List Ent} {res : List Nat} (h : JN L p last wins es res)
    (hT : ∀ e ∈ es, e.c = decide (getE ks e.a < getE ks e.b)) : res.Pairwise (Ahd ks) := by
  refine ch_pw (R := Ahd ks) (fun a b c h1 h2 => Ahd.trans h1 h2) ((h.chain hd).mono fun u v hn => ?_)
  rcases hn with ⟨b, i, hu, hv⟩ | he
  · exact ch_at (pw_ch (hs b)) i u v hu hv
  · have hg : min u v < max u v := h.gt hd _ he
    exact ahE_ahd (by omega) (hT _ he)
/-! ### where the asks of a join come from -/
theorem HB.src {ord : List Nat} {place lo high r : Nat} {es : List Ent} (h : HB ord place lo high es r) : ∀ e ∈ es, ∃ o ∈ ord, e.a = max o place ∧ e.b = min o place := by
  induction h with
  | done lo => simp
  | @up lo high o es r h ho k ih => intro e he; rcases List.mem_cons.mp he with rfl | he; exact ⟨o, List.mem_of_getElem? ho, rfl, rfl⟩; exact ih e he
  | @down lo high o es r h ho k ih => intro e he; rcases List.mem_cons.mp he with rfl | he; exact ⟨o, List.mem_of_getElem? ho, rfl, rfl⟩; exact ih e he
theorem LP.src {ord : List Nat} {place first lo step r : Nat} {es : List Ent} (h : LP ord place first lo step es r) : ∀ e ∈ es, ∃ o ∈ ord, e.a = max o place ∧ e.b = min o place := by
  induction h with
  | @more lo step o es r h ho k ih => intro e he; rcases List.mem_cons.mp he with rfl | he; exact ⟨o, List.mem_of_getElem? ho, rfl, rfl⟩; exact ih e he
  | @stop lo step o es r h ho k => intro e he; rcases List.mem_cons.mp he with rfl | he; exact ⟨o, List.mem_of_getElem? ho, rfl, rfl⟩; exact k.src e he
  | over h k => exact k.src
theorem JN.src {L : Bool → List Nat} {p : Bool → Nat} {last : Bool} {wins : Nat} {es : List Ent} {res : List Nat} (h : JN L p last wins es res) : ∀ e ∈ es, ∃ (b : Bool), ∃ x ∈ L b, ∃ y ∈ L !b, e.a = max x y ∧ e.b = min x y := by
  induction h with
  | done h => simp
  | @win p last wins s x y es res hx hy h k ih =>
    intro e he
    rcases List.mem_cons.mp he with rfl | he
    · exact ⟨s, x, List.mem_of_getElem? hx, y, List.mem_of_getElem? hy, rfl, rfl⟩
    · exact ih e he
  | @leap p last wins s x y g es1 es res hx hy h h2 hL h3 k ih =>
    intro e he
    rcases List.mem_cons.mp he with rfl | he
    · exact ⟨s, x, List.mem_of_getElem? hx, y, List.mem_of_getElem? hy, rfl, rfl⟩
    rcases List.mem_append.mp he with he | he
    · obtain ⟨o, ho, e1, e2⟩ := hL.src e he
      exact ⟨s, o, ho, y, List.mem_of_getElem? hy, e1, e2⟩
    · exact ih e he
  | @leapA p last wins s x y g es1 es res hx hy h h2 hL h3 k ih =>
    intro e he
    rcases List.mem_cons.mp he with rfl | he
    · exact ⟨s, x, List.mem_of_getElem? hx, y, List.mem_of_getElem? hy, rfl, rfl⟩
    rcases List.mem_append.mp he with he | he
    · obtain ⟨o, ho, e1, e2⟩ := hL.src e he
      exact ⟨s, o, ho, y, List.mem_of_getElem? hy, e1, e2⟩
    · exact ih e he
theorem PO.ent {n p lo : Nat} {ord res : List Nat} {es : List Ent} (h : PO n p ord es res) (hlt : ∀ o ∈ ord, lo ≤ o ∧ o < p) (hp : lo ≤ p) : ∀ e ∈ es, e.b < e.a ∧ lo ≤ e.b ∧ e.a < n := by
  induction h with
  | done h => simp
  | @put p r ord res es1 es h k kk ih =>
    intro e he
    rcases List.mem_append.mp he with he | he
    · obtain ⟨h1, h2⟩ := k.ent (fun o ho => (hlt o ho).2) e he
      have := hlt _ h2
      omega
    · refine ih (fun o ho => ?_) (by omega) e he
      rcases List.mem_cons.mp (ins_perm.mem_iff.mp ho) with rfl | ho
      · omega
      · have := hlt o ho; omega
theorem StretchEs.ent {first end_ at_ : Nat} {fall : Bool} {es : List Ent} (h : StretchEs first end_ at_ fall es) : ∀ e ∈ es, e.b < e.a ∧ first ≤ e.b ∧ e.a < end_ := by
  rcases h with ⟨h1, h2, h3, h4⟩ | ⟨h1, h2, h3, c, h4, h5, h6⟩
  · subst h4; simp
  · subst h4
    intro e he
    obtain ⟨k, hk, rfl⟩ := List.mem_map.mp he
    have := List.mem_range'_1.mp hk
    exact ⟨by show k - 1 < k; omega, by show first ≤ k - 1; omega, by show k < end_; omega⟩
/-- whatever is told: asks are of a later place against an earlier one, within the part -/
theorem Deed.ent {S S' : PS} {n : Nat} {es : List Ent} {d : Dd} (h : Deed S es S' d) (ok : S.Ok n) : ∀ e ∈ es, e.b < e.a ∧ S.low ≤ e.b ∧ e.a < S.end_ := by
  have hlc := ok.lc
  cases h with
  | @lay found fall es1 es2 res gs hb hc hE hP h0 h1 =>
    have hlo := hE.lo
    have hbg := bey_gt (least := S.least) hlo.1 hlo.2.1
    intro e he
    rcases List.mem_append.mp he with he | he
    · have := hE.ent e he; omega
    · have := hP.ent (lo := S.come) (fun o ho => by have := trn_mem.mp ho; omega) (by omega) e he; omega
  | @join i l u es res hi hl hu hJ =>
    obtain ⟨e1, e2, e3, e4, e5⟩ := ok.ends.two hl hu
    have hpl := ok.perm l (List.mem_of_getElem? hl)
    have hpu := ok.perm u (List.mem_of_getElem? hu)
    have hce := ok.ce
    have hd := spn_dis hpl hpu e2 e1
    intro e he
    have hgt := hJ.gt (L := LR l.o u.o) hd e he
    obtain ⟨b, x, hx, y, hy, ea, eb⟩ := hJ.src e he
    have hin : ∀ (b : Bool) (x : Nat), x ∈ LR l.o u.o b → l.f ≤ x ∧ x < u.b := fun b x hx => by
      cases b
      · have := List.mem_range'_1.mp (hpl.mem_iff.mp hx); omega
      · have := List.mem_range'_1.mp (hpu.mem_iff.mp hx); omega
    have h1 := hin _ x hx
    have h2 := hin _ y hy
    omega
structure Srtd (ks : List Int) (S : PS) (log : List Ent) : Prop where
  pw : ∀ s ∈ S.sp, s.o.Pairwise (Ahd ks)
  ask : ∀ s ∈ S.sp, Asked log s.o
theorem Asked.mono {log log' : List Ent} {o : List Nat} (h : Asked log o) (k : ∀ e ∈ log, e ∈ log') : Asked log' o := fun i u v hu hv => by
  obtain ⟨e, he, q⟩ := h i u v hu hv
  exact ⟨e, k e he, q⟩
theorem Srtd.init {ks : List Int} {least low end_ : Nat} : Srtd ks (PS.init least low end_) [] := ⟨by simp [PS.init], by simp [PS.init]⟩
theorem Deed.srtd {ks : List Int} {S S' : PS} {n : Nat} {log es : List Ent} {d : Dd} (h : Deed S es S' d) (ok : S.Ok n) (st : Srtd ks S log) (hT : ∀ e ∈ es, e.c = decide (getE ks e.a < getE ks e.b)) : Srtd ks S' (log ++ es) := by
  cases h with
  | @lay found fall es1 es2 res gs hb hc hE hP h0 h1 =>
    have hlo := hE.lo
    have hbg := bey_gt (least := S.least) hlo.1 hlo.2.1
    obtain ⟨hk, he1⟩ := hE.keys fun e he => hT e (List.mem_append_left _ he)
    have hs := hP.sof hk.sof hbg.2.2 fun e he => hT e (List.mem_append_right _ he)
    rw [← he1] at hs
    refine ⟨fun s hs' => ?_, fun s hs' => ?_⟩
    · rcases List.mem_append.mp hs' with h | h
      · exact st.pw s h
      · rw [List.mem_singleton] at h; subst h; exact hs.pw
    · rcases List.mem_append.mp hs' with h | h
      · exact (st.ask s h).mono fun e he => List.mem_append_left _ he
      · rw [List.mem_singleton] at h; subst h; exact hs.ask.mono fun e he => List.mem_append_right _ he
  | @join i l u es res hi hl hu hJ =>
    obtain ⟨e1, e2, e3, e4, e5⟩ := ok.ends.two hl hu
    have ml := List.mem_of_getElem? hl
    have mu := List.mem_of_getElem? hu
    have hd := spn_dis (ok.perm l ml) (ok.perm u mu) e2 e1
    have hpw : res.Pairwise (Ahd ks) := hJ.sorted (L := LR l.o u.o) hd (fun b => by cases b; exact st.pw l ml; exact st.pw u mu) hT
    have hask : Asked (log ++ es) res := fun j a b ha hb => by
      rcases ch_at (hJ.chain (L := LR l.o u.o) hd) j a b ha hb with ⟨c, k, h1, h2⟩ | he
      · have : Asked log (LR l.o u.o c) := by cases c; exact st.ask l ml; exact st.ask u mu
        obtain ⟨e, he, q⟩ := this k a b h1 h2
        exact ⟨e, List.mem_append_left _ he, q⟩
      · exact ⟨ahE a b, List.mem_append_right _ he, rfl, rfl⟩
    have mem : ∀ s ∈ (joinS S i l u res).sp, s ∈ S.sp ∨ s = ⟨l.f, u.b, res⟩ := fun s hs => by
      rcases List.mem_append.mp hs with h | h
      · rcases List.mem_append.mp h with h | h
        · exact .inl (List.mem_of_mem_take h)
        · exact .inr (List.mem_singleton.mp h)
      · exact .inl (List.mem_of_mem_drop h)
    refine ⟨fun s hs => ?_, fun s hs => ?_⟩
    · rcases mem s hs with h | h
      · exact st.pw s h
      · rw [h]; exact hpw
    · rcases mem s hs with h | h
      · exact (st.ask s h).mono fun e he => List.mem_append_left _ he
      · rw [h]; exact hask
theorem Run.ent {S S' : PS} {n : Nat} {es : List Ent} (h : Run S es S') (ok : S.Ok n) : ∀ e ∈ es, e.b < e.a ∧ S.low ≤ e.b ∧ e.a < S.end_ := by
  induction h with
  | nil => simp
  | @step S S1 S2 e1 e2 d h _ ih =>
    intro e he
    rcases List.mem_append.mp he with he | he
    · exact h.ent ok e he
    · obtain ⟨a, b, _, _⟩ := h.same
      have := ih (h.ok ok) e he
      rw [a, b] at this
      exact this
theorem Run.srtd {ks : List Int} {S S' : PS} {n : Nat} {log es : List Ent} (h : Run S es S') (ok : S.Ok n) (st : Srtd ks S log) (hT : ∀ e ∈ es, e.c = decide (getE ks e.a < getE ks e.b)) : Srtd ks S' (log ++ es) := by
  induction h generalizing log with
  | nil => rw [List.append_nil]; exact st
  | @step S S1 S2 e1 e2 d h _ ih =>
    rw [← List.append_assoc]
    exact ih (h.ok ok) (h.srtd ok st fun e he => hT e (List.mem_append_left _ he)) fun e he => hT e (List.mem_append_right _ he)
/-- a pile that is done: its paper is the order -/
theorem Srtd.paper {ks : List Int} {S : PS} {n : Nat} {log : List Ent} (st : Srtd ks S log) (ok : S.Ok n) (hd : S.done) : S.paper.Pairwise (Ahd ks) ∧ Asked log S.paper := by
  obtain ⟨h1, h2⟩ := hd
  unfold PS.paper
  rw [show S.end_ - S.come = 0 by omega]
  cases e : S.sp with
  | nil => simp [Asked]
  | cons s r =>
    rw [e, List.length_cons] at h2
    have : r = [] := List.length_eq_zero_iff.mp (by omega)
    subst this
    have hm : s ∈ S.sp := by rw [e]; simp
    simp only [List.map_cons, List.map_nil, List.flatten_cons, List.flatten_nil, List.append_nil, List.range'_zero]
    exact ⟨st.pw s hm, st.ask s hm⟩
/-! ### an asker made: Asker(row, AskedRule(_law_first)) -/
structure Mk (K : PySem.W.Frag) (A : Ad) (H : Hp) (row : List V) (ks : List Int) (m : Option Nat) (I : Ask) (H' : Hp) : Prop where
  at_ : I.At K A H' []
  e2 : I.ks = ks
  e3 : I.pre = []
  e4 : I.row = row
  e5 : I.m = m
  stp : Stp [] H H'
  new : ∀ a ∈ I.own, H a = none
theorem Mk.n {K : PySem.W.Frag} {A : Ad} {H : Hp} {row : List V} {ks : List Int} {m : Option Nat} {I : Ask} {H' : Hp} (h : Mk K A H row ks m I H') : I.n = ks.length := by unfold Ask.n; rw [h.e2]
theorem Mk.lt {K : PySem.W.Frag} {A : Ad} {H : Hp} {row : List V} {ks : List Int} {m : Option Nat} {I : Ask} {H' : Hp} (h : Mk K A H row ks m I H') : I.or = fun _ p q => decide (getE ks p < getE ks q) := by unfold Ask.or Ask.lt; rw [h.e2]
theorem askmake {K : PySem.W.Frag} {A : Ad} {σ : L2.St} {H : Hp} {Q : VK} {i : Nat} {rq : Addr} {row : List V} {ks : List Int} {m : Option Nat} {us dvs : List V} {ta : TA}
    (hi : σ[i]? = some (some (.ref rq))) (hR : H rq = some (.lst row)) (hrow : RowP H row ks) (few : row.length ≤ 100000) (hta : ∀ (H : Hp) (Q : List V → Hp → Prop), Q us H → ta σ H Q) (e : us ++ dvs = [mV m])
    (k : ∀ H' I, Mk K A H row ks m I H' → Q (.ref I.s) H') :
    tMake A.Asker (sp_Asker___init__ K A) dvs L2.E0 (tCons (tVar i) (tCons (tMake A.AskedRule (sp_AskedRule___init__ K A) [] L2.E0 (tCons (tC (.ref A.f__law_first)) tNil)) ta)) σ H Q := by
  walk_at "rd"
  refine SH.r_var hi ?_
  walk_at "rd"
  intro u du hu hdu hne
  refine ⟨u, .ref A.f__law_first, rfl, ⟨du, upd_same⟩, fun dx => ⟨rfl, ?_⟩⟩
  rw [upd_upd]
  have S7 : Stp [] H (upd (upd H du (.own u)) u (.ins A.AskedRule dx [("teller", .ref A.f__law_first)])) := ((Stp.refl [] H).new hdu).putN hu
  have hu7 : upd (upd H du (.own u)) u (.ins A.AskedRule dx [("teller", .ref A.f__law_first)]) u = some (.ins A.AskedRule dx [("teller", .ref A.f__law_first)]) := upd_same
  generalize upd (upd H du (.own u)) u (.ins A.AskedRule dx [("teller", .ref A.f__law_first)]) = H7 at S7 hu7 ⊢
  have hR7 := S7.keep0 hR
  have hrow7 := hrow.stp S7
  walk_at "rd"
  refine hta _ _ ?_
  intro s dx' hs hdx hne
  have S8 : Stp [] H7 (upd (upd H7 dx' (.own s)) s (.ins A.Asker dx' [])) := ((Stp.refl [] H7).new hdx).new (by rw [upd_ne hne.symm]; exact hs)
  refine ⟨s, rq, .ref u, row, m, by rw [← e]; rfl, ⟨dx', upd_same⟩, ⟨S8.sql0 (SqL.of hR7), few⟩, fun dx2 r l H9 hr hl hlr hsr hsl S9 hs9 hr9 hl9 => ⟨rfl, ?_⟩⟩
  have S79 : Stp [] H7 H9 := S8.then S9 (by simp; exact hs)
  have hl0 : H7 l = none := S8.dom l hl
  have hr0 : H7 r = none := S8.dom r hr
  have hA : Ask.At ⟨s, r, l, dx2, u, dx, ks, row, [], m⟩ K A H9 [] :=
    ⟨hs9, hr9, ⟨[], hl9, isl_nil⟩, S79.keep0 hu7, hrow7.stp S79, (ne_of_none hu7 hs).symm, hlr, by simp, few, fun _ _ => Nat.zero_le _⟩
  refine k H9 ⟨s, r, l, dx2, u, dx, ks, row, [], m⟩ ⟨hA, rfl, rfl, rfl, rfl, S7.trans S79, fun a ha => ?_⟩
  simp only [Ask.own, List.mem_cons, List.not_mem_nil, or_false] at ha
  rcases ha with rfl | rfl | rfl | rfl
  · exact S7.dom _ hs
  · exact S7.dom _ hl0
  · exact S7.dom _ hr0
  · exact hu
theorem askmakeP {K : PySem.W.Frag} {A : Ad} {σ : L2.St} {H : Hp} {Q : VK} {i : Nat} {rq : Addr} {row : List V} {ks : List Int} (P : Option Nat → Prop) {dvs : List V} {ta : TA}
    (hi : σ[i]? = some (some (.ref rq))) (hR : H rq = some (.lst row)) (hrow : RowP H row ks) (few : row.length ≤ 100000) (hta : ∀ (H' : Hp) (Q : List V → Hp → Prop), Stp [] H H' → (∀ m us, P m → us ++ dvs = [mV m] → Q us H') → ta σ H' Q)
    (k : ∀ m H' I, P m → Mk K A H row ks m I H' → Q (.ref I.s) H') :
    tMake A.Asker (sp_Asker___init__ K A) dvs L2.E0 (tCons (tVar i) (tCons (tMake A.AskedRule (sp_AskedRule___init__ K A) [] L2.E0 (tCons (tC (.ref A.f__law_first)) tNil)) ta)) σ H Q := by
  walk_at "rd"
  refine SH.r_var hi ?_
  walk_at "rd"
  intro u du hu hdu hne
  refine ⟨u, .ref A.f__law_first, rfl, ⟨du, upd_same⟩, fun dx => ⟨rfl, ?_⟩⟩
  rw [upd_upd]
  have S7 : Stp [] H (upd (upd H du (.own u)) u (.ins A.AskedRule dx [("teller", .ref A.f__law_first)])) := ((Stp.refl [] H).new hdu).putN hu
  have hu7 : upd (upd H du (.own u)) u (.ins A.AskedRule dx [("teller", .ref A.f__law_first)]) u = some (.ins A.AskedRule dx [("teller", .ref A.f__law_first)]) := upd_same
  generalize upd (upd H du (.own u)) u (.ins A.AskedRule dx [("teller", .ref A.f__law_first)]) = H7 at S7 hu7 ⊢
  have hR7 := S7.keep0 hR
  have hrow7 := hrow.stp S7
  walk_at "rd"
  refine hta _ _ S7 fun m us hPm e => ?_
  intro s dx' hs hdx hne
  have S8 : Stp [] H7 (upd (upd H7 dx' (.own s)) s (.ins A.Asker dx' [])) := ((Stp.refl [] H7).new hdx).new (by rw [upd_ne hne.symm]; exact hs)
  refine ⟨s, rq, .ref u, row, m, by rw [← e]; rfl, ⟨dx', upd_same⟩, ⟨S8.sql0 (SqL.of hR7), few⟩, fun dx2 r l H9 hr hl hlr hsr hsl S9 hs9 hr9 hl9 => ⟨rfl, ?_⟩⟩
  have S79 : Stp [] H7 H9 := S8.then S9 (by simp; exact hs)
  have hl0 : H7 l = none := S8.dom l hl
  have hr0 : H7 r = none := S8.dom r hr
  have hA : Ask.At ⟨s, r, l, dx2, u, dx, ks, row, [], m⟩ K A H9 [] :=
    ⟨hs9, hr9, ⟨[], hl9, isl_nil⟩, S79.keep0 hu7, hrow7.stp S79, (ne_of_none hu7 hs).symm, hlr, by simp, few, fun _ _ => Nat.zero_le _⟩
  refine k m H9 ⟨s, r, l, dx2, u, dx, ks, row, [], m⟩ hPm ⟨hA, rfl, rfl, rfl, rfl, S7.trans S79, fun a ha => ?_⟩
  simp only [Ask.own, List.mem_cons, List.not_mem_nil, or_false] at ha
  rcases ha with rfl | rfl | rfl | rfl
  · exact S7.dom _ hs
  · exact S7.dom _ hl0
  · exact S7.dom _ hr0
  · exact hu
theorem PO.few5 {n p first : Nat} {ord res : List Nat} {es : List Ent} (h : PO n p ord es res) (hl : first + ord.length = p) (hn : n ≤ first + 32) : es.length ≤ (n - p) * 5 := by
  induction h with
  | done h => simp
  | @put p r ord res es1 es h k kk ih =>
    have h1 := k.few
    have hb : Builtin.Int.intBits ((ord.length - 0 : Nat) : Int) ≤ 5 := bits_le (by omega) (by omega)
    have h2 := ih (by rw [ins_perm.length_eq, List.length_cons]; omega)
    rw [List.length_append, show n - p = n - (p + 1) + 1 by omega, Nat.add_mul]
    omega
theorem Deed.few {S S' : PS} {n : Nat} {es : List Ent} {d : Dd} (h : Deed S es S' d) (ok : S.Ok n) (hn : n ≤ 24) : es.length ≤ 200 := by
  have hce := ok.ce
  have hen := ok.en
  have hle := ok.ends.le
  cases h with
  | @lay found fall es1 es2 res gs hb hc hE hP h0 h1 =>
    have hlo := hE.lo
    have hbg := bey_gt (least := S.least) hlo.1 hlo.2.1
    have h2 := hP.few5 (first := S.come) (by rw [trn_len]; omega) (by omega)
    rw [List.length_append]
    have : (bey S.come S.least S.end_ found - found) * 5 ≤ 24 * 5 := Nat.mul_le_mul_right _ (by omega)
    omega
  | @join i l u es res hi hl hu hJ =>
    obtain ⟨e1, e2, e3, e4, e5⟩ := ok.ends.two hl hu
    have hpl := ok.perm l (List.mem_of_getElem? hl)
    have hpu := ok.perm u (List.mem_of_getElem? hu)
    have ll := hpl.length_eq
    have lu := hpu.length_eq
    rw [List.length_range'] at ll lu
    have hc := hJ.count (by omega) (by
      rintro (z | z)
      · have : l.o.length ≤ 0 := z
        omega
      · have : u.o.length ≤ 0 := z
        omega)
    have hr := hJ.perm.length_eq
    have : res.length = l.o.length + u.o.length := by
      rw [hr]
      show ((l.o.drop 0) ++ (u.o.drop 0)).length = _
      simp
    omega
theorem PIL.At.wide {R : PIL} {A : Ad} {I : Ask} {H : Hp} {S : PS} {n : Nat} (h : R.At A I H S) : R.At A (I.wide n) H S := ⟨h.hp, h.hs, h.hg, h.sp, h.own, h.ne, h.no⟩
theorem PIL.At.unwide {R : PIL} {A : Ad} {I : Ask} {H : Hp} {S : PS} {n : Nat} (h : R.At A (I.wide n) H S) : R.At A I H S := ⟨h.hp, h.hs, h.hg, h.sp, h.own, h.ne, h.no⟩
theorem prefix_of {es es' fs : List Ent} (h : es ++ es' = fs) (hn : es' ≠ []) : es.length < fs.length := by
  have := List.length_pos_iff.mpr hn
  rw [← h, List.length_append]; omega
theorem wide_wide {I : Ask} {a b : Nat} : (I.wide a).wide b = I.wide (a + b) := by
  unfold Ask.wide
  congr 1
  cases h : I.m with
  | none => rfl
  | some m => show some (m + a + b) = some (m + (a + b)); rw [Nat.add_assoc]
theorem wide_zero {I : Ask} : I.wide 0 = I := by
  unfold Ask.wide
  cases I with
  | mk s r l dx u du ks row pre m => cases m <;> rfl
theorem isl_ofat {α : Type} [Enc α] {K : PySem.W.Frag} {H : Hp} : ∀ {vs : List V} {xs : List α}, vs.length = xs.length → (∀ (i : Nat) (v : V) (x : α), vs[i]? = some v → xs[i]? = some x → SH.Is K H v x) → SH.IsL K H vs xs
  | [], [], _, _ => isl_nil
  | [], _ :: _, h, _ => by simp at h
  | _ :: _, [], h, _ => by simp at h
  | v :: vs, x :: xs, h, k => isl_cons (k 0 v x rfl rfl) (isl_ofat (by simpa using h) fun i v' x' hv hx => k (i + 1) v' x' (by rw [List.getElem?_cons_succ]; exact hv) (by rw [List.getElem?_cons_succ]; exact hx))
theorem std_is {K : PySem.W.Frag} {H : Hp} {S : PS} {tas : List Addr} (hl : tas.length = (stds S).length) (h : ∀ (i : Nat) (t : Addr) (x : T3 Nat Nat Nat), tas[i]? = some t → (stds S)[i]? = some x → H t = some (.tup [.int x.a, .int x.b, .int x.c])) : IsL K H (tas.map V.ref) (stds S) :=
  isl_ofat (by rw [List.length_map, hl]) fun i v x hv hx => by
    rw [List.getElem?_map] at hv
    obtain ⟨t, ht, rfl⟩ := Option.map_eq_some_iff.mp hv
    exact is_t3 (SqT.of (h i t x ht hx)) is_nat is_nat is_nat
theorem shaped_two {α β : Type} [Enc α] [Enc β] (x : α) (y : β) (hx : Enc.n α ≤ 60) (hy : Enc.n β ≤ 60) : SeqAt.shaped (.list [Enc.d x, Enc.d y]) = true := by
  have h1 := Enc.deep x
  have h2 := Enc.deep y
  have h3 := Enc.lay x
  have h4 := Enc.lay y
  unfold SeqAt.shaped
  rw [Bool.and_eq_true]
  constructor
  · simp [PyData.canLay0, PyData.canLayAll0, h3, h4]
  · refine decide_eq_true ?_
    simp only [PyData.depth, PyData.depthAll]
    omega
def sp__law_stepped (K : PySem.W.Frag) (A : Ad) : Sp := fun vs H Q _ => ∃ (R : PIL) (I : Ask) (log : List Ent) (S : PS) (more m0 : Nat), vs = [.ref R.p, .ref I.s, .int more] ∧
  (R.At A I H S ∧ I.At K A H log ∧ S.Ok I.n ∧ I.n ≤ 24 ∧ I.m = some m0 ∧ log.length + I.pre.length ≤ 40000) ∧
  (S.done → ∀ (H' : Hp) (w : Nat) (log' : List Ent), log'.length ≤ log.length + 600 → Stp I.M H H' → (I.wide w).At K A H' log' → Q .non H') ∧
  ∀ (H' : Hp) (t : Addr) (R' : PIL) (w : Nat) (S' : PS) (es log' : List Ent) (d : Dd), R'.p = R.p → (∀ a ∈ R'.own, a ∈ R.own ∨ H a = none) → Deed S es S' d → (∀ e ∈ es, e.c = I.lt e.a e.b) → log'.length ≤ log.length + 600 → Stp (R.M I) H H' → (I.wide w).At K A H' log' → R'.At A I H' S' → H t = none → H' t = some (.tup [.str d.w, .int d.a, .int d.b, .int d.c]) → Q (.ref t) H'
theorem ok__law_stepped {P : Program} {w : World} {K : PySem.W.Frag} {mg : Str → Option Value} {base : Heap} {A : Ad} {f : Addr} {fd : FuncData} (F : Fun K "_law_stepped" "_law_stepped" s__law_stepped f fd) (T : Txt K mg A) (M_Asker_widen : SH.CalM P w K mg base CX0 1 A.Asker "widen" [] (sp_Asker_widen K A)) (M_Pile_paper : SH.CalM P w K mg base CX0 1 A.Pile "paper" [] (sp_Pile_paper K A)) (M_Pile_standing : SH.CalM P w K mg base CX0 1 A.Pile "standing" [] (sp_Pile_standing K A)) (M_Pile_step : SH.CalM P w K mg base (L2N.CX P w) 9 A.Pile "step" [] (sp_Pile_step K A)) : FnOk P w K mg base CX0 10 f fd ["_law_pile", "_law_asker", "_law_more"] (sp__law_stepped K A) := by
  refine F.ok sc__law_stepped (fun vs H Q E h => by obtain ⟨_, _, _, _, _, _, rfl, _⟩ := h; rfl) (fun cdv A' outer s H vs Q E hr h => ?_)
  obtain ⟨R, I, log, S, more, m0, rfl, ⟨hR, hA, ok, hn, hm0, hlog⟩, k0, k⟩ := h
  refine ⟨_, (pss_cons (ps_set (i := 3) sc__law_stepped.nd rfl (Or.inl rfl) (pe_lst (pa_cons (pe_callTy SH.cListOf (by rfl) T.z_list (by decide +kernel) (pa_cons (SH.pe_methF0 (pv 0) M_Pile_standing hr pass0) pa_nil)) (pa_cons (pe_callTy SH.cListOf (by rfl) T.z_list (by decide +kernel) (pa_cons (SH.pe_methF0 (pv 0) M_Pile_paper hr pass0) pa_nil)) pa_nil))))
        (pss_cons (ps_for PassesOwn.never rfl (pi_list (pe_lst (pa_cons (pv 2) (pa_cons pe_int pa_nil)))) (pg_name (i := 4) sc__law_stepped.nd rfl (Or.inl rfl)) (pss_cons (L2N.ps_try_as (i := 5) rfl rfl sc__law_stepped.nd rfl rfl ⟨rfl, by decide, .inl T.g_Spent⟩ SH.takes0N (fun W pn xe tk po => (pss_one (ps_ret (SH.pe_methX0 (pv 0) M_Pile_step hr (fun σ => L2N.passAt tk σ))))) (fun a oe cls d pn hz hf => (pss_one (ps_if (PW.pt (pw_or (pt_cmpR (SH.opK SH.aNe K (SH.oNe hr.units)) (L2.pe_xf (SH.xfOf T.ec_Spent) T.na_Spent_asked (L2N.Zn.zc hz) hf (pv 5)) (SH.pe_fldF T.cl_Asker T.na_Asker_asked (pv 1)) (nomark _)) (pw_or1 (pt_cmpR (SH.opK SH.aNe K (SH.oNe hr.units)) (SH.pe_fldF T.cl_Asker T.na_Asker_asked (pv 1)) (SH.pe_fldF T.cl_Asker T.na_Asker_most (pv 1)) (nomark _))))) (pss_one (ps_ret (pe_tup (pa_cons pe_str pa_nil)))) pss_nil))))
        (pss_cons (ps_if (pt_cmpR (SH.oNe hr.units) (pe_lst (pa_cons (SH.pe_methF0 (pv 0) M_Pile_standing hr pass0) (pa_cons (SH.pe_methF0 (pv 0) M_Pile_paper hr pass0) pa_nil))) (pv 3) (nomark _)) (pss_one (ps_ret (pe_tup (pa_cons pe_str pa_nil)))) pss_nil)
        (pss_one (ps_expr (SH.pe_methF (pv 1) M_Asker_widen hr pass0 (pa_cons (pv 4) pa_nil)))))))
        (pss_one (ps_ret (SH.pe_methF0 (pv 0) M_Pile_step hr SH.passLN))))), ?_⟩
  walk_at "begin"
  have hp := hR.hp
  have hn2 : I.n * I.n ≤ 24 * 24 := Nat.mul_le_mul hn hn
  walk_at "rd"
  refine ⟨R, I, S, rfl, ⟨hR, ok, by omega⟩, fun H1 q1 tas hq1 S1 hq11 htas htal hst => ?_⟩
  have hR1 := hR.stp S1 (by simp)
  have hA1 := hA.stp S1 (by simp)
  have hI1 := std_is (K := K) htal hst
  have hp1 := hR1.hp
  clear hR hA hp hst htal htas
  walk_at "rd"
  intro a1 ha1
  have m1 := hA1.fresh ha1
  have S2 := S1.new (o := .lst (tas.map V.ref)) ha1
  have S12 := (Stp.refl [] H1).new (o := .lst (tas.map V.ref)) ha1
  have hR2 := hR1.stp S12 (by simp)
  have hA2 := hA1.stp S12 (by simp)
  have hI2 := isl_stp S12 hI1
  have ha12 := upd_same (H := H1) (a := a1) (o := .lst (tas.map V.ref))
  generalize upd H1 a1 (.lst (tas.map V.ref)) = H2 at S2 S12 hR2 hA2 hI2 ha12 ⊢
  have hp2 := hR2.hp
  clear S1 S12 hR1 hA1 hI1 hp1 hq11 ha1
  walk_at "rd"
  refine ⟨R, I, S, rfl, ⟨hR2, ok, by omega⟩, fun H3 q2 hq2 S3 hq22 => ?_⟩
  walk_at "rd"
  intro a2 ha2
  have m2 := (hA2.stp S3 (by simp)).fresh ha2
  have S23 := S3.new (o := .lst (nv S.paper)) ha2
  have hR3 := hR2.stp S23 (by simp)
  have hA3 := hA2.stp S23 (by simp)
  have hI3 := isl_stp S23 hI2
  have ha13 := S23.keep0 ha12
  have ha23 := upd_same (H := H3) (a := a2) (o := .lst (nv S.paper))
  have S03 := S2.trans S23
  generalize upd H3 a2 (.lst (nv S.paper)) = H4 at S23 hR3 hA3 hI3 ha13 ha23 S03 ⊢
  have hp3 := hR3.hp
  clear S2 S23 hR2 hA2 hI2 hp2 hq22 ha2 S3 ha12
  walk_at "rd"
  intro st hst
  have S4 := (Stp.refl [] H4).new (o := .lst [.ref a1, .ref a2]) hst
  have hR4 := hR3.stp S4 (by simp)
  have hA4 := hA3.stp S4 (by simp)
  have hI4 := isl_stp S4 hI3
  have ha14 := S4.keep0 ha13
  have ha24 := S4.keep0 ha23
  have hst4 := upd_same (H := H4) (a := st) (o := .lst [.ref a1, .ref a2])
  have S04 := S03.trans S4
  have mst := hA3.fresh hst
  generalize upd H4 st (.lst [.ref a1, .ref a2]) = H5 at S4 hR4 hA4 hI4 ha14 ha24 hst4 S04 ⊢
  clear S4 hR3 hA3 hI3 ha13 ha23 S03 hst hp3
  walk_at "rd"
  intro gl hgl
  have S6 := (Stp.refl [] H5).new (o := .lst [.int more, .int 200]) hgl
  have hR6 := hR4.stp S6 (by simp)
  have hA6 := hA4.stp S6 (by simp)
  have hI6 := isl_stp S6 hI4
  have ha16 := S6.keep0 ha14
  have ha26 := S6.keep0 ha24
  have hst6 := S6.keep0 hst4
  have hgl6 := upd_same (H := H5) (a := gl) (o := .lst [.int more, .int 200])
  have mg := hA4.fresh hgl
  have S06 := S04.trans S6
  generalize upd H5 gl (.lst [.int more, .int 200]) = H6 at S6 hR6 hA6 hI6 ha16 ha26 hst6 hgl6 S06 ⊢
  clear S6 hR4 hA4 hI4 ha14 ha24 S04 hst4 hgl
  walk_at "rd"
  refine for_it (walk_list (xs := [V.int more, V.int 200])) (fun j σ H' => ∃ (w av : Nat) (lg : List Ent) (v4 v5 : Option V), (j = 2 → av = 200) ∧ lg.length ≤ log.length + 200 * j ∧ (I.wide w).m = some (lg.length + av) ∧ Stp I.M H6 H' ∧ R.At A I H' S ∧ (I.wide w).At K A H' lg ∧
      σ = [some (.ref R.p), some (.ref I.s), some (.int more), some (.ref st), v4, v5])
    ⟨0, m0 - log.length, log, _, _, fun z => by omega, by omega, by rw [wide_zero, hm0]; congr 1; have := hA6.bd _ hm0; omega, .refl _ _, hR6, by rw [wide_zero]; exact hA6, rfl⟩ (fun j σ H' _ z => by obtain ⟨_, _, _, _, _, _, _, _, z, _⟩ := z; exact SqL.of (z.keep hgl6 mg)) ?_ ?_
  · rintro j x σ H7 H8 hj ⟨w, av, lg, v4, v5, hav, hlgl, hm, S7, hR7, hA7, rfl⟩ ⟨rfl, hx⟩
    have hj2 : j < 2 := hj
    have hp7 := hR7.hp
    have hI7 := isl_stpM S7 hI6
    have ha17 := S7.keep ha16 m1
    have ha27 := S7.keep ha26 m2
    have hst7 := S7.keep hst6 mst
    obtain ⟨gv, hgv, hg2⟩ : ∃ gv : Nat, x = .int gv ∧ (j = 1 → gv = 200) := by
      match j, hx with
      | 0, hx => cases hx; exact ⟨_, rfl, fun z => by omega⟩
      | 1, hx => cases hx; exact ⟨_, rfl, fun z => rfl⟩
      | j + 2, hx => simp at hx
    subst hgv
    walk_at "rd"
    refine ⟨R, I.wide w, lg, S, rfl, ⟨hR7.wide, hA7, ok, Nat.le_trans hn (by decide), by show lg.length + I.pre.length + I.n * I.n + 1000 ≤ 80000; omega⟩, fun H9 d es es' hD hne hT hm9 S9 hA9 hdn hx9 => ?_, fun hd => ?_, fun H9 t R' es S' d h1 h2 h3 h4 h5 h6 h7 h8 h9 h10 => ?_⟩
    · obtain ⟨S', dd, hD⟩ := hD
      have hle := hD.few ok hn
      rw [List.length_append] at hle
      refine SH.r_catch T.exm_Spent_Spent fun e he => ?_
      simp only [List.set_cons_succ, List.set_cons_zero]
      have hs9 := hA9.hs
      unfold AskM at hs9
      rw [hm9, List.length_append] at hs9
      simp only [mV] at hs9
      change H9 I.s = _ at hs9
      have hR9 := hR7.ask S9
      have hI9 := isl_stpM S9 hI7
      have ha19 := S9.keep ha17 m1
      have ha29 := S9.keep ha27 m2
      have hst9 := S9.keep hst7 mst
      walk_at "rd"
      rw [if_neg (by simp)]
      walk_at "rd"
      rw [if_neg (by simp)]
      walk_at "rd"
      simp only [List.set_cons_succ, List.set_cons_zero]
      have hp9 := hR9.hp
      walk_at "rd"
      refine ⟨R, I, S, rfl, ⟨hR9, ok, by omega⟩, fun H10 b1 tas2 hb1 S10 hb110 htas2 htal2 hst2 => ?_⟩
      have hR10 := hR9.stp S10 (by simp)
      have hI10 := std_is (K := K) htal2 hst2
      have hp10 := hR10.hp
      walk_at "rd"
      refine ⟨R, I, S, rfl, ⟨hR10, ok, by omega⟩, fun H11 b2 hb2 S11 hb211 => ?_⟩
      have S911 := S10.trans S11
      have hb111 := S11.keep0 hb110
      have hI11 := isl_stp S11 hI10
      walk_at "rd"
      intro bl hbl
      have S12 := S911.new (o := .lst [.ref b1, .ref b2]) hbl
      have S1112 := (Stp.refl [] H11).new (o := .lst [.ref b1, .ref b2]) hbl
      have hR12 := hR9.stp S12 (by simp)
      have hA12 := hA9.stp S12 (by simp)
      have ha112 := S12.keep0 ha19
      have ha212 := S12.keep0 ha29
      have hst12 := S12.keep0 hst9
      have hI12 := isl_stp S12 hI9
      have hb112 := S1112.keep0 hb111
      have hb212 := S1112.keep0 hb211
      have hIb12 := isl_stp S1112 hI11
      have hbl12 := upd_same (H := H11) (a := bl) (o := .lst [.ref b1, .ref b2])
      have S712 := (S7.trans S9).then0 S12
      generalize upd H11 bl (.lst [.ref b1, .ref b2]) = H12 at S12 S1112 hR12 hA12 ha112 ha212 hst12 hI12 hb112 hb212 hIb12 hbl12 S712 ⊢
      clear S12 S1112 S911 hR9 hA9 ha19 ha29 hst9 hI9 hb111 hb211 hI11 hbl hs9 hb110 hI10 hR10 hp10 hp9
      walk_at "rd"
      refine v_neR (d := .list [Enc.d (stds S), Enc.d S.paper]) (.lst (SqL.of hbl12) (.cons (is_lst (SqL.of hb112) hIb12) (.cons (is_lst (SqL.of hb212) isl_nats) .nil))) (.lst (SqL.of hst12) (.cons (is_lst (SqL.of ha112) hI12) (.cons (is_lst (SqL.of ha212) isl_nats) .nil))) (shaped_two _ _ (by decide) (by decide)) ?_
      refine ⟨_, rfl, ?_⟩
      rw [if_neg (by simp)]
      have hs12 := hA12.hs
      unfold AskM at hs12
      change H12 I.s = _ at hs12
      walk_at "rd"
      refine ⟨I.wide w, lg ++ es, gv, rfl, hA12, fun H13 S13 hA13 => ?_⟩
      rw [wide_wide] at hA13
      have S13' : Stp I.M H12 H13 := S13.mono (by intro b hb; rw [List.mem_singleton] at hb; subst hb; simp [Ask.M, Ask.wide])
      exact ⟨w + gv, gv, lg ++ es, _, _, fun z => hg2 (by omega), by rw [List.length_append]; omega, by rw [← wide_wide, wide_some hm9, List.length_append], S712.trans S13', hR12.ask S13', hA13, rfl⟩
    · exact k0 hd H8 w lg (by omega) ((S06.mono (by simp)).trans S7) hA7
    · refine k H9 t R' w S' es (lg ++ es) d h1 (fun a ha => ?_) h3 (Told.all (lt := I.lt) h5) (by rw [List.length_append]; have := h3.few ok hn; omega) ((S06.mono (by simp)).trans ((S7.mono (by intro b hb; simp [PIL.M, hb])).trans h6)) h7 h8.unwide (S06.dom _ (S7.dom _ h9)) h10
      rcases h2 a ha with h | h
      · exact .inl h
      · exact .inr (S06.dom _ (S7.dom _ h))
  · rintro σ H7 ⟨w, av, lg, v4, v5, hav, hlgl, hm, S7, hR7, hA7, rfl⟩
    have hp7 := hR7.hp
    simp only [List.length_cons, List.length_nil] at hlgl
    obtain rfl := hav rfl
    walk_at "rd"
    refine ⟨R, I.wide w, lg, S, rfl, ⟨hR7.wide, hA7, ok, Nat.le_trans hn (by decide), by show lg.length + I.pre.length + I.n * I.n + 1000 ≤ 80000; omega⟩, fun H9 d es es' hD hne hT hm9 => ?_, fun hd => ?_, fun H9 t R' es S' d h1 h2 h3 h4 h5 h6 h7 h8 h9 h10 => ?_⟩
    · obtain ⟨S', dd, hD⟩ := hD
      have hle := hD.few ok hn
      rw [List.length_append] at hle
      rw [hm] at hm9
      injection hm9 with hm9
      have := List.length_pos_iff.mpr hne
      omega
    · exact k0 hd H7 w lg (by omega) ((S06.mono (by simp)).trans S7) hA7
    · refine k H9 t R' w S' es (lg ++ es) d h1 (fun a ha => ?_) h3 (Told.all (lt := I.lt) h5) (by rw [List.length_append]; have := h3.few ok hn; omega) ((S06.mono (by simp)).trans ((S7.mono (by intro b hb; simp [PIL.M, hb])).trans h6)) h7 h8.unwide (S06.dom _ (S7.dom _ h9)) h10
      rcases h2 a ha with h | h
      · exact .inl h
      · exact .inr (S06.dom _ (S7.dom _ h))
def sp__law_by_pile (K : PySem.W.Frag) (A : Ad) : Sp := fun vs H Q _ => ∃ (rq tb : Addr) (row : List V) (ks : List Int) (least low end_ most : Nat) (es0 : List Ent) (S0 : PS), vs = [.ref rq, .int least, .ref tb, .int most] ∧
  (H rq = some (.lst row) ∧ RowP H row ks ∧ ks.length ≤ 24 ∧ H tb = some (.tup [.int low, .int end_]) ∧ low ≤ end_ ∧ end_ ≤ ks.length ∧ Run (PS.init least low end_) es0 S0 ∧ S0.done ∧ (∀ e ∈ es0, e.c = decide (getE ks e.a < getE ks e.b))) ∧
  ∀ H' t, Stp [] H H' → ((es0.length ≤ most ∧ ∃ q, H' t = some (.tup [.bl false, .ref q]) ∧ H' q = some (.lst (nv S0.paper))) ∨ (most < es0.length ∧ H' t = some (.tup [.bl true, .non]))) → Q (.ref t) H'
theorem ok__law_by_pile {P : Program} {w : World} {K : PySem.W.Frag} {mg : Str → Option Value} {base : Heap} {A : Ad} {f : Addr} {fd : FuncData} (F : Fun K "_law_by_pile" "_law_by_pile" s__law_by_pile f fd) (T : Txt K mg A) (C_by_pile : SH.Cal P w K mg base (L2N.CX P w) 10 "by_pile" [] (sp_by_pile K A)) (N_AskedRule : SH.CalC P w K mg base CX0 1 "AskedRule" A.AskedRule [] (sp_AskedRule___init__ K A)) (N_Asker : SH.CalC P w K mg base CX0 1 "Asker" A.Asker [] (sp_Asker___init__ K A)) : FnOk P w K mg base CX0 11 f fd ["_law_row", "_law_least", "_law_bounds", "_law_most"] (sp__law_by_pile K A) := by
  refine F.ok sc__law_by_pile (fun vs H Q E h => by obtain ⟨_, _, _, _, _, _, _, _, _, _, rfl, _⟩ := h; rfl) (fun cdv A' outer s H vs Q E hr h => ?_)
  obtain ⟨rq, tb, row, ks, least, low, end_, most, es0, S0, rfl, ⟨hRq, hrow, hkl, htb, hle, hen, hr0, hd0, hT0⟩, k⟩ := h
  refine ⟨_, (pss_cons (ps_set (i := 4) sc__law_by_pile.nd rfl (Or.inl rfl) (SH.pe_makeF N_Asker hr (by rfl) pass0 (pa_cons (pv 0) (pa_cons (SH.pe_makeF N_AskedRule hr (by rfl) pass0 (pa_cons (pe_glob (v := .ref A.f__law_first) (by rfl) T.gf__law_first rfl) pa_nil)) (pa_cons (pv 3) pa_nil)))))
        (pss_cons (L2N.ps_try_as (i := 6) rfl rfl sc__law_by_pile.nd rfl rfl ⟨rfl, by decide, .inl T.g_HallError⟩ SH.takes0N (fun W pn xe tk po => (pss_one (ps_set (i := 5) sc__law_by_pile.nd rfl (Or.inl rfl) (SH.pe_callX C_by_pile hr (by rfl) (fun σ => L2N.passAt tk σ) (pa_cons (pv 4) (pa_cons (pv 1) (pa_cons (pv 2) pa_nil))))))) (fun a oe cls d pn hz hf => (pss_one (ps_ret (pe_tup (pa_cons (pe_and (pe_callB (SH.crK (fun K => SH.rIsY K cls d a) K (SH.call_isY (L2N.Zn.zc hz) hf)) (by rfl) T.z_isinstance (by decide +kernel) (pa_cons (pv 6) (pa_cons (pe_glob (v := .ref A.Spent) (by rfl) T.g_Spent rfl) pa_nil))) (pe_and (pe_cmpR (SH.opK SH.aEq K (SH.oEq hr.units)) (L2.pe_xf (SH.xfOf T.ec_Spent) T.na_Spent_asked (L2N.Zn.zc hz) hf (pv 6)) (pv 3) (nomark _)) (pe_one (pe_cmpR (SH.opK SH.aEq K (SH.oEq hr.units)) (SH.pe_fldF T.cl_Asker T.na_Asker_asked (pv 4)) (pv 3) (nomark _))))) (pa_cons pe_non pa_nil)))))))
        (pss_one (ps_ret (pe_tup (pa_cons pe_bl (pa_cons (pv 5) pa_nil))))))), ?_⟩
  walk_at "begin"
  have hrl := hrow.1
  walk_at "rq"
  refine askmake (m := some most) (us := [.int most]) rfl hRq hrow (by omega) (fun H Q h => by walk_at "rd"; exact h) rfl fun H8 I hM => ?_
  have hA := hM.at_
  have hn := hM.n
  have hpre := hM.e3
  have em := hM.e5
  have hlt := hM.lt
  have htb8 := hM.stp.keep0 htb
  have S8 := hM.stp
  have hnew := hM.new
  clear hM hRq hrow htb
  have hnn : I.n * (4 * I.n + 1) ≤ 24 * 97 := Nat.mul_le_mul (by omega) (by omega)
  have hn2 : I.n * I.n ≤ 24 * 24 := Nat.mul_le_mul (by omega) (by omega)
  have ok0 : (PS.init least low end_).Ok I.n := PS.init_ok hle (by omega)
  walk_at "rd"
  refine ⟨I, [], least, low, end_, _, rfl, ⟨hA, .inr ⟨tb, rfl, htb8⟩, hle, by omega, by omega, by rw [hpre]; simp; omega⟩, fun H9 d es es' hD hne hT hm9 S9 hA9 hdn hx9 => ?_, fun H9 q es S hr hf hd hT S9 hA9 hq hq9 => ?_⟩
  · obtain ⟨S1, hr1, hd1⟩ := hD
    rw [hlt] at hT
    obtain ⟨e1, -⟩ := hr1.uniq (n := I.n) hr0 ok0 hd1 hd0 (Told.all hT) hT0
    have hlen := prefix_of e1 hne
    rw [em] at hm9
    injection hm9 with hm9
    simp only [List.length_nil, Nat.zero_add] at hm9 hx9
    rw [List.nil_append] at hA9
    refine SH.r_catch T.exm_Spent_HallError fun e he => ?_
    simp only [List.set_cons_succ, List.set_cons_zero]
    have hs9 := hA9.hs
    unfold AskM at hs9
    have S89 : Stp [] H H9 := S8.then S9 fun m hm => .inr (hnew _ (Ask.Mown hm))
    walk_at "rd"
    refine v_isY (adict hx9) T.ec_Spent T.kits_Spent_Spent ?_
    refine ⟨_, rfl, ?_⟩
    rw [if_pos rfl]
    walk_at "rd"
    rw [if_pos (by simp [hm9])]
    walk_at "rd"
    trace_state
    rw [decide_eq_true (by simp [hm9])]
    intro t ht
    have St := (Stp.refl [] H9).new (o := .tup [.bl true, .non]) ht
    exact k _ t (S89.then0 St) (.inr ⟨by omega, upd_same⟩)
  · rw [List.nil_append] at hA9
    rw [hlt] at hT
    obtain ⟨rfl, rfl⟩ := hr.uniq (n := I.n) hr0 ok0 hd hd0 (Told.all hT) hT0
    have hb := hA9.bd _ em
    have S89 : Stp [] H H9 := S8.then S9 fun m hm => .inr (hnew _ (Ask.Mown hm))
    walk_at "rd"
    intro t ht
    have St := (Stp.refl [] H9).new (o := .tup [.bl false, .ref q]) ht
    exact k _ t (S89.then0 St) (.inl ⟨hb, q, upd_same, St.keep0 hq9⟩)
/-! ### odds and ends of laws with pairs -/
theorem tabs_stp {T : List NTab} {H H' : Hp} (h : TabsN T H) (S : Stp [] H H') : TabsN T H' := fun p hp => (h p hp).ext fun b o e => S.keep0 e
theorem ext_lst {H H' : Hp} {b : Addr} {xs : List V} (e : ExtN H H') (h : H b = some (.lst xs)) : H' b = some (.lst xs) := e _ _ h (by intro ps z; cases z)
theorem ext_tup {H H' : Hp} {b : Addr} {xs : List V} (e : ExtN H H') (h : H b = some (.tup xs)) : H' b = some (.tup xs) := e _ _ h (by intro ps z; cases z)
theorem RowP.ext {H H' : Hp} {row : List V} {ks : List Int} (h : RowP H row ks) (e : ExtN H H') : RowP H' row ks := ⟨h.1, fun i v z => by obtain ⟨t, h1, h2⟩ := h.2 i v z; exact ⟨t, h1, ext_tup e h2⟩⟩
def kOf (H : Hp) (x : V) : Int × Int := match x with
  | .ref t => (match H t with
    | some (.tup [.int a, .int b]) => (a, b)
    | _ => (0, 0))
  | _ => (0, 0)
theorem kOf_at {H : Hp} {t : Addr} {a b : Int} (h : H t = some (.tup [.int a, .int b])) : kOf H (.ref t) = (a, b) := by simp [kOf, h]
theorem lexB_false {a b c d : Int} (h : SrtO.lexB (a, b) (c, d) = false) : c < a ∨ (c = a ∧ d ≤ b) := by
  have : ¬ (a < c ∨ (a = c ∧ b < d)) := fun z => by
    rw [SrtO.lexB_iff.mpr z] at h
    cases h
  omega
/-- an order that was sorted: what stands ahead of a place is what stands ahead in it -/
theorem sorted_mono {ks : List Int} {H : Hp} {zs : List V} {ord : List Nat} {place : Nat} (hs : SrtO.Srtd (ltP (kOf H)) zs) (ho : ∀ (i o : Nat), ord[i]? = some o → ∃ t, zs[i]? = some (.ref t) ∧ H t = some (.tup [.int (getE ks o), .int (o : Nat)])) :
    ∀ (i j : Nat) (a b : Nat), i < j → ord[i]? = some a → ord[j]? = some b → Ahd ks b place → Ahd ks a place := by
  intro i j a b hij ha hb h
  obtain ⟨t, e1, h1⟩ := ho i a ha
  obtain ⟨u, e2, h2⟩ := ho j b hb
  obtain ⟨hi, e1⟩ := List.getElem?_eq_some_iff.mp e1
  obtain ⟨hj, e2⟩ := List.getElem?_eq_some_iff.mp e2
  have := List.pairwise_iff_getElem.mp hs i j hi hj hij
  rw [e1, e2] at this
  unfold ltP at this
  rw [kOf_at h1, kOf_at h2] at this
  have := lexB_false this
  unfold Ahd at h ⊢
  omega
theorem lexLt2 {a b c d : Int} : HT.lexLt [a, b] [c, d] = decide (a < c ∨ (a = c ∧ b < d)) := by
  simp only [HT.lexLt]
  by_cases e : a = c
  · rw [if_pos e]
    by_cases e2 : b = d
    · rw [if_pos e2]; simp [e, e2]
    · rw [if_neg e2]; simp [e]
  · rw [if_neg e]; simp [e]
theorem rd_extN {H H' : Hp} {a : Addr} {u : HO} (s : ExtN H H') (h : Rd H a u) (n : ∀ ps, u ≠ .tbl ps) : Rd H' a u := by
  rcases h with h | ⟨o, h⟩
  · exact .inl (s _ _ h n)
  · exact .inr ⟨o, s _ _ h (by intro ps z; cases z)⟩
theorem sql_extN {K : PySem.W.Frag} {H H' : Hp} {a : Addr} {xs : List V} (s : ExtN H H') (h : SqL K H a xs) : SqL K H' a xs := by
  rcases h with h | h
  · exact .inl (rd_extN s h (by intro ps z; cases z))
  · exact .inr h
theorem sqt_extN {K : PySem.W.Frag} {H H' : Hp} {a : Addr} {xs : List V} (s : ExtN H H') (h : SqT K H a xs) : SqT K H' a xs := by
  rcases h with h | h
  · exact .inl (rd_extN s h (by intro ps z; cases z))
  · exact .inr h
mutual
theorem dp_extN {K : PySem.W.Frag} {H H' : Hp} (S : ExtN H H') : ∀ (d : PyData) (v : V), Dp K H v d → Dp K H' v d
  | .none, _, h => by cases h; exact .non
  | .bool _, _, h => by cases h; exact .bl _
  | .int _, _, h => by cases h; exact .int _
  | .str _, _, h => by cases h; exact .str _
  | .list ds, _, h => by
    cases h with
    | lst hs ha => exact .lst (sql_extN S hs) (dp_extNs S ds _ ha)
  | .tuple ds, _, h => by
    cases h with
    | tup hs ha => exact .tup (sqt_extN S hs) (dp_extNs S ds _ ha)
  | .dict _, _, h => by cases h
theorem dp_extNs {K : PySem.W.Frag} {H H' : Hp} (S : ExtN H H') : ∀ (ds : List PyData) (vs : List V), DpAll K H vs ds → DpAll K H' vs ds
  | [], _, h => by cases h; exact .nil
  | d :: ds, _, h => by
    cases h with
    | cons h1 h2 => exact .cons (dp_extN S d _ h1) (dp_extNs S ds _ h2)
end
theorem isl_extN {K : PySem.W.Frag} {H H' : Hp} {α : Type} [Enc α] {vs : List V} {xs : List α} (S : ExtN H H') (h : IsL K H vs xs) : IsL K H' vs xs := dp_extNs S _ _ h
theorem sql_or {K : PySem.W.Frag} {H : Hp} {a : Addr} {xs : List V} (h : SqL K H a xs) : ∃ ax : List Addr, (∀ x ∈ ax, H x ≠ none) ∧ (a ∈ ax ∨ ∀ H', SqL K H' a xs) := by
  rcases h with (h | ⟨o, h⟩) | h
  · exact ⟨[a], fun x hx => by rw [List.mem_singleton] at hx; subst hx; rw [h]; simp, .inl (by simp)⟩
  · exact ⟨[a], fun x hx => by rw [List.mem_singleton] at hx; subst hx; rw [h]; simp, .inl (by simp)⟩
  · exact ⟨[], by simp, .inr fun H' => .inr h⟩
/-! ### part of a row of pairs, sorted -/
theorem sorted_low {ks : List Int} {H : Hp} {row zs : List V} {low : Nat} {ord : List Nat} (hr : RowP H row ks) (hlow : low ≤ ks.length) (hs : SrtO.Srtd (ltP (kOf H)) zs) (hp : zs.Perm (row.drop low)) (hl : ord.length = zs.length)
    (ho : ∀ (i o : Nat), ord[i]? = some o → ∃ t, zs[i]? = some (.ref t) ∧ H t = some (.tup [.int (getE ks o), .int (o : Nat)])) : ord.Pairwise (Ahd ks) ∧ ord.Perm (List.range' low (ks.length - low)) := by
  let g : V → Nat := fun x => (kOf H x).2.toNat
  have e1 : ord = zs.map g := by
    apply List.ext_getElem? ; intro i
    by_cases hi : i < ord.length
    · obtain ⟨t, h1, h2⟩ := ho i _ (List.getElem?_eq_getElem hi)
      rw [List.getElem?_eq_getElem hi, List.getElem?_map, h1, Option.map_some]
      show some _ = some (kOf H (.ref t)).2.toNat
      rw [kOf_at h2]
      simp
    · rw [List.getElem?_eq_none (by omega), List.getElem?_eq_none (by rw [List.length_map]; omega)]
  have hrl := hr.1
  have e2 : (row.drop low).map g = List.range' low (ks.length - low) := by
    apply List.ext_getElem? ; intro i
    by_cases hi : low + i < row.length
    · obtain ⟨t, h1, h2⟩ := hr.2 (low + i) _ (List.getElem?_eq_getElem hi)
      rw [List.getElem?_map, List.getElem?_drop, List.getElem?_eq_getElem hi, Option.map_some, h1, List.getElem?_range' (by omega), Nat.one_mul]
      show some (kOf H (.ref t)).2.toNat = some (low + i)
      rw [kOf_at h2]
      simp
      omega
    · rw [List.getElem?_eq_none (by rw [List.length_map, List.length_drop]; omega), List.getElem?_eq_none (by rw [List.length_range']; omega)]
  have hpm : ord.Perm (List.range' low (ks.length - low)) := by rw [e1, ← e2]; exact hp.map g
  refine ⟨?_, hpm⟩
  have hnd : ord.Nodup := hpm.nodup_iff.mpr List.nodup_range'
  refine List.pairwise_iff_getElem.mpr fun i j hi hj hij => ?_
  obtain ⟨t, h1, h2⟩ := ho i _ (List.getElem?_eq_getElem hi)
  obtain ⟨u, h3, h4⟩ := ho j _ (List.getElem?_eq_getElem hj)
  obtain ⟨hi', h1⟩ := List.getElem?_eq_some_iff.mp h1
  obtain ⟨hj', h3⟩ := List.getElem?_eq_some_iff.mp h3
  have := List.pairwise_iff_getElem.mp hs i j hi' hj' hij
  rw [h1, h3] at this
  unfold ltP at this
  rw [kOf_at h2, kOf_at h4] at this
  have hb := lexB_false this
  have hne : ord[i] ≠ ord[j] := List.pairwise_iff_getElem.mp hnd i j hi hj hij
  unfold Ahd
  omega
theorem ahd_uniq {ks : List Int} {a b : List Nat} (h1 : a.Pairwise (Ahd ks)) (h2 : b.Pairwise (Ahd ks)) (hp : a.Perm b) : a = b :=
  List.Perm.eq_of_pairwise (fun x y _ _ h k => by unfold Ahd at h k; omega) h1 h2 hp
theorem r_seq3 {t1 t2 t3 : TS} {D : Ends} {σ : L2.St} {H : Hp} (P : L2.St → Hp → Prop) (h3 : ∀ σ' H', P σ' H' → t3 D σ' H') (h : ∀ N : L2.St → Hp → Prop, (∀ σ' H', P σ' H' → N σ' H') → tSeq t1 t2 { D with nx := N } σ H) : tSeq t1 (tSeq t2 t3) D σ H := h (t3 D) h3
structure LInv (K : PySem.W.Frag) (A : Ad) (a rq tb : Addr) (ax : List Addr) (ns : List Int) (row : List V) (ks : List Int) (least low : Nat) (R1 R2 : PIL) (I1 I2 : Ask) (H' : Hp) (R1' R2' : PIL) (S : PS) (w : Nat) (es1 log2 : List Ent) (sv : V) : Prop where
  sd : sv = .non → S.done
  sv_ : sv = .non ∨ ∃ t, sv = .ref t
  e1 : R1'.p = R1.p
  e2 : R2'.p = R2.p
  r1 : R1'.At A I1 H' S
  r2 : R2'.At A I2 H' S
  a1 : I1.At K A H' es1
  a2 : (I2.wide w).At K A H' log2
  run : Run (PS.init least low ks.length) es1 S
  few : FewS I1.n S es1
  tr : ∀ e ∈ es1, e.c = decide (getE ks e.a < getE ks e.b)
  l2 : log2.length + 600 * (S.rest + (if sv = .non then 0 else 1)) ≤ 30000
  dis : ∀ b, b ∈ R1'.own ∨ b ∈ I1.own → b ∉ R2'.own ∧ b ∉ I2.own
  pr : ∀ x ∈ rq :: tb :: ax, H' x ≠ none ∧ x ∉ R1'.own ∧ x ∉ R2'.own
  rq_ : H' rq = some (.lst row)
  tb_ : H' tb = some (.tup [.int low, .int ks.length])
  row_ : RowP H' row ks
  s_ : SqL K H' a (ns.map V.int)
theorem v_neNN {K : PySem.W.Frag} {H : Hp} {Q : VK} (h : Q (.bl false) H) : aNe K .non .non H Q := .inl ⟨rfl, by rw [decide_eq_true rfl]; exact h⟩
theorem LInv.stp {K : PySem.W.Frag} {A : Ad} {a rq tb : Addr} {ax : List Addr} {ns : List Int} {row : List V} {ks : List Int} {least low : Nat} {R1 R2 : PIL} {I1 I2 : Ask} {H H' : Hp} {R1' R2' : PIL} {S : PS} {w : Nat} {es1 log2 : List Ent} {sv : V} (h : LInv K A a rq tb ax ns row ks least low R1 R2 I1 I2 H R1' R2' S w es1 log2 sv) (St : Stp [] H H') : LInv K A a rq tb ax ns row ks least low R1 R2 I1 I2 H' R1' R2' S w es1 log2 sv :=
  ⟨h.sd, h.sv_, h.e1, h.e2, h.r1.stp St (by simp), h.r2.stp St (by simp), h.a1.stp St (by simp), h.a2.stp St (by simp), h.run, h.few, h.tr, h.l2, h.dis, fun x hx => ⟨fun z => (h.pr x hx).1 (St.dom x z), (h.pr x hx).2⟩, St.keep0 h.rq_, St.keep0 h.tb_, h.row_.stp St, St.sql0 h.s_⟩
theorem dd_shaped (d : Dd) : SeqAt.shaped (.tuple [.str d.w, .int d.a, .int d.b, .int d.c]) = true := by
  obtain ⟨l, a, b, c⟩ := d
  cases l
  · unfold SeqAt.shaped
    rw [Bool.and_eq_true]
    refine ⟨?_, decide_eq_true (by simp only [PyData.depth, PyData.depthAll]; omega)⟩
    show (PyData.canLay0 (.str (Str.ofString "join")) && _) = true
    simp [PyData.canLay0, PyData.canLayAll0]
    decide +kernel
  · unfold SeqAt.shaped
    rw [Bool.and_eq_true]
    refine ⟨?_, decide_eq_true (by simp only [PyData.depth, PyData.depthAll]; omega)⟩
    show (PyData.canLay0 (.str (Str.ofString "lay")) && _) = true
    simp [PyData.canLay0, PyData.canLayAll0]
    decide +kernel
theorem Ask.At.there {I : Ask} {K : PySem.W.Frag} {A : Ad} {H : Hp} {log : List Ent} (h : I.At K A H log) {b : Addr} (hb : b ∈ I.own) : H b ≠ none := fun z => h.freshO z hb
def sp_law (K : PySem.W.Frag) (A : Ad) : Sp := lawSp K
theorem ok_law {P : Program} {w : World} {K : PySem.W.Frag} {mg : Str → Option Value} {base : Heap} {A : Ad} {f : Addr} {fd : FuncData} (F : Fun K "law" "law" s_law f fd) (T : Txt K mg A) (M_Pile_paper : SH.CalM P w K mg base CX0 1 A.Pile "paper" [] (sp_Pile_paper K A)) (M_Pile_standing : SH.CalM P w K mg base CX0 1 A.Pile "standing" [] (sp_Pile_standing K A)) (M_Pile_step : SH.CalM P w K mg base (L2N.CX P w) 9 A.Pile "step" [] (sp_Pile_step K A)) (C__law_by_pile : SH.Cal P w K mg base CX0 11 "_law_by_pile" [] (sp__law_by_pile K A)) (C__law_cell_at : SH.Cal P w K mg base CX0 1 "_law_cell_at" [] (sp__law_cell_at K A)) (C__law_row_by : SH.Cal P w K mg base CX0 3 "_law_row_by" [] (sp__law_row_by K A)) (C__law_stepped : SH.Cal P w K mg base CX0 10 "_law_stepped" [] (sp__law_stepped K A)) (N_AskedRule : SH.CalC P w K mg base CX0 1 "AskedRule" A.AskedRule [] (sp_AskedRule___init__ K A)) (N_Asker : SH.CalC P w K mg base CX0 1 "Asker" A.Asker [] (sp_Asker___init__ K A)) (N_Asker_d1 : SH.CalC P w K mg base CX0 1 "Asker" A.Asker [.non] (sp_Asker___init__ K A)) (N_Pile : SH.CalC P w K mg base CX0 2 "Pile" A.Pile [] (sp_Pile___init__ K A)) : FnOk P w K mg base CX0 12 f fd ["_law_script"] (sp_law K A) := by
  refine F.ok sc_law (fun vs H Q E h => by obtain ⟨_, _, rfl, _⟩ := h; rfl) (fun cdv A' outer s H vs Q E hr h => ?_)
  obtain ⟨a, ns, rfl, hS, hlen, k⟩ := h
  refine ⟨_, (pss_cons (ps_set (i := 1) sc_law.nd rfl (Or.inl rfl) (SH.pe_callF C__law_row_by hr (by rfl) pass0 (pa_cons (pv 0) pa_nil)))
        (pss_cons (ps_set (i := 2) sc_law.nd rfl (Or.inl rfl) (pe_ix SH.ixA (pe_lst (pa_cons pe_int (pa_cons pe_int (pa_cons (pe_op SH.oAdd pe_int (pe_op SH.oMod (pe_op SH.oDiv (SH.pe_callF C__law_cell_at hr (by rfl) pass0 (pa_cons (pv 0) (pa_cons pe_int pa_nil))) pe_int) pe_int)) pa_nil)))) (pe_op SH.oMod (pe_op SH.oDiv (SH.pe_callF C__law_cell_at hr (by rfl) pass0 (pa_cons (pv 0) (pa_cons pe_int pa_nil))) pe_int) pe_int) (fun _ _ => rfl)))
        (pss_cons (ps_set (i := 3) sc_law.nd rfl (Or.inl rfl) (pe_op SH.oMul (pe_op SH.oMod (pe_op SH.oDiv (SH.pe_callF C__law_cell_at hr (by rfl) pass0 (pa_cons (pv 0) (pa_cons pe_int pa_nil))) pe_int) pe_int) (pe_op SH.oMod (pe_op SH.oDiv (SH.pe_callF C__law_cell_at hr (by rfl) pass0 (pa_cons (pv 0) (pa_cons pe_int pa_nil))) pe_int) (pe_op SH.oAdd (pe_callB SH.cLen (by rfl) T.z_len (by decide +kernel) (pa_cons (pv 1) pa_nil)) pe_int))))
        (pss_cons (ps_set (i := 4) sc_law.nd rfl (Or.inl rfl) (pe_tup (pa_cons (pv 3) (pa_cons (pe_callB SH.cLen (by rfl) T.z_len (by decide +kernel) (pa_cons (pv 1) pa_nil)) pa_nil))))
        (pss_cons (ps_set (i := 5) sc_law.nd rfl (Or.inl rfl) (SH.pe_makeF N_Asker_d1 hr (by rfl) pass0 (pa_cons (pv 1) (pa_cons (SH.pe_makeF N_AskedRule hr (by rfl) pass0 (pa_cons (pe_glob (v := .ref A.f__law_first) (by rfl) T.gf__law_first rfl) pa_nil)) pa_nil))))
        (pss_cons (ps_set (i := 6) sc_law.nd rfl (Or.inl rfl) (SH.pe_makeF N_Pile hr (by rfl) pass0 (pa_cons (pv 5) (pa_cons (pv 2) (pa_cons (pv 4) pa_nil)))))
        (pss_cons (ps_set (i := 7) sc_law.nd rfl (Or.inl rfl) (SH.pe_makeF N_Asker hr (by rfl) pass0 (pa_cons (pv 1) (pa_cons (SH.pe_makeF N_AskedRule hr (by rfl) pass0 (pa_cons (pe_glob (v := .ref A.f__law_first) (by rfl) T.gf__law_first rfl) pa_nil)) (pa_cons (pe_op SH.oMod (SH.pe_callF C__law_cell_at hr (by rfl) pass0 (pa_cons (pv 0) (pa_cons pe_int pa_nil))) pe_int) pa_nil)))))
        (pss_cons (ps_set (i := 8) sc_law.nd rfl (Or.inl rfl) (SH.pe_makeF N_Pile hr (by rfl) pass0 (pa_cons (pv 7) (pa_cons (pv 2) (pa_cons (pv 4) pa_nil)))))
        (pss_cons (ps_set (i := 9) sc_law.nd rfl (Or.inl rfl) (pe_tup (pa_cons pe_str pa_nil)))
        (pss_cons (ps_while PassesOwn.never (pt_cmpR SH.oNotN (pv 9) pe_non (nomark _)) (pss_cons (ps_set (i := 9) sc_law.nd rfl (Or.inl rfl) (SH.pe_methF0 (pv 6) M_Pile_step hr SH.passLN))
        (pss_cons (ps_if (pt_cmpR (SH.oNe hr.units) (SH.pe_callF C__law_stepped hr (by rfl) pass0 (pa_cons (pv 8) (pa_cons (pv 7) (pa_cons (pe_op SH.oMod (pe_op SH.oDiv (SH.pe_callF C__law_cell_at hr (by rfl) pass0 (pa_cons (pv 0) (pa_cons pe_int pa_nil))) pe_int) pe_int) pa_nil)))) (pv 9) (nomark _)) (pss_one (ps_ret pe_bl)) pss_nil)
        (pss_one (ps_if (PW.pt (pw_or (pt_cmpR (SH.oNe hr.units) (SH.pe_methF0 (pv 8) M_Pile_standing hr pass0) (SH.pe_methF0 (pv 6) M_Pile_standing hr pass0) (nomark _)) (pw_or1 (pt_cmpR (SH.oNe hr.units) (SH.pe_methF0 (pv 8) M_Pile_paper hr pass0) (SH.pe_methF0 (pv 6) M_Pile_paper hr pass0) (nomark _))))) (pss_one (ps_ret pe_bl)) pss_nil)))))
        (pss_cons (ps_set (i := 10) sc_law.nd rfl (Or.inl rfl) (SH.pe_fldF T.cl_Asker T.na_Asker_asked (pv 5)))
        (pss_cons (ps_set (i := 11) sc_law.nd rfl (Or.inl rfl) (SH.pe_methF0 (pv 6) M_Pile_paper hr pass0))
        (pss_cons (ps_set (i := 12) sc_law.nd rfl (Or.inl rfl) (pe_op SH.oAdd pe_int (pe_op SH.oMod (pe_op SH.oDiv (SH.pe_callF C__law_cell_at hr (by rfl) pass0 (pa_cons (pv 0) (pa_cons pe_int pa_nil))) pe_int) (pe_op SH.oPow pe_int pe_int))))
        (pss_cons (ps_if (pt_cmpR (SH.oNe hr.units) (SH.pe_callF C__law_by_pile hr (by rfl) pass0 (pa_cons (pv 1) (pa_cons (pv 2) (pa_cons (pv 4) (pa_cons (pv 10) pa_nil))))) (pe_tup (pa_cons pe_bl (pa_cons (pv 11) pa_nil))) (nomark _)) (pss_one (ps_ret pe_bl)) pss_nil)
        (pss_cons (ps_if (pt_cmpR (SH.oNe hr.units) (SH.pe_callF C__law_by_pile hr (by rfl) pass0 (pa_cons (pv 1) (pa_cons (pv 2) (pa_cons (pv 4) (pa_cons (pe_op SH.oAdd (pv 10) (pv 12)) pa_nil))))) (pe_tup (pa_cons pe_bl (pa_cons (pv 11) pa_nil))) (nomark _)) (pss_one (ps_ret pe_bl)) pss_nil)
        (pss_cons (ps_set (i := 13) sc_law.nd rfl (Or.inl rfl) (pe_op SH.oMod (pe_op SH.oDiv (SH.pe_callF C__law_cell_at hr (by rfl) pass0 (pa_cons (pv 0) (pa_cons pe_int pa_nil))) pe_int) (pe_callB (SH.cMax2 rfl) (by rfl) T.z_max (by decide +kernel) (pa_cons pe_int (pa_cons (pv 10) pa_nil)))))
        (pss_cons (ps_if (PW.pt (pw_and (pt_cmpR SH.oGt (pv 10) pe_int (nomark _)) (pw_and1 (pt_cmpR (SH.oNe hr.units) (SH.pe_callF C__law_by_pile hr (by rfl) pass0 (pa_cons (pv 1) (pa_cons (pv 2) (pa_cons (pv 4) (pa_cons (pv 13) pa_nil))))) (pe_tup (pa_cons pe_bl (pa_cons pe_non pa_nil))) (nomark _))))) (pss_one (ps_ret pe_bl)) pss_nil)
        (pss_one (ps_ret (pe_cmpR (SH.oEq hr.units) (pv 11) (pe_lc (own := [("_law_pair", 14)]) (g := (gName 14)) (tt := tYes) (by rfl) sc_law.nd (pi_list (pe_callB cr_sortedPO (by rfl) T.z_sorted (by decide +kernel) (pa_cons (pe_slice sl_list (pv 1) (po_some (pv 3)) po_none) pa_nil))) (blkOk_by (own := [("_law_pair", 14)]) (N := ["_law_script", "_law_row", "_law_least", "_law_low", "_law_bounds", "_law_free", "_law_plain", "_law_asker", "_law_pile", "_law_step", "_law_needed", "_law_paper", "_law_more", "_law_fewer", "_law_pair"]) (sc := defScope s_law) (by decide +kernel)) (fun _ _ _ _ _ => (pg_name (i := 14) sc_law.nd rfl (Or.inl rfl))) (fun _ _ _ _ _ => pts_nil) (fun _ _ _ _ _ => (pe_ix (SH.ixK SH.aIx K SH.ixA) (pv 14) pe_int (fun _ _ => rfl)))) (nomark _))))))))))))))))))))), ?_⟩
  walk_at "begin"
  walk_at "rd"
  refine ⟨a, ns, rfl, ⟨hS, hlen⟩, fun rq H1 row ks hrq S1 hR hrow hkl => ?_⟩
  have hrl := hrow.1
  have hS1 := S1.sql0 hS
  walk_at "rd"
  refine ⟨a, ns, 0, rfl, hS1, fun c0 => ?_⟩
  have h0 := Int.emod_nonneg (c0 / 12) (show (20 : Int) ≠ 0 by decide)
  walk_at "rd"
  intro ml hml
  have S2 := (Stp.refl [] H1).new (o := .lst [.int 1, .int 1, .int (1 + c0 / 12 % 20)]) hml
  have hml2 := upd_same (H := H1) (a := ml) (o := .lst [.int 1, .int 1, .int (1 + c0 / 12 % 20)])
  have hS2 := S2.sql0 hS1
  have hR2 := S2.keep0 hR
  have hrow2 := hrow.stp S2
  generalize upd H1 ml (.lst [.int 1, .int 1, .int (1 + c0 / 12 % 20)]) = H2 at S2 hml2 hS2 hR2 hrow2 ⊢
  clear S1 S2 hS hS1 hR hrow hml hrq
  walk_at "rd"
  refine ⟨a, ns, 0, rfl, hS2, fun c0' => ?_⟩
  walk_at "rd"
  refine v_ixMod (m := 3) (SqL.of hml2) rfl (by decide) fun v hv => ?_
  obtain ⟨least, rfl⟩ : ∃ least : Nat, v = .int least := by
    rcases List.mem_cons.mp hv with rfl | hv
    · exact ⟨1, rfl⟩
    rcases List.mem_cons.mp hv with rfl | hv
    · exact ⟨1, rfl⟩
    rw [List.mem_singleton] at hv
    exact ⟨(1 + c0 / 12 % 20).toNat, by rw [hv]; congr 1; omega⟩
  clear hv hml2 h0
  walk_at "rd"
  refine ⟨a, ns, 3, rfl, hS2, fun c3 => ?_⟩
  have g0 := Int.emod_nonneg (c3 / 40) (show (2 : Int) ≠ 0 by decide)
  have g1 := Int.emod_lt_of_pos (c3 / 40) (show (0 : Int) < 2 by decide)
  walk_at "rd"
  refine ⟨a, ns, 3, rfl, hS2, fun c3' => ?_⟩
  have g2 := Int.emod_nonneg (c3' / 80) (show ((row.length : Nat) : Int) + 1 ≠ 0 by omega)
  have g3 := Int.emod_lt_of_pos (c3' / 80) (show (0 : Int) < ((row.length : Nat) : Int) + 1 by omega)
  walk_at "rd"
  obtain ⟨low, hlow, hlow2⟩ : ∃ low : Nat, c3 / 40 % 2 * (c3' / 80 % ((row.length : Int) + 1)) = low ∧ low ≤ ks.length := by
    generalize c3' / 80 % ((row.length : Int) + 1) = y at g2 g3
    have : c3 / 40 % 2 = 0 ∨ c3 / 40 % 2 = 1 := by omega
    rcases this with e | e
    · rw [e]; exact ⟨0, by simp, by omega⟩
    · rw [e]; exact ⟨y.toNat, by omega, by omega⟩
  rw [hlow]
  clear hlow g0 g1 g2 g3
  intro tb htb
  rw [hrl]
  have S3 := (Stp.refl [] H2).new (o := .tup [.int low, .int ks.length]) htb
  have htb3 := upd_same (H := H2) (a := tb) (o := .tup [.int low, .int ks.length])
  have hS3 := S3.sql0 hS2
  have hR3 := S3.keep0 hR2
  have hrow3 := hrow2.stp S3
  generalize upd H2 tb (.tup [.int low, .int ks.length]) = H3 at S3 htb3 hS3 hR3 hrow3 ⊢
  clear S3 hS2 hR2 hrow2 htb
  obtain ⟨ax, hax, hSa⟩ := sql_or hS3
  have hP3 : ∀ x ∈ rq :: tb :: ax, H3 x ≠ none := fun x hx => by
    rcases List.mem_cons.mp hx with rfl | hx
    · rw [hR3]; simp
    rcases List.mem_cons.mp hx with rfl | hx
    · rw [htb3]; simp
    · exact hax x hx
  walk_at "rq"
  refine askmake (i := 1) (row := row) (ks := ks) (m := none) (us := []) rfl hR3 hrow3 (by omega) (fun H Q h => h) rfl fun H4 I1 hM1 => ?_
  have hA14 := hM1.at_
  have S4 := hM1.stp
  have htb4 := S4.keep0 htb3
  have hS4 := S4.sql0 hS3
  have hR4 := S4.keep0 hR3
  have hrow4 := hrow3.stp S4
  have hn1 := hM1.n
  have hor1 := hM1.lt
  have hpre1 := hM1.e3
  have em1 := hM1.e5
  have hks1 := hM1.e2
  have hnew1 := hM1.new
  have hP1 : ∀ x ∈ rq :: tb :: ax, x ∉ I1.own := fun x hx z => hP3 x hx (hnew1 x z)
  have hP4 : ∀ x ∈ rq :: tb :: ax, H4 x ≠ none := fun x hx z => hP3 x hx (S4.dom x z)
  walk_at "rd"
  refine v_make fun p1 dx1 hp1 hdx1 hne1 => ?_
  have S5 : Stp [] H4 (upd (upd H4 dx1 (.own p1)) p1 (.ins A.Pile dx1 [])) := ((Stp.refl [] H4).new hdx1).new (by rw [upd_ne hne1.symm]; exact hp1)
  have hp15 : (upd (upd H4 dx1 (.own p1)) p1 (.ins A.Pile dx1 [])) p1 = some (.ins A.Pile dx1 []) := upd_same
  generalize upd (upd H4 dx1 (.own p1)) p1 (.ins A.Pile dx1 []) = H5 at S5 hp15 ⊢
  have hA15 := hA14.stp S5 (by simp)
  refine ⟨p1, I1, [], least, low, ks.length, _, rfl, ⟨⟨dx1, hp15⟩, hA15, hA14.freshO hp1, .inr ⟨tb, rfl, S5.tup htb4⟩⟩, fun R1 H6 hRp1 hRo1 S6 hR16 => ⟨rfl, ?_⟩⟩
  have S46 : Stp [] H4 H6 := S5.then S6 (by intro m hm; rw [List.mem_singleton] at hm; subst hm; exact .inr hp1)
  have hA16 := hA15.stp S6 (by intro m hm; rw [List.mem_singleton] at hm; subst hm; exact hA14.freshO hp1)
  have fr1 : ∀ a ∈ R1.own, H4 a = none := fun a ha => by
    by_cases e : a = p1
    · rw [e]; exact hp1
    · exact S5.dom _ (hRo1 a ha e)
  have hPR1 : ∀ x ∈ rq :: tb :: ax, x ∉ R1.own := fun x hx z => hP4 x hx (fr1 x z)
  have hP6 : ∀ x ∈ rq :: tb :: ax, H6 x ≠ none := fun x hx z => hP4 x hx (S46.dom x z)
  have hR6 := S46.keep0 hR4
  have htb6 := S46.keep0 htb4
  have hS6 := S46.sql0 hS4
  have hrow6 := hrow4.stp S46
  subst hRp1
  clear S46 S5 S6 hp15 hA15 hRo1 hA14 hR4 htb4 hS4 hrow4 fr1 hp1 hdx1 hR3 htb3 hS3 hrow3 S4 hM1 hnew1 hne1
  have there1 : ∀ b, b ∈ R1.own ∨ b ∈ I1.own → H6 b ≠ none := fun b hb => by
    rcases hb with hb | hb
    · exact hR16.there hb
    · intro z; exact hA16.freshO z hb
  walk_at "rq"
  refine askmakeP (fun m => ∃ m0 : Nat, m = some m0) (i := 1) (row := row) (ks := ks) rfl hR6 hrow6 (by omega) (fun H' Q' S' h => ?_) fun m H7 I2 hPm hM2 => ?_
  · walk_at "rd"
    refine ⟨a, ns, 4, rfl, S'.sql0 hS6, fun c4 => ?_⟩
    have h1 := Int.emod_nonneg c4 (show (41 : Int) ≠ 0 by decide)
    walk_at "rd"
    exact h (some (c4 % 41).toNat) _ ⟨_, rfl⟩ (by show [V.int _] = [V.int _]; congr 2; omega)
  obtain ⟨m0, rfl⟩ := hPm
  have hA27 := hM2.at_
  have S7 := hM2.stp
  have htb7 := S7.keep0 htb6
  have hS7 := S7.sql0 hS6
  have hR7 := S7.keep0 hR6
  have hrow7 := hrow6.stp S7
  have hA17 := hA16.stp S7 (by simp)
  have hR17 := hR16.stp S7 (by simp)
  have hn2 := hM2.n
  have hor2 := hM2.lt
  have hpre2 := hM2.e3
  have em2 := hM2.e5
  have hks2 := hM2.e2
  have hnew2 := hM2.new
  have hP2 : ∀ x ∈ rq :: tb :: ax, x ∉ I2.own := fun x hx z => hP6 x hx (hnew2 x z)
  have hP7 : ∀ x ∈ rq :: tb :: ax, H7 x ≠ none := fun x hx z => hP6 x hx (S7.dom x z)
  have d12 : ∀ b, b ∈ R1.own ∨ b ∈ I1.own → b ∉ I2.own := fun b hb z => there1 b hb (hnew2 b z)
  have there2 : ∀ b, b ∈ R1.own ∨ b ∈ I1.own → H7 b ≠ none := fun b hb z => there1 b hb (S7.dom b z)
  clear hM2 S7 hnew2 there1 hR16 hA16 hrow6 hR6 hS6 htb6
  walk_at "rd"
  refine v_make fun p2 dx2 hp2 hdx2 hne2 => ?_
  have S8 : Stp [] H7 (upd (upd H7 dx2 (.own p2)) p2 (.ins A.Pile dx2 [])) := ((Stp.refl [] H7).new hdx2).new (by rw [upd_ne hne2.symm]; exact hp2)
  have hp28 : (upd (upd H7 dx2 (.own p2)) p2 (.ins A.Pile dx2 [])) p2 = some (.ins A.Pile dx2 []) := upd_same
  generalize upd (upd H7 dx2 (.own p2)) p2 (.ins A.Pile dx2 []) = H8 at S8 hp28 ⊢
  have hA28 := hA27.stp S8 (by simp)
  refine ⟨p2, I2, [], least, low, ks.length, _, rfl, ⟨⟨dx2, hp28⟩, hA28, hA27.freshO hp2, .inr ⟨tb, rfl, S8.tup htb7⟩⟩, fun R2 H9 hRp2 hRo2 S9 hR29 => ⟨rfl, ?_⟩⟩
  have S79 : Stp [] H7 H9 := S8.then S9 (by intro m hm; rw [List.mem_singleton] at hm; subst hm; exact .inr hp2)
  have hA29 := hA28.stp S9 (by intro m hm; rw [List.mem_singleton] at hm; subst hm; exact hA27.freshO hp2)
  have fr2 : ∀ a ∈ R2.own, H7 a = none := fun a ha => by
    by_cases e : a = p2
    · rw [e]; exact hp2
    · exact S8.dom _ (hRo2 a ha e)
  have hPR2 : ∀ x ∈ rq :: tb :: ax, x ∉ R2.own := fun x hx z => hP7 x hx (fr2 x z)
  have hP9 : ∀ x ∈ rq :: tb :: ax, H9 x ≠ none := fun x hx z => hP7 x hx (S79.dom x z)
  have dis : ∀ b, b ∈ R1.own ∨ b ∈ I1.own → b ∉ R2.own ∧ b ∉ I2.own := fun b hb => ⟨fun z => there2 b hb (fr2 b z), d12 b hb⟩
  have hR9 := S79.keep0 hR7
  have htb9 := S79.keep0 htb7
  have hS9 := S79.sql0 hS7
  have hrow9 := hrow7.stp S79
  have hA19 := hA17.stp S79 (by simp)
  have hR19 := hR17.stp S79 (by simp)
  subst hRp2
  clear S79 S8 S9 hp28 hA28 hRo2 hA27 hR7 htb7 hS7 hrow7 fr2 hp2 hdx2 hne2 d12 there2 hA17 hR17
  walk_at "rd"
  intro st0 hst0
  have S10 := (Stp.refl [] H9).new (o := .tup [.str ""]) hst0
  have hR10 := S10.keep0 hR9
  have htb10 := S10.keep0 htb9
  have hS10 := S10.sql0 hS9
  have hrow10 := hrow9.stp S10
  have hA110 := hA19.stp S10 (by simp)
  have hR110 := hR19.stp S10 (by simp)
  have hA210 := hA29.stp S10 (by simp)
  have hR210 := hR29.stp S10 (by simp)
  have hP10 : ∀ x ∈ rq :: tb :: ax, H9 x ≠ none := hP9
  have hP10 : ∀ x ∈ rq :: tb :: ax, upd H9 st0 (.tup [.str ""]) x ≠ none := fun x hx z => hP9 x hx (S10.dom x z)
  generalize upd H9 st0 (.tup [.str ""]) = H10 at S10 hR10 htb10 hS10 hrow10 hA110 hR110 hA210 hR210 hP10 ⊢
  clear S10 hR9 htb9 hS9 hrow9 hA19 hR19 hA29 hR29 hP9 hst0 hP7 hP6 hP4 hP3
  have hN : ks.length ≤ 24 := hkl
  have hnn : I1.n * (4 * I1.n + 1) ≤ 24 * 97 := Nat.mul_le_mul (by omega) (by omega)
  have hn2' : I1.n * I1.n ≤ 24 * 24 := Nat.mul_le_mul (by omega) (by omega)
  have ok0 : (PS.init least low ks.length).Ok ks.length := PS.init_ok hlow2 (Nat.le_refl _)
  have hrest0 : (PS.init least low ks.length).rest ≤ 48 := by show 2 * (ks.length - low) + ([] : List Spn).length ≤ 48; simp; omega
  walk_at "rd"
  refine r_while (fun m σ H' => ∃ (R1' R2' : PIL) (S : PS) (w : Nat) (es1 log2 : List Ent) (sv : V), m = (if sv = .non then 0 else S.rest + 1) ∧ LInv K A a rq tb ax ns row ks least low R1 R2 I1 I2 H' R1' R2' S w es1 log2 sv ∧
      σ = [some (.ref a), some (.ref rq), some (.int least), some (.int low), some (.ref tb), some (.ref I1.s), some (.ref R1.p), some (.ref I2.s), some (.ref R2.p), some sv, none, none, none, none, none])
    ⟨(PS.init least low ks.length).rest + 1, R1, R2, PS.init least low ks.length, 0, [], [], .ref st0, (by rw [if_neg (by simp)]), ⟨(fun z => by cases z), .inr ⟨_, rfl⟩, rfl, rfl, hR110, hR210, hA110, by rw [wide_zero]; exact hA210, .nil, .init, by simp, by rw [if_neg (by simp)]; simp only [List.length_nil]; omega, dis, fun x hx => ⟨hP10 x hx, hPR1 x hx, hPR2 x hx⟩, hR10, htb10, hrow10, hS10⟩, rfl⟩ ?_
  clear hR10 htb10 hS10 hrow10 hA110 hR110 hA210 hR210 hP10 dis hPR1 hPR2
  rintro m σ H11 ⟨R1', R2', S, w, es1, log2, sv, rfl, hI, rfl⟩
  have ok := hI.run.ok ok0
  walk_at "rd"
  by_cases hsv : sv = .non
  · subst hsv
    rw [if_neg (by simp)]
    have hd := hI.sd rfl
    obtain ⟨e1, e2, e3, e4⟩ : S.low = low ∧ S.end_ = ks.length ∧ True ∧ True := by
      obtain ⟨z1, z2, _⟩ := hI.run.same
      exact ⟨z1, z2, True.intro, True.intro⟩
    have hpp := ok.paper
    rw [e1, e2] at hpp
    have hso := hI.run.srtd (ks := ks) (n := ks.length) ok0 .init hI.tr
    have hpw := (hso.paper ok hd).1
    have hpl := hpp.length_eq
    rw [List.length_range'] at hpl

    have call : ∀ (H0 : Hp) (most : Nat) (Q' : VK) (E' : XK), LInv K A a rq tb ax ns row ks least low R1 R2 I1 I2 H0 R1' R2' S w es1 log2 V.non → (∀ H' t, Stp [] H0 H' → ((es1.length ≤ most ∧ ∃ q, H' t = some (.tup [.bl false, .ref q]) ∧ H' q = some (.lst (nv S.paper))) ∨ (most < es1.length ∧ H' t = some (.tup [.bl true, .non]))) → Q' (.ref t) H') → sp__law_by_pile K A [.ref rq, .int least, .ref tb, .int most] H0 Q' E' := fun H0 most Q' E' h kk =>
      ⟨rq, tb, row, ks, least, low, ks.length, most, es1, S, rfl, ⟨h.rq_, h.row_, hkl, h.tb_, hlow2, Nat.le_refl _, h.run, hd, h.tr⟩, kk⟩
    have hs1 := hI.a1.hs
    unfold AskM at hs1
    have hp1 := hI.r1.hp
    rw [hI.e1] at hp1
    have hb1 := hI.few.bd (by rw [hn1]; exact ok)
    walk_at "rd"
    refine ⟨R1', I1, S, by rw [← hI.e1]; rfl, ⟨hI.r1, by rw [hn1]; exact ok, by omega⟩, fun H12 q hq S12 hq12 => ?_⟩
    have hI12 := hI.stp S12
    clear hI hs1 hp1 S12 hq
    walk_at "rd"
    refine ⟨a, ns, 4, rfl, hI12.s_, fun c4 => ?_⟩
    walk_at "rd"
    have hbp := big60_pos
    have hm0 := Int.emod_nonneg (c4 / 328) (show big60 ≠ 0 by omega)
    obtain ⟨more, hmore⟩ : ∃ m : Nat, 1 + c4 / 328 % big60 = m := ⟨(1 + c4 / 328 % big60).toNat, by omega⟩
    refine v_mod (by omega) ?_
    walk_at "rd"
    rw [hmore]
    clear hm0 hmore hbp
    refine call H12 es1.length _ _ hI12 fun H13 t S13 hcase => ?_
    have hI13 := hI12.stp S13
    have hq13 := S13.keep0 hq12
    obtain ⟨-, q2, ht, hq2⟩ := hcase.resolve_right (fun z => by omega)
    clear hcase hI12 S13 hq12
    walk_at "rd"
    intro z hz
    have S14 := (Stp.refl [] H13).new (o := .tup [.bl false, .ref q]) hz
    refine v_neE (α := Bool × List Nat) (x := (false, S.paper)) (y := (false, S.paper)) (is_pr (SqT.of (S14.keep0 ht)) is_bl (is_lst (SqL.of (S14.keep0 hq2)) isl_nats)) (is_pr (SqT.of upd_same) is_bl (is_lst (SqL.of (S14.keep0 hq13)) isl_nats)) ?_
    rw [decide_eq_true rfl]
    refine ⟨_, rfl, ?_⟩
    rw [if_neg (by simp)]
    have hI14 := hI13.stp S14
    have hq14 := S14.keep0 hq13
    clear hI13 hq13 ht hq2 S14
    generalize upd H13 z (.tup [.bl false, .ref q]) = H14 at hI14 hq14 ⊢
    clear hz
    walk_at "rd"
    rw [show ((es1.length : Nat) : Int) + ((more : Nat) : Int) = ((es1.length + more : Nat) : Int) by omega]
    refine call H14 (es1.length + more) _ _ hI14 fun H15 t S15 hcase => ?_
    have hI15 := hI14.stp S15
    have hq15 := S15.keep0 hq14
    obtain ⟨-, q3, ht, hq3⟩ := hcase.resolve_right (fun z => by omega)
    clear hcase hI14 S15 hq14
    walk_at "rd"
    intro z hz
    have S16 := (Stp.refl [] H15).new (o := .tup [.bl false, .ref q]) hz
    refine v_neE (α := Bool × List Nat) (x := (false, S.paper)) (y := (false, S.paper)) (is_pr (SqT.of (S16.keep0 ht)) is_bl (is_lst (SqL.of (S16.keep0 hq3)) isl_nats)) (is_pr (SqT.of upd_same) is_bl (is_lst (SqL.of (S16.keep0 hq15)) isl_nats)) ?_
    rw [decide_eq_true rfl]
    refine ⟨_, rfl, ?_⟩
    rw [if_neg (by simp)]
    have hI16 := hI15.stp S16
    have hq16 := S16.keep0 hq15
    clear hI15 hq15 ht hq3 S16
    generalize upd H15 z (.tup [.bl false, .ref q]) = H16 at hI16 hq16 ⊢
    clear hz
    walk_at "rd"
    refine ⟨a, ns, 4, rfl, hI16.s_, fun c4' => ?_⟩
    obtain ⟨F, hF, hF2⟩ : ∃ F : Nat, c4' / 41 % (if (es1.length : Int) > 1 then (es1.length : Int) else 1) = F ∧ (0 < es1.length → F < es1.length) := by
      have h1 : 0 < (if (es1.length : Int) > 1 then (es1.length : Int) else 1) := by split <;> omega
      have h2 : 0 < es1.length → (if (es1.length : Int) > 1 then (es1.length : Int) else 1) = es1.length := fun z => by split <;> omega
      generalize (if (es1.length : Int) > 1 then (es1.length : Int) else 1) = y at h1 h2
      have h3 := Int.emod_nonneg (c4' / 41) (show y ≠ 0 by omega)
      have h4 := Int.emod_lt_of_pos (c4' / 41) h1
      exact ⟨(c4' / 41 % y).toNat, by omega, fun z => by have := h2 z; omega⟩
    walk_at "ri"
    rw [hF]
    refine r_J (fun σ' H' => (LInv K A a rq tb ax ns row ks least low R1 R2 I1 I2 H' R1' R2' S w es1 log2 V.non ∧ H' q = some (.lst (nv S.paper))) ∧ σ' = [some (.ref a), some (.ref rq), some (.int least), some (.int low), some (.ref tb), some (.ref I1.s), some (.ref R1.p), some (.ref I2.s), some (.ref R2.p), some .non, some (.int es1.length), some (.ref q), some (.int more), some (.int F), none]) ?_ fun N hN => ?_
    rotate_left
    · walk_at "rd"
      by_cases hpos : 0 < es1.length
      · rw [if_pos (decide_eq_true (by omega))]
        walk_at "rd"
        refine call H16 F _ _ hI16 fun H17 t S17 hcase => ?_
        have hI17 := hI16.stp S17
        have hq17 := S17.keep0 hq16
        obtain ⟨-, ht⟩ := hcase.resolve_left (fun z => by have := hF2 hpos; have := z.1; omega)
        walk_at "rd"
        intro z hz
        have S18 := (Stp.refl [] H17).new (o := .tup [.bl true, .non]) hz
        refine v_neR (d := .tuple [.bool true, .none]) (.tup (SqT.of (S18.keep0 ht)) (.cons (.bl _) (.cons .non .nil))) (.tup (SqT.of upd_same) (.cons (.bl _) (.cons .non .nil))) (by decide +kernel) ?_
        refine ⟨_, rfl, ?_⟩
        rw [if_neg (by simp)]
        walk_at "rd"
        exact hN _ _ ⟨⟨hI17.stp S18, S18.keep0 hq17⟩, rfl⟩
      · rw [if_neg (by rw [decide_eq_true_eq]; omega), if_neg (by simp)]
        walk_at "rd"
        exact hN _ _ ⟨⟨hI16, hq16⟩, rfl⟩
    rintro σ' H2 ⟨⟨hI17, hq17⟩, rfl⟩
    dsimp only
    have hR := hI17.rq_
    have hrow := hI17.row_
    have hrl2 := hrow.1
    clear hI16 hq16 call hI17
    walk_at "rd"
    intro dq hdq
    have hcv : cutV row (some (low : Int)) none = row.drop low := by
      have := cut_map (fun v : V => v) row (some (low : Int)) none
      rw [List.map_id', List.map_id', cutL_from] at this
      exact this
    rw [hcv]
    have S18 := (Stp.refl [] H2).new (o := .lst (row.drop low)) hdq
    have hdq8 := upd_same (H := H2) (a := dq) (o := .lst (row.drop low))
    have hrow8 := hrow.stp S18
    have hq18 := S18.keep0 hq17
    generalize upd H2 dq (.lst (row.drop low)) = H18 at S18 hdq8 hrow8 hq18 ⊢
    clear S18 hR hrow hq17 hdq hcv
    have hrd : ∀ x ∈ row.drop low, ∃ (t : Addr) (p : Nat), x = .ref t ∧ H18 t = some (.tup [.int (getE ks p), .int (p : Nat)]) := fun x hx => by
      obtain ⟨i, hi, e⟩ := List.getElem_of_mem (List.mem_of_mem_drop hx)
      obtain ⟨t, h1, h2⟩ := hrow8.2 i x (by rw [← e]; exact List.getElem?_eq_getElem hi)
      exact ⟨t, i, h1, h2⟩
    walk_at "rd"
    refine ⟨dq, row.drop low, kOf H18, rfl, SqL.of hdq8, fun x hx => ?_, fun zs zl hsrt hstb hzl => ?_⟩
    · obtain ⟨t, p, h1, h2⟩ := hrd x hx
      exact ⟨t, h1, by rw [h1, kOf_at h2]; exact h2⟩
    have hzs : ∀ x ∈ zs, ∃ (t : Addr) (p : Nat), x = .ref t ∧ H18 t = some (.tup [.int (getE ks p), .int (p : Nat)]) := fun x hx => hrd x (hstb.perm.mem_iff.mp hx)
    have hzl2 := hstb.len
    rw [List.length_drop] at hzl2
    walk_at "rd"
    intro D2 hD2
    refine lc_it (walk_list (xs := zs)) (fun j H' => Stp [] (upd H18 zl (.lst zs)) H' ∧ ∃ ord : List Nat, ord.length = j ∧ (∀ (i o : Nat), ord[i]? = some o → ∃ t, zs[i]? = some (.ref t) ∧ H18 t = some (.tup [.int (getE ks o), .int (o : Nat)])) ∧ H' D2 = some (.lst (nv ord))) ⟨(Stp.refl _ _).new hD2, [], rfl, (by intro i o e; simp at e), upd_same⟩ (fun j H' _ z => z.1.sql0 (SqL.of upd_same)) ?_ ?_
    · rintro j x H4 H5 hj ⟨S', ord, hol, hord, hL⟩ ⟨rfl, hx⟩
      obtain ⟨t, p, rfl, ht⟩ := hzs x (List.mem_of_getElem? hx)
      have ht5 := S'.tup (upd_old (u := .lst zs) ht hzl)
      walk_at "rd"
      refine v_ixTn (n := 1) (SqT.of ht5) rfl rfl ?_
      refine ⟨_, hL, Nat.lt_of_le_of_lt (m := 1000) (by rw [List.length_map]; omega) (by decide), S'.putN hD2, ord ++ [p], by simp [hol], fun i o e => ?_, by rw [upd_same, nv_app]⟩
      by_cases hi : i < ord.length
      · rw [List.getElem?_append_left hi] at e; exact hord i o e
      · rw [List.getElem?_append_right (by omega)] at e
        have hz : i = ord.length := by
          have := (List.getElem?_eq_some_iff.mp e).1
          simp at this; omega
        subst hz
        simp at e
        subst e
        exact ⟨t, by rw [hol]; exact hx, ht⟩
    rintro H4 ⟨S4, ord, hol, hord, hO4⟩
    obtain ⟨g1, g2⟩ := sorted_low hrow8 hlow2 hsrt hstb.perm hol hord
    obtain rfl := ahd_uniq hpw g1 (hpp.trans g2.symm)
    refine v_eqE (is_lst (SqL.of (S4.keep0 (upd_old hq18 hzl))) isl_nats) (is_lst (SqL.of hO4) isl_nats) ?_
    rw [decide_eq_true rfl]
    exact k _
  · rw [if_pos (by simp [hsv]), if_neg hsv]
    refine r_next_turn ?_
    refine r_seq3 (fun σ' H' => ∃ (R1' R2' : PIL) (S' : PS) (w : Nat) (es1 log2 : List Ent) (sv : V), (if sv = .non then 0 else S'.rest + 1) < S.rest + 1 ∧ LInv K A a rq tb ax ns row ks least low R1 R2 I1 I2 H' R1' R2' S' w es1 log2 sv ∧
      σ' = [some (.ref a), some (.ref rq), some (.int least), some (.int low), some (.ref tb), some (.ref I1.s), some (.ref R1.p), some (.ref I2.s), some (.ref R2.p), some sv, none, none, none, none, none]) ?_ fun N hN => ?_
    · clear hI ok hsv
      rintro σ' H12 ⟨R1', R2', S', w, es1, log2, sv, hlt, hI, rfl⟩
      have ok := hI.run.ok ok0
      have hp1 := hI.r1.hp
      have hp2 := hI.r2.hp
      rw [hI.e1] at hp1
      rw [hI.e2] at hp2
      walk_at "rd"
      refine ⟨R2', I2, S', by rw [← hI.e2]; rfl, ⟨hI.r2, by rw [hn2]; exact ok, by omega⟩, fun H13 q1 tas1 hq1 S13 hq11 htas1 htal1 hst1 => ?_⟩
      have hI13 := hI.stp S13
      have hs13 := std_is (K := K) htal1 hst1
      have hp1 := hI13.r1.hp
      rw [hI.e1] at hp1
      clear hI
      walk_at "rd"
      refine ⟨R1', I1, S', by rw [← hI13.e1]; rfl, ⟨hI13.r1, by rw [hn1]; exact ok, by omega⟩, fun H14 q2 tas2 hq2 S14 hq22 htas2 htal2 hst2 => ?_⟩
      have hI14 := hI13.stp S14
      have hs14 := std_is (K := K) htal2 hst2
      have hp1 := hI14.r1.hp
      have hp2 := hI14.r2.hp
      rw [hI13.e1] at hp1
      rw [hI13.e2] at hp2
      refine v_neE (is_lst (SqL.of (S14.keep0 hq11)) (isl_stp S14 hs13)) (is_lst (SqL.of hq22) hs14) ?_
      rw [decide_eq_true rfl]
      refine ⟨_, rfl, ?_⟩
      clear hI13
      walk_at "rd"
      refine ⟨R2', I2, S', by rw [← hI14.e2]; rfl, ⟨hI14.r2, by rw [hn2]; exact ok, by omega⟩, fun H15 q3 hq3 S15 hq33 => ?_⟩
      have hI15 := hI14.stp S15
      have hp1 := hI15.r1.hp
      rw [hI14.e1] at hp1
      walk_at "rd"
      refine ⟨R1', I1, S', by rw [← hI15.e1]; rfl, ⟨hI15.r1, by rw [hn1]; exact ok, by omega⟩, fun H16 q4 hq4 S16 hq44 => ?_⟩
      have hI16 := hI15.stp S16
      refine v_neE (is_lst (SqL.of (S16.keep0 hq33)) isl_nats) (is_lst (SqL.of hq44) isl_nats) ?_
      rw [decide_eq_true rfl]
      refine ⟨_, rfl, ?_⟩
      rw [if_neg (by simp)]
      walk_at "rd"
      exact ⟨_, hlt, R1', R2', S', w, es1, log2, sv, rfl, hI16, rfl⟩
    · have hp1 := hI.r1.hp
      rw [hI.e1] at hp1
      walk_at "rd"
      refine ⟨R1', I1, es1, S, by rw [← hI.e1]; rfl, ⟨hI.r1, hI.a1, by rw [hn1]; exact ok, by omega, ?_⟩, Stop.free em1, fun hd => ?_, fun H12 t R1n es S' d h1 h2 h3 h4 h5 h6 h7 h8 h9 h10 => ?_⟩
      · have := hI.few.bd (by rw [hn1]; exact ok)
        rw [hpre1]
        simp only [List.length_nil]
        omega
      · walk_at "rd"
        refine ⟨a, ns, 4, rfl, hI.s_, fun c4 => ?_⟩
        have h80 := Int.emod_nonneg (c4 / 41) (show (8 : Int) ≠ 0 by decide)
        obtain ⟨more, hmore⟩ : ∃ m : Nat, c4 / 41 % 8 = m := ⟨(c4 / 41 % 8).toNat, by omega⟩
        walk_at "rd"
        rw [hmore]
        have hl2 := hI.l2
        refine ⟨R2', I2.wide w, log2, S, more, m0 + w, by rw [← hI.e2]; rfl, ⟨hI.r2.wide, hI.a2, by show S.Ok I2.n; rw [hn2]; exact ok, by show I2.n ≤ 24; omega, wide_some em2, by show log2.length + I2.pre.length ≤ 40000; rw [hpre2]; simp only [List.length_nil]; omega⟩, fun _ H13 w2 log' hl S13 hA13 => ?_, fun H13 t R' w2 S2 es2 log' d2 g1 g2 g3 => (hd.no g3).elim⟩
        rw [wide_wide] at hA13
        have m2 : ∀ m ∈ (I2.wide w).M, m ∈ I2.own := fun m hm => Ask.Mown hm
        walk_at "rd"
        refine v_neNN ?_
        refine ⟨_, rfl, ?_⟩
        rw [if_neg (by simp)]
        walk_at "rd"
        have mR1 : ∀ m ∈ (I2.wide w).M, m ∉ R1'.own := fun m hm z => (hI.dis m (.inl z)).2 (m2 m hm)
        have mI1 : ∀ m ∈ (I2.wide w).M, m ∉ I1.own := fun m hm z => (hI.dis m (.inr z)).2 (m2 m hm)
        have mP : ∀ x ∈ rq :: tb :: ax, x ∉ (I2.wide w).M := fun x hx z => hP2 x hx (m2 x z)
        refine hN _ _ ⟨R1', R2', S, w + w2, es1, log', .non, by rw [if_pos rfl]; omega, ⟨fun _ => hd, .inl rfl, hI.e1, hI.e2, hI.r1.stp S13 mR1, hI.r2.wide.ask S13 |>.unwide, hI.a1.stp S13 mI1, hA13, hI.run, hI.few, hI.tr, ?_, hI.dis, fun x hx => ⟨fun z => (hI.pr x hx).1 (S13.dom x z), (hI.pr x hx).2⟩, S13.keep hI.rq_ (mP rq (by simp)), S13.keep hI.tb_ (mP tb (by simp)), hI.row_.stp S13, ?_⟩, rfl⟩
        · rw [if_neg hsv] at hl2
          rw [if_pos rfl]
          omega
        · rcases hSa with g | g
          · exact S13.sql hI.s_ (mP a (by simp [g]))
          · exact g H13
      · have hsa12 : SqL K H12 a (ns.map V.int) := by
          rcases hSa with g | g
          · refine h6.sql hI.s_ fun z => ?_
            simp only [PIL.M, List.mem_cons] at z
            have h1 := (hI.pr a (by simp [g])).2.1
            rcases z with z | z | z | z
            · exact h1 (by rw [z]; simp [PIL.own])
            · exact h1 (by rw [z]; simp [PIL.own])
            · exact h1 (by rw [z]; simp [PIL.own])
            · exact hP1 a (by simp [g]) (Ask.Mown z)
          · exact g H12
        have m1 : ∀ m ∈ R1'.M I1, m ∈ R1'.own ∨ m ∈ I1.own := fun m hm => by
          simp only [PIL.M, List.mem_cons] at hm
          rcases hm with z | z | z | z
          · exact .inl (by rw [z]; simp [PIL.own])
          · exact .inl (by rw [z]; simp [PIL.own])
          · exact .inl (by rw [z]; simp [PIL.own])
          · exact .inr (Ask.Mown z)
        have hr212 := hI.r2.stp h6 fun m hm => (hI.dis m (m1 m hm)).1
        have ha212 := hI.a2.stp h6 fun m hm => (hI.dis m (m1 m hm)).2
        have p12 : ∀ x ∈ rq :: tb :: ax, x ∉ R1'.M I1 := fun x hx z => (m1 x z).elim (hI.pr x hx).2.1 (hP1 x hx)
        have hrq12 := h6.keep hI.rq_ (p12 rq (by simp))
        have htb12 := h6.keep hI.tb_ (p12 tb (by simp))
        have hrow12 := hI.row_.stp h6
        have hp2 := hr212.hp
        rw [hI.e2] at hp2
        have hTes : ∀ e ∈ es, e.c = decide (getE ks e.a < getE ks e.b) := Told.all (by rw [hor1] at h5; exact h5)
        have hl2 := hI.l2
        rw [if_neg hsv] at hl2
        have hrest := h3.rest ok
        walk_at "rd"
        refine ⟨a, ns, 4, rfl, hsa12, fun c4 => ?_⟩
        have h80 := Int.emod_nonneg (c4 / 41) (show (8 : Int) ≠ 0 by decide)
        obtain ⟨more, hmore⟩ : ∃ m : Nat, c4 / 41 % 8 = m := ⟨(c4 / 41 % 8).toNat, by omega⟩
        walk_at "rd"
        rw [hmore]
        refine ⟨R2', I2.wide w, log2, S, more, m0 + w, by rw [← hI.e2]; rfl, ⟨hr212.wide, ha212, by show S.Ok I2.n; rw [hn2]; exact ok, by show I2.n ≤ 24; omega, wide_some em2, by show log2.length + I2.pre.length ≤ 40000; rw [hpre2]; simp only [List.length_nil]; omega⟩, fun hd => (PS.done.no hd h3).elim, fun H13 t2 R2n w2 S2 es2 log' d2 g1 g2 g3 g4 g5 g6 g7 g8 g9 g10 => ?_⟩
        rw [wide_wide] at g7
        have hlt2 : ∀ e ∈ es2, e.c = decide (getE ks e.a < getE ks e.b) := fun e he => by
          have := g4 e he
          rw [show (I2.wide w).lt e.a e.b = decide (getE I2.ks e.a < getE I2.ks e.b) from rfl, hks2] at this
          exact this
        obtain ⟨rfl, rfl, rfl⟩ := h3.uniq (f := fun a b => decide (getE ks a < getE ks b)) (n := ks.length) g3 ok hTes hlt2
        walk_at "rd"
        refine v_neR (d := .tuple [.str d.w, .int d.a, .int d.b, .int d.c]) (.tup (SqT.of g10) (.cons (.str _) (.cons (.int _) (.cons (.int _) (.cons (.int _) .nil))))) (.tup (SqT.of (g6.tup h10)) (.cons (.str _) (.cons (.int _) (.cons (.int _) (.cons (.int _) .nil))))) (dd_shaped d) ?_
        refine ⟨_, rfl, ?_⟩
        rw [if_neg (by simp)]
        walk_at "rd"
        have m2 : ∀ m ∈ R2'.M (I2.wide w), m ∈ R2'.own ∨ m ∈ I2.own := fun m hm => by
          simp only [PIL.M, List.mem_cons] at hm
          rcases hm with z | z | z | z
          · exact .inl (by rw [z]; simp [PIL.own])
          · exact .inl (by rw [z]; simp [PIL.own])
          · exact .inl (by rw [z]; simp [PIL.own])
          · exact .inr (Ask.Mown z)
        have old : ∀ b, H11 b ≠ none → H12 b ≠ none := fun b h z => h (h6.dom b z)
        have dis2 : ∀ b, b ∈ R1n.own ∨ b ∈ I1.own → b ∉ R2'.own ∧ b ∉ I2.own := fun b hb => by
          rcases hb with hb | hb
          · rcases h2 b hb with hb | hb
            · exact hI.dis b (.inl hb)
            · exact ⟨fun z => hI.r2.there z hb, fun z => hI.a2.there (b := b) z hb⟩
          · exact hI.dis b (.inr hb)
        have there1 : ∀ b, b ∈ R1n.own ∨ b ∈ I1.own → H12 b ≠ none := fun b hb => by
          rcases hb with hb | hb
          · exact h8.there hb
          · exact h7.there hb
        have dis3 : ∀ b, b ∈ R1n.own ∨ b ∈ I1.own → b ∉ R2n.own ∧ b ∉ I2.own := fun b hb => ⟨fun z => by
          rcases g2 b z with z | z
          · exact (dis2 b hb).1 z
          · exact there1 b hb z, (dis2 b hb).2⟩
        have q2 : ∀ m ∈ R2'.M (I2.wide w), m ∉ R1n.own ∧ m ∉ I1.own := fun m hm => ⟨fun z => by
          have := dis2 m (.inl z)
          exact (m2 m hm).elim this.1 this.2, fun z => by
          have := dis2 m (.inr z)
          exact (m2 m hm).elim this.1 this.2⟩
        have p13 : ∀ x ∈ rq :: tb :: ax, x ∉ R2'.M (I2.wide w) := fun x hx z => (m2 x z).elim (hI.pr x hx).2.2 (hP2 x hx)
        refine hN _ _ ⟨R1n, R2n, S', w + w2, es1 ++ es, log', .ref t, by rw [if_neg (by simp)]; omega, ⟨(fun z => by cases z), .inr ⟨_, rfl⟩, h1.trans hI.e1, g1.trans hI.e2, h8.stp g6 fun m hm => (q2 m hm).1, g8.unwide, h7.stp g6 fun m hm => (q2 m hm).2, g7, hI.run.snoc h3, hI.few.step h3 h4 (by rw [hn1] at *; exact ok.lc), fun e he => ?_, ?_, dis3, fun x hx => ⟨fun z => (hI.pr x hx).1 (h6.dom x (g6.dom x z)), fun z => ?_, fun z => ?_⟩, g6.keep hrq12 (p13 rq (by simp)), g6.keep htb12 (p13 tb (by simp)), hrow12.stp g6, ?_⟩, rfl⟩
        · rcases List.mem_append.mp he with he | he
          · exact hI.tr e he
          · exact hTes e he
        · rw [if_neg (by simp)]
          omega
        · rcases h2 x z with z | z
          · exact (hI.pr x hx).2.1 z
          · exact (hI.pr x hx).1 z
        · rcases g2 x z with z | z
          · exact (hI.pr x hx).2.2 z
          · exact old x (hI.pr x hx).1 z
        · rcases hSa with g | g
          · exact g6.sql hsa12 (p13 a (by simp [g]))
          · exact g H13
theorem all_mk {l : PySem.W.OpenLaw} {w : World} {K : PySem.W.Frag} {h : Heap} {mg : Str → Option Value} {fa : Addr} (X : K.In h) (G : h.Ns mainGlobals mg) (hfa : mg "law" = some (.ref fa))
    {f1 f2 f3 f4 f5 f6 f7 f8 f9 f10 f11 f12 f13 f14 f15 f16 f17 f18 f19 f20 f21 f22 f23 f24 f25 f26 f27 f28 f29 f30 f31 c_Pile c_HallError c_Spent c_Asker c_Rule c_AskedRule : Addr} {od1 an1 od2 an2 od3 an3 od4 an4 od5 an5 od6 an6 od7 an7 od8 an8 od9 an9 od10 an10 od11 an11 od12 an12 od13 an13 od14 an14 od15 an15 od16 an16 od17 an17 od18 an18 od19 an19 od20 an20 od21 an21 od22 an22 od23 an23 od24 an24 od25 an25 od26 an26 od27 an27 od28 an28 od29 an29 od30 an30 od31 an31 : Option Addr} {sl1 sl2 sl3 sl4 sl5 sl6 sl7 sl8 sl9 sl10 sl11 sl12 sl13 sl14 sl15 sl16 sl17 sl18 sl19 sl20 sl21 sl22 sl23 sl24 sl25 sl26 sl27 sl28 sl29 sl30 sl31 : Array (Option Value)} {oc1 kV1 dc1 pm1 cd1 ct1 oc2 kV2 dc2 pm2 cd2 ct2 oc3 kV3 dc3 pm3 cd3 ct3 oc4 kV4 dc4 pm4 cd4 ct4 oc5 kV5 dc5 pm5 cd5 ct5 oc6 kV6 dc6 pm6 cd6 ct6 oc7 kV7 dc7 pm7 cd7 ct7 oc8 kV8 dc8 pm8 cd8 ct8 oc9 kV9 dc9 pm9 cd9 ct9 oc10 kV10 dc10 pm10 cd10 ct10 oc11 kV11 dc11 pm11 cd11 ct11 oc12 kV12 dc12 pm12 cd12 ct12 oc13 kV13 dc13 pm13 cd13 ct13 oc14 kV14 dc14 pm14 cd14 ct14 oc15 kV15 dc15 pm15 cd15 ct15 oc16 kV16 dc16 pm16 cd16 ct16 oc17 kV17 dc17 pm17 cd17 ct17 oc18 kV18 dc18 pm18 cd18 ct18 oc19 kV19 dc19 pm19 cd19 ct19 oc20 kV20 dc20 pm20 cd20 ct20 oc21 kV21 dc21 pm21 cd21 ct21 oc22 kV22 dc22 pm22 cd22 ct22 oc23 kV23 dc23 pm23 cd23 ct23 oc24 kV24 dc24 pm24 cd24 ct24 oc25 kV25 dc25 pm25 cd25 ct25 oc26 kV26 dc26 pm26 cd26 ct26 oc27 kV27 dc27 pm27 cd27 ct27 oc28 kV28 dc28 pm28 cd28 ct28 oc29 kV29 dc29 pm29 cd29 ct29 oc30 kV30 dc30 pm30 cd30 ct30 oc31 kV31 dc31 pm31 cd31 ct31 : Value} {nm_Spent q_Spent : Str} {N_Spent : Addr} {bs_Spent : List Value} {sn_Spent : List Str} {su_Spent : List Value} {ab_Spent : Bool} {co_Spent : Option Bool} {dd_Spent : Option Addr} {m0_Spent m1_Spent m2_Spent m3_Spent m5_Spent : Option Value} {dT8 : Addr} {oT8 : Value} {oU8 : Option Addr} {tsl8 : Array (Option Value)} {nT8 : Nat} {dT15 : Addr} {oT15 : Value} {oU15 : Option Addr} {tsl15 : Array (Option Value)} {nT15 : Nat} {dT17 : Addr} {oT17 : Value} {oU17 : Option Addr} {tsl17 : Array (Option Value)} {nT17 : Nat} {tk23_0 : Tok} {dT23 : Addr} {oT23 : Value} {oU23 : Option Addr} {tsl23 : Array (Option Value)} {nT23 : Nat} {tk28_0 : Tok} {dT28 : Addr} {oT28 : Value} {oU28 : Option Addr} {tsl28 : Array (Option Value)} {nT28 : Nat} {t_WINS : Tok}
    (aC_Pile : PySem.W.nsIn K mainGlobals "Pile" = some (some (.ref c_Pile)))
    (pg_Pile : PySem.W.plainGet K c_Pile Str.empty = true)
    (hd_Pile : PySem.W.hasDictIn K c_Pile = true)
    (po_Pile : PySem.W.plainOver K c_Pile = true)
    (sa_Pile : PySem.W.findIn K (.ref c_Pile) "__setattr__" = some (some (.builtin "object.__setattr__")))
    (mk_Pile : PySem.W.makesIn K c_Pile = true)
    (kc_Pile : PySem.W.keepIn K (.ref c_Pile) = true)
    (na_Pile_asker : PySem.W.findIn K (.ref c_Pile) "asker" = some none)
    (na_Pile_least : PySem.W.findIn K (.ref c_Pile) "least" = some none)
    (na_Pile_low : PySem.W.findIn K (.ref c_Pile) "low" = some none)
    (na_Pile_end : PySem.W.findIn K (.ref c_Pile) "end" = some none)
    (na_Pile_come : PySem.W.findIn K (.ref c_Pile) "come" = some none)
    (na_Pile_newest : PySem.W.findIn K (.ref c_Pile) "newest" = some none)
    (na_Pile_spans : PySem.W.findIn K (.ref c_Pile) "spans" = some none)
    (na_Pile_grades : PySem.W.findIn K (.ref c_Pile) "grades" = some none)
    (aC_HallError : PySem.W.nsIn K mainGlobals "HallError" = some (some (.ref c_HallError)))
    (xn_HallError : PySem.W.excIn K c_HallError [.type "ValueError", .type "Exception", .type "BaseException", .type "object"] "ValueError.__new__" = true)
    (kp_HallError : PySem.W.keepIn K (.ref c_HallError) = true)
    (sb_HallError : PySem.W.subIn K (.ref c_HallError) (.type "BaseException") = some true)
    (ty_HallError : PySem.W.typeIn K (.ref c_HallError) = some (.type "type"))
    (e0_HallError : PySem.W.findIn K (.ref c_HallError) "__getattribute__" = some (some (.builtin "BaseException.__getattribute__")))
    (e1_HallError : PySem.W.findIn K (.ref c_HallError) "__getattr__" = some none)
    (e2_HallError : PySem.W.subIn K (.ref c_HallError) (.type "BaseException") = some true)
    (e3_HallError : PySem.W.hasDictIn K c_HallError = true)
    (e4_HallError : PySem.W.findIn K (.ref c_HallError) "__class__" = some (some (.builtin "object.__class__")))
    (e5_HallError : PySem.W.specialIn K (.builtin "object.__class__") "__get__" = some (some (.builtin "getset_descriptor.__get__")))
    (e6_HallError : PySem.W.takesIn K (.builtin "object.__class__") = some true)
    (e7_HallError : PySem.W.mroIn K c_HallError (.type "object") = some true)
    (aC_Spent : PySem.W.nsIn K mainGlobals "Spent" = some (some (.ref c_Spent)))
    (xL_Spent : K.lookup c_Spent = some (excClassObj nm_Spent q_Spent c_Spent N_Spent bs_Spent [.ref c_HallError, .type "ValueError", .type "Exception", .type "BaseException", .type "object"] true sn_Spent su_Spent ab_Spent co_Spent dd_Spent m0_Spent m1_Spent m2_Spent m3_Spent m5_Spent "ValueError.__new__"))
    (sa_Spent : PySem.W.findIn K (.ref c_Spent) "__setattr__" = some (some (.builtin "object.__setattr__")))
    (in_Spent : PySem.W.findIn K (.ref c_Spent) "__init__" = some (some (.ref f1)))
    (tI_Spent : PySem.W.typeIn K (.ref f1) = some (.type "function"))
    (na_Spent_asked : PySem.W.findIn K (.ref c_Spent) "asked" = some none)
    (kp_Spent : PySem.W.keepIn K (.ref c_Spent) = true)
    (sb_Spent : PySem.W.subIn K (.ref c_Spent) (.type "BaseException") = some true)
    (ty_Spent : PySem.W.typeIn K (.ref c_Spent) = some (.type "type"))
    (e0_Spent : PySem.W.findIn K (.ref c_Spent) "__getattribute__" = some (some (.builtin "BaseException.__getattribute__")))
    (e1_Spent : PySem.W.findIn K (.ref c_Spent) "__getattr__" = some none)
    (e2_Spent : PySem.W.subIn K (.ref c_Spent) (.type "BaseException") = some true)
    (e3_Spent : PySem.W.hasDictIn K c_Spent = true)
    (e4_Spent : PySem.W.findIn K (.ref c_Spent) "__class__" = some (some (.builtin "object.__class__")))
    (e5_Spent : PySem.W.specialIn K (.builtin "object.__class__") "__get__" = some (some (.builtin "getset_descriptor.__get__")))
    (e6_Spent : PySem.W.takesIn K (.builtin "object.__class__") = some true)
    (e7_Spent : PySem.W.mroIn K c_Spent (.type "object") = some true)
    (aC_Asker : PySem.W.nsIn K mainGlobals "Asker" = some (some (.ref c_Asker)))
    (pg_Asker : PySem.W.plainGet K c_Asker Str.empty = true)
    (hd_Asker : PySem.W.hasDictIn K c_Asker = true)
    (po_Asker : PySem.W.plainOver K c_Asker = true)
    (sa_Asker : PySem.W.findIn K (.ref c_Asker) "__setattr__" = some (some (.builtin "object.__setattr__")))
    (mk_Asker : PySem.W.makesIn K c_Asker = true)
    (kc_Asker : PySem.W.keepIn K (.ref c_Asker) = true)
    (na_Asker_row : PySem.W.findIn K (.ref c_Asker) "row" = some none)
    (na_Asker_rule : PySem.W.findIn K (.ref c_Asker) "rule" = some none)
    (na_Asker_most : PySem.W.findIn K (.ref c_Asker) "most" = some none)
    (na_Asker_asked : PySem.W.findIn K (.ref c_Asker) "asked" = some none)
    (na_Asker_log : PySem.W.findIn K (.ref c_Asker) "log" = some none)
    (aC_Rule : PySem.W.nsIn K mainGlobals "Rule" = some (some (.ref c_Rule)))
    (pg_Rule : PySem.W.plainGet K c_Rule Str.empty = true)
    (hd_Rule : PySem.W.hasDictIn K c_Rule = true)
    (po_Rule : PySem.W.plainOver K c_Rule = true)
    (sa_Rule : PySem.W.findIn K (.ref c_Rule) "__setattr__" = some (some (.builtin "object.__setattr__")))
    (mk_Rule : PySem.W.makesIn K c_Rule = true)
    (kc_Rule : PySem.W.keepIn K (.ref c_Rule) = true)
    (aC_AskedRule : PySem.W.nsIn K mainGlobals "AskedRule" = some (some (.ref c_AskedRule)))
    (pg_AskedRule : PySem.W.plainGet K c_AskedRule Str.empty = true)
    (hd_AskedRule : PySem.W.hasDictIn K c_AskedRule = true)
    (po_AskedRule : PySem.W.plainOver K c_AskedRule = true)
    (sa_AskedRule : PySem.W.findIn K (.ref c_AskedRule) "__setattr__" = some (some (.builtin "object.__setattr__")))
    (mk_AskedRule : PySem.W.makesIn K c_AskedRule = true)
    (kc_AskedRule : PySem.W.keepIn K (.ref c_AskedRule) = true)
    (na_AskedRule_teller : PySem.W.findIn K (.ref c_AskedRule) "teller" = some none)
    (i1 : PySem.W.isFn K (.ref f1) = true)
    (l1 : K.lookup f1 = some ⟨oc1, od1, .func (PySem.W.fnOf "__init__" "Spent.__init__" (defArgs s_Spent___init__) (defBody s_Spent___init__) (defScope s_Spent___init__) .none kV1 dc1 pm1 an1 cd1 ct1), sl1⟩)
    (c1 : PySem.W.codeIn K cd1 "Spent.__init__" = true)
    (k1 : PySem.W.keepIn K (.ref f1) = true)
    (a2_AskedRule : PySem.W.findIn K (.ref c_AskedRule) "__init__" = some (some (.ref f2)))
    (i2 : PySem.W.isFn K (.ref f2) = true)
    (l2 : K.lookup f2 = some ⟨oc2, od2, .func (PySem.W.fnOf "__init__" "AskedRule.__init__" (defArgs s_AskedRule___init__) (defBody s_AskedRule___init__) (defScope s_AskedRule___init__) .none kV2 dc2 pm2 an2 cd2 ct2), sl2⟩)
    (c2 : PySem.W.codeIn K cd2 "AskedRule.__init__" = true)
    (k2 : PySem.W.keepIn K (.ref f2) = true)
    (a3 : PySem.W.nsIn K mainGlobals "_law_first" = some (some (.ref f3)))
    (l3 : K.lookup f3 = some ⟨oc3, od3, .func (PySem.W.fnOf "_law_first" "_law_first" (defArgs s__law_first) (defBody s__law_first) (defScope s__law_first) .none kV3 dc3 pm3 an3 cd3 ct3), sl3⟩)
    (c3 : PySem.W.codeIn K cd3 "_law_first" = true)
    (k3 : PySem.W.keepIn K (.ref f3) = true)
    (a4_AskedRule : PySem.W.findIn K (.ref c_AskedRule) "before" = some (some (.ref f4)))
    (i4 : PySem.W.isFn K (.ref f4) = true)
    (l4 : K.lookup f4 = some ⟨oc4, od4, .func (PySem.W.fnOf "before" "AskedRule.before" (defArgs s_AskedRule_before) (defBody s_AskedRule_before) (defScope s_AskedRule_before) .none kV4 dc4 pm4 an4 cd4 ct4), sl4⟩)
    (c4 : PySem.W.codeIn K cd4 "AskedRule.before" = true)
    (k4 : PySem.W.keepIn K (.ref f4) = true)
    (a5_Asker : PySem.W.findIn K (.ref c_Asker) "ahead" = some (some (.ref f5)))
    (i5 : PySem.W.isFn K (.ref f5) = true)
    (l5 : K.lookup f5 = some ⟨oc5, od5, .func (PySem.W.fnOf "ahead" "Asker.ahead" (defArgs s_Asker_ahead) (defBody s_Asker_ahead) (defScope s_Asker_ahead) .none kV5 dc5 pm5 an5 cd5 ct5), sl5⟩)
    (c5 : PySem.W.codeIn K cd5 "Asker.ahead" = true)
    (k5 : PySem.W.keepIn K (.ref f5) = true)
    (a6_Asker : PySem.W.findIn K (.ref c_Asker) "widen" = some (some (.ref f6)))
    (i6 : PySem.W.isFn K (.ref f6) = true)
    (l6 : K.lookup f6 = some ⟨oc6, od6, .func (PySem.W.fnOf "widen" "Asker.widen" (defArgs s_Asker_widen) (defBody s_Asker_widen) (defScope s_Asker_widen) .none kV6 dc6 pm6 an6 cd6 ct6), sl6⟩)
    (c6 : PySem.W.codeIn K cd6 "Asker.widen" = true)
    (k6 : PySem.W.keepIn K (.ref f6) = true)
    (a7_Asker : PySem.W.findIn K (.ref c_Asker) "many" = some (some (.ref f7)))
    (i7 : PySem.W.isFn K (.ref f7) = true)
    (l7 : K.lookup f7 = some ⟨oc7, od7, .func (PySem.W.fnOf "many" "Asker.many" (defArgs s_Asker_many) (defBody s_Asker_many) (defScope s_Asker_many) .none kV7 dc7 pm7 an7 cd7 ct7), sl7⟩)
    (c7 : PySem.W.codeIn K cd7 "Asker.many" = true)
    (k7 : PySem.W.keepIn K (.ref f7) = true)
    (a8_Asker : PySem.W.findIn K (.ref c_Asker) "__init__" = some (some (.ref f8)))
    (i8 : PySem.W.isFn K (.ref f8) = true)
    (l8 : K.lookup f8 = some ⟨oc8, od8, .func (PySem.W.fnOf "__init__" "Asker.__init__" (defArgs s_Asker___init__) (defBody s_Asker___init__) (defScope s_Asker___init__) (.ref dT8) kV8 dc8 pm8 an8 cd8 ct8), sl8⟩)
    (lt8 : K.lookup dT8 = some ⟨oT8, oU8, .seq ([Value.none] : List Value).toArray nT8, tsl8⟩)
    (c8 : PySem.W.codeIn K cd8 "Asker.__init__" = true)
    (k8 : PySem.W.keepIn K (.ref f8) = true)
    (a9 : PySem.W.nsIn K mainGlobals "spot_of" = some (some (.ref f9)))
    (l9 : K.lookup f9 = some ⟨oc9, od9, .func (PySem.W.fnOf "spot_of" "spot_of" (defArgs s_spot_of) (defBody s_spot_of) (defScope s_spot_of) .none kV9 dc9 pm9 an9 cd9 ct9), sl9⟩)
    (c9 : PySem.W.codeIn K cd9 "spot_of" = true)
    (k9 : PySem.W.keepIn K (.ref f9) = true)
    (a10 : PySem.W.nsIn K mainGlobals "grade" = some (some (.ref f10)))
    (l10 : K.lookup f10 = some ⟨oc10, od10, .func (PySem.W.fnOf "grade" "grade" (defArgs s_grade) (defBody s_grade) (defScope s_grade) .none kV10 dc10 pm10 an10 cd10 ct10), sl10⟩)
    (c10 : PySem.W.codeIn K cd10 "grade" = true)
    (k10 : PySem.W.keepIn K (.ref f10) = true)
    (a11 : PySem.W.nsIn K mainGlobals "halved_between" = some (some (.ref f11)))
    (l11 : K.lookup f11 = some ⟨oc11, od11, .func (PySem.W.fnOf "halved_between" "halved_between" (defArgs s_halved_between) (defBody s_halved_between) (defScope s_halved_between) .none kV11 dc11 pm11 an11 cd11 ct11), sl11⟩)
    (c11 : PySem.W.codeIn K cd11 "halved_between" = true)
    (k11 : PySem.W.keepIn K (.ref f11) = true)
    (a12 : PySem.W.nsIn K mainGlobals "leap" = some (some (.ref f12)))
    (l12 : K.lookup f12 = some ⟨oc12, od12, .func (PySem.W.fnOf "leap" "leap" (defArgs s_leap) (defBody s_leap) (defScope s_leap) .none kV12 dc12 pm12 an12 cd12 ct12), sl12⟩)
    (c12 : PySem.W.codeIn K cd12 "leap" = true)
    (k12 : PySem.W.keepIn K (.ref f12) = true)
    (a13 : PySem.W.nsIn K mainGlobals "leap_taken" = some (some (.ref f13)))
    (l13 : K.lookup f13 = some ⟨oc13, od13, .func (PySem.W.fnOf "leap_taken" "leap_taken" (defArgs s_leap_taken) (defBody s_leap_taken) (defScope s_leap_taken) .none kV13 dc13 pm13 an13 cd13 ct13), sl13⟩)
    (c13 : PySem.W.codeIn K cd13 "leap_taken" = true)
    (k13 : PySem.W.keepIn K (.ref f13) = true)
    (a14 : PySem.W.nsIn K mainGlobals "joined" = some (some (.ref f14)))
    (l14 : K.lookup f14 = some ⟨oc14, od14, .func (PySem.W.fnOf "joined" "joined" (defArgs s_joined) (defBody s_joined) (defScope s_joined) .none kV14 dc14 pm14 an14 cd14 ct14), sl14⟩)
    (c14 : PySem.W.codeIn K cd14 "joined" = true)
    (k14 : PySem.W.keepIn K (.ref f14) = true)
    (a15 : PySem.W.nsIn K mainGlobals "stretch_from" = some (some (.ref f15)))
    (l15 : K.lookup f15 = some ⟨oc15, od15, .func (PySem.W.fnOf "stretch_from" "stretch_from" (defArgs s_stretch_from) (defBody s_stretch_from) (defScope s_stretch_from) (.ref dT15) kV15 dc15 pm15 an15 cd15 ct15), sl15⟩)
    (lt15 : K.lookup dT15 = some ⟨oT15, oU15, .seq ([Value.none] : List Value).toArray nT15, tsl15⟩)
    (c15 : PySem.W.codeIn K cd15 "stretch_from" = true)
    (k15 : PySem.W.keepIn K (.ref f15) = true)
    (a16 : PySem.W.nsIn K mainGlobals "in_turn" = some (some (.ref f16)))
    (l16 : K.lookup f16 = some ⟨oc16, od16, .func (PySem.W.fnOf "in_turn" "in_turn" (defArgs s_in_turn) (defBody s_in_turn) (defScope s_in_turn) .none kV16 dc16 pm16 an16 cd16 ct16), sl16⟩)
    (c16 : PySem.W.codeIn K cd16 "in_turn" = true)
    (k16 : PySem.W.keepIn K (.ref f16) = true)
    (a17 : PySem.W.nsIn K mainGlobals "filled" = some (some (.ref f17)))
    (l17 : K.lookup f17 = some ⟨oc17, od17, .func (PySem.W.fnOf "filled" "filled" (defArgs s_filled) (defBody s_filled) (defScope s_filled) (.ref dT17) kV17 dc17 pm17 an17 cd17 ct17), sl17⟩)
    (lt17 : K.lookup dT17 = some ⟨oT17, oU17, .seq ([Value.none] : List Value).toArray nT17, tsl17⟩)
    (c17 : PySem.W.codeIn K cd17 "filled" = true)
    (k17 : PySem.W.keepIn K (.ref f17) = true)
    (a18_Pile : PySem.W.findIn K (.ref c_Pile) "lay" = some (some (.ref f18)))
    (i18 : PySem.W.isFn K (.ref f18) = true)
    (l18 : K.lookup f18 = some ⟨oc18, od18, .func (PySem.W.fnOf "lay" "Pile.lay" (defArgs s_Pile_lay) (defBody s_Pile_lay) (defScope s_Pile_lay) .none kV18 dc18 pm18 an18 cd18 ct18), sl18⟩)
    (c18 : PySem.W.codeIn K cd18 "Pile.lay" = true)
    (k18 : PySem.W.keepIn K (.ref f18) = true)
    (a19_Pile : PySem.W.findIn K (.ref c_Pile) "put_together" = some (some (.ref f19)))
    (i19 : PySem.W.isFn K (.ref f19) = true)
    (l19 : K.lookup f19 = some ⟨oc19, od19, .func (PySem.W.fnOf "put_together" "Pile.put_together" (defArgs s_Pile_put_together) (defBody s_Pile_put_together) (defScope s_Pile_put_together) .none kV19 dc19 pm19 an19 cd19 ct19), sl19⟩)
    (c19 : PySem.W.codeIn K cd19 "Pile.put_together" = true)
    (k19 : PySem.W.keepIn K (.ref f19) = true)
    (a20_Pile : PySem.W.findIn K (.ref c_Pile) "step" = some (some (.ref f20)))
    (i20 : PySem.W.isFn K (.ref f20) = true)
    (l20 : K.lookup f20 = some ⟨oc20, od20, .func (PySem.W.fnOf "step" "Pile.step" (defArgs s_Pile_step) (defBody s_Pile_step) (defScope s_Pile_step) .none kV20 dc20 pm20 an20 cd20 ct20), sl20⟩)
    (c20 : PySem.W.codeIn K cd20 "Pile.step" = true)
    (k20 : PySem.W.keepIn K (.ref f20) = true)
    (a21_Pile : PySem.W.findIn K (.ref c_Pile) "standing" = some (some (.ref f21)))
    (i21 : PySem.W.isFn K (.ref f21) = true)
    (l21 : K.lookup f21 = some ⟨oc21, od21, .func (PySem.W.fnOf "standing" "Pile.standing" (defArgs s_Pile_standing) (defBody s_Pile_standing) (defScope s_Pile_standing) .none kV21 dc21 pm21 an21 cd21 ct21), sl21⟩)
    (c21 : PySem.W.codeIn K cd21 "Pile.standing" = true)
    (k21 : PySem.W.keepIn K (.ref f21) = true)
    (a22_Pile : PySem.W.findIn K (.ref c_Pile) "paper" = some (some (.ref f22)))
    (i22 : PySem.W.isFn K (.ref f22) = true)
    (l22 : K.lookup f22 = some ⟨oc22, od22, .func (PySem.W.fnOf "paper" "Pile.paper" (defArgs s_Pile_paper) (defBody s_Pile_paper) (defScope s_Pile_paper) .none kV22 dc22 pm22 an22 cd22 ct22), sl22⟩)
    (c22 : PySem.W.codeIn K cd22 "Pile.paper" = true)
    (k22 : PySem.W.keepIn K (.ref f22) = true)
    (a23_Pile : PySem.W.findIn K (.ref c_Pile) "__init__" = some (some (.ref f23)))
    (i23 : PySem.W.isFn K (.ref f23) = true)
    (l23 : K.lookup f23 = some ⟨oc23, od23, .func (PySem.W.fnOf "__init__" "Pile.__init__" (defArgs s_Pile___init__) (defBody s_Pile___init__) (defScope s_Pile___init__) (.ref dT23) kV23 dc23 pm23 an23 cd23 ct23), sl23⟩)
    (lt23 : K.lookup dT23 = some ⟨oT23, oU23, .seq ([Value.int 1 tk23_0, Value.none] : List Value).toArray nT23, tsl23⟩)
    (c23 : PySem.W.codeIn K cd23 "Pile.__init__" = true)
    (k23 : PySem.W.keepIn K (.ref f23) = true)
    (a24 : PySem.W.nsIn K mainGlobals "_law_cell_at" = some (some (.ref f24)))
    (l24 : K.lookup f24 = some ⟨oc24, od24, .func (PySem.W.fnOf "_law_cell_at" "_law_cell_at" (defArgs s__law_cell_at) (defBody s__law_cell_at) (defScope s__law_cell_at) .none kV24 dc24 pm24 an24 cd24 ct24), sl24⟩)
    (c24 : PySem.W.codeIn K cd24 "_law_cell_at" = true)
    (k24 : PySem.W.keepIn K (.ref f24) = true)
    (a25 : PySem.W.nsIn K mainGlobals "_law_blocks" = some (some (.ref f25)))
    (l25 : K.lookup f25 = some ⟨oc25, od25, .func (PySem.W.fnOf "_law_blocks" "_law_blocks" (defArgs s__law_blocks) (defBody s__law_blocks) (defScope s__law_blocks) .none kV25 dc25 pm25 an25 cd25 ct25), sl25⟩)
    (c25 : PySem.W.codeIn K cd25 "_law_blocks" = true)
    (k25 : PySem.W.keepIn K (.ref f25) = true)
    (a26 : PySem.W.nsIn K mainGlobals "_law_keys_by" = some (some (.ref f26)))
    (l26 : K.lookup f26 = some ⟨oc26, od26, .func (PySem.W.fnOf "_law_keys_by" "_law_keys_by" (defArgs s__law_keys_by) (defBody s__law_keys_by) (defScope s__law_keys_by) .none kV26 dc26 pm26 an26 cd26 ct26), sl26⟩)
    (c26 : PySem.W.codeIn K cd26 "_law_keys_by" = true)
    (k26 : PySem.W.keepIn K (.ref f26) = true)
    (a27 : PySem.W.nsIn K mainGlobals "_law_row_by" = some (some (.ref f27)))
    (l27 : K.lookup f27 = some ⟨oc27, od27, .func (PySem.W.fnOf "_law_row_by" "_law_row_by" (defArgs s__law_row_by) (defBody s__law_row_by) (defScope s__law_row_by) .none kV27 dc27 pm27 an27 cd27 ct27), sl27⟩)
    (c27 : PySem.W.codeIn K cd27 "_law_row_by" = true)
    (k27 : PySem.W.keepIn K (.ref f27) = true)
    (a28 : PySem.W.nsIn K mainGlobals "by_pile" = some (some (.ref f28)))
    (l28 : K.lookup f28 = some ⟨oc28, od28, .func (PySem.W.fnOf "by_pile" "by_pile" (defArgs s_by_pile) (defBody s_by_pile) (defScope s_by_pile) (.ref dT28) kV28 dc28 pm28 an28 cd28 ct28), sl28⟩)
    (lt28 : K.lookup dT28 = some ⟨oT28, oU28, .seq ([Value.int 1 tk28_0, Value.none] : List Value).toArray nT28, tsl28⟩)
    (c28 : PySem.W.codeIn K cd28 "by_pile" = true)
    (k28 : PySem.W.keepIn K (.ref f28) = true)
    (a29 : PySem.W.nsIn K mainGlobals "_law_stepped" = some (some (.ref f29)))
    (l29 : K.lookup f29 = some ⟨oc29, od29, .func (PySem.W.fnOf "_law_stepped" "_law_stepped" (defArgs s__law_stepped) (defBody s__law_stepped) (defScope s__law_stepped) .none kV29 dc29 pm29 an29 cd29 ct29), sl29⟩)
    (c29 : PySem.W.codeIn K cd29 "_law_stepped" = true)
    (k29 : PySem.W.keepIn K (.ref f29) = true)
    (a30 : PySem.W.nsIn K mainGlobals "_law_by_pile" = some (some (.ref f30)))
    (l30 : K.lookup f30 = some ⟨oc30, od30, .func (PySem.W.fnOf "_law_by_pile" "_law_by_pile" (defArgs s__law_by_pile) (defBody s__law_by_pile) (defScope s__law_by_pile) .none kV30 dc30 pm30 an30 cd30 ct30), sl30⟩)
    (c30 : PySem.W.codeIn K cd30 "_law_by_pile" = true)
    (k30 : PySem.W.keepIn K (.ref f30) = true)
    (a31 : PySem.W.nsIn K mainGlobals "law" = some (some (.ref f31)))
    (l31 : K.lookup f31 = some ⟨oc31, od31, .func (PySem.W.fnOf "law" "law" (defArgs s_law) (defBody s_law) (defScope s_law) .none kV31 dc31 pm31 an31 cd31 ct31), sl31⟩)
    (c31 : PySem.W.codeIn K cd31 "law" = true)
    (k31 : PySem.W.keepIn K (.ref f31) = true)
    (z_ValueError : PySem.W.nsIn K mainGlobals "ValueError" = some none)
    (z_list : PySem.W.nsIn K mainGlobals "list" = some none)
    (z_len : PySem.W.nsIn K mainGlobals "len" = some none)
    (z_range : PySem.W.nsIn K mainGlobals "range" = some none)
    (z_int : PySem.W.nsIn K mainGlobals "int" = some none)
    (z_zip : PySem.W.nsIn K mainGlobals "zip" = some none)
    (z_max : PySem.W.nsIn K mainGlobals "max" = some none)
    (z_min : PySem.W.nsIn K mainGlobals "min" = some none)
    (z_sorted : PySem.W.nsIn K mainGlobals "sorted" = some none)
    (z_abs : PySem.W.nsIn K mainGlobals "abs" = some none)
    (z_isinstance : PySem.W.nsIn K mainGlobals "isinstance" = some none)
    (xs_Spent_HallError : PySem.W.subIn K (.ref c_Spent) (.ref c_HallError) = some true)
    (xs_Spent_Spent : PySem.W.subIn K (.ref c_Spent) (.ref c_Spent) = some true)
    (kits_Spent_Spent : PySem.W.kitOne K (.ref c_Spent) (.ref c_Spent) = some true)
    (kk_WINS : PySem.W.nsIn K mainGlobals "WINS" = some (some (.int 4 t_WINS))) :
    ∃ fd : FuncData, (∀ (s : Shared) (v : Value), BindsTo s fd ⟨[v], []⟩ [("_law_script", v)]) ∧ ∀ base : Heap, K.In base → base.Ns mainGlobals mg → ∃ A : Ad, FnOk l.prog w K mg base CX0 12 fa fd ["_law_script"] (sp_law K A) := by
  have e := hfa.symm.trans (PySem.W.mg_of X G a31)
  cases e
  let A : Ad := ⟨c_Pile, c_HallError, c_Spent, c_Asker, c_Rule, c_AskedRule, f3⟩
  have T : Txt K mg A := ⟨PySem.W.mg_none_of X G z_ValueError, PySem.W.mg_none_of X G z_list, PySem.W.mg_none_of X G z_len, PySem.W.mg_none_of X G z_range, PySem.W.mg_none_of X G z_int, PySem.W.mg_none_of X G z_zip, PySem.W.mg_none_of X G z_max, PySem.W.mg_none_of X G z_min, PySem.W.mg_none_of X G z_sorted, PySem.W.mg_none_of X G z_abs, PySem.W.mg_none_of X G z_isinstance, PySem.W.mg_of X G aC_Pile, ⟨pg_Pile, hd_Pile, po_Pile, sa_Pile⟩, na_Pile_asker, na_Pile_least, na_Pile_low, na_Pile_end, na_Pile_come, na_Pile_newest, na_Pile_spans, na_Pile_grades, PySem.W.mg_of X G aC_HallError, xn_HallError, kp_HallError, sb_HallError, ty_HallError, ⟨e0_HallError, e1_HallError, e2_HallError, e3_HallError, e4_HallError, e5_HallError, e6_HallError, e7_HallError⟩, PySem.W.mg_of X G aC_Spent, ⟨⟨_, _, _, _, _, _, _, _, _, _, _, _, _, _, _, xL_Spent, rfl⟩, sa_Spent, sb_Spent, ty_Spent, kp_Spent⟩, na_Spent_asked, kp_Spent, sb_Spent, ty_Spent, ⟨e0_Spent, e1_Spent, e2_Spent, e3_Spent, e4_Spent, e5_Spent, e6_Spent, e7_Spent⟩, PySem.W.mg_of X G aC_Asker, ⟨pg_Asker, hd_Asker, po_Asker, sa_Asker⟩, na_Asker_row, na_Asker_rule, na_Asker_most, na_Asker_asked, na_Asker_log, PySem.W.mg_of X G aC_Rule, ⟨pg_Rule, hd_Rule, po_Rule, sa_Rule⟩, PySem.W.mg_of X G aC_AskedRule, ⟨pg_AskedRule, hd_AskedRule, po_AskedRule, sa_AskedRule⟩, na_AskedRule_teller, ⟨_, PySem.W.mg_of X G kk_WINS, _, rfl⟩, PySem.W.mg_of X G a3, PySem.W.exm_ref sb_HallError e3_HallError ty_HallError xs_Spent_HallError, PySem.W.exm_ref sb_Spent e3_Spent ty_Spent xs_Spent_Spent, kits_Spent_Spent⟩
  have F1 := fun_mk (st := s_Spent___init__) l1 c1 k1
  have F2 := fun_mk (st := s_AskedRule___init__) l2 c2 k2
  have F3 := fun_mk (st := s__law_first) l3 c3 k3
  have F4 := fun_mk (st := s_AskedRule_before) l4 c4 k4
  have F5 := fun_mk (st := s_Asker_ahead) l5 c5 k5
  have F6 := fun_mk (st := s_Asker_widen) l6 c6 k6
  have F7 := fun_mk (st := s_Asker_many) l7 c7 k7
  have F8 := SH.funD_mk (st := s_Asker___init__) (dvs := [.non]) l8 lt8 (.cons rfl .nil) (by simp) c8 k8
  have F9 := fun_mk (st := s_spot_of) l9 c9 k9
  have F10 := fun_mk (st := s_grade) l10 c10 k10
  have F11 := fun_mk (st := s_halved_between) l11 c11 k11
  have F12 := fun_mk (st := s_leap) l12 c12 k12
  have F13 := fun_mk (st := s_leap_taken) l13 c13 k13
  have F14 := fun_mk (st := s_joined) l14 c14 k14
  have F15 := SH.funD_mk (st := s_stretch_from) (dvs := [.non]) l15 lt15 (.cons rfl .nil) (by simp) c15 k15
  have F16 := fun_mk (st := s_in_turn) l16 c16 k16
  have F17 := SH.funD_mk (st := s_filled) (dvs := [.non]) l17 lt17 (.cons rfl .nil) (by simp) c17 k17
  have F18 := fun_mk (st := s_Pile_lay) l18 c18 k18
  have F19 := fun_mk (st := s_Pile_put_together) l19 c19 k19
  have F20 := fun_mk (st := s_Pile_step) l20 c20 k20
  have F21 := fun_mk (st := s_Pile_standing) l21 c21 k21
  have F22 := fun_mk (st := s_Pile_paper) l22 c22 k22
  have F23 := SH.funD_mk (st := s_Pile___init__) (dvs := [.int 1, .non]) l23 lt23 (.cons ⟨_, rfl⟩ (.cons rfl .nil)) (by simp) c23 k23
  have F24 := fun_mk (st := s__law_cell_at) l24 c24 k24
  have F25 := fun_mk (st := s__law_blocks) l25 c25 k25
  have F26 := fun_mk (st := s__law_keys_by) l26 c26 k26
  have F27 := fun_mk (st := s__law_row_by) l27 c27 k27
  have F28 := SH.funD_mk (st := s_by_pile) (dvs := [.int 1, .non]) l28 lt28 (.cons ⟨_, rfl⟩ (.cons rfl .nil)) (by simp) c28 k28
  have F29 := fun_mk (st := s__law_stepped) l29 c29 k29
  have F30 := fun_mk (st := s__law_by_pile) l30 c30 k30
  have F31 := fun_mk (st := s_law) l31 c31 k31
  refine ⟨PySem.W.fnOf "law" "law" (defArgs s_law) (defBody s_law) (defScope s_law) .none kV31 dc31 pm31 an31 cd31 ct31, fun s v => .of_eq rfl, fun base _ _ => ⟨A, ?_⟩⟩
  have O_Spent___init__ := ok_Spent___init__ (P := l.prog) (w := w) (base := base) F1 T 
  have O_AskedRule___init__ := ok_AskedRule___init__ (P := l.prog) (w := w) (base := base) F2 T 
  have O__law_first := ok__law_first (P := l.prog) (w := w) (base := base) F3 T 
  have X1 : Held l.prog w K mg base _ A.f__law_first _ := ⟨_, _, O__law_first, k3, (F3.binds (ps := ["_law_one", "_law_other"]) fun _ _ _ _ _ _ us hl => match us, hl with | [_, _], _ => rfl)⟩
  have O_AskedRule_before := ok_AskedRule_before (P := l.prog) (w := w) (base := base) F4 T X1
  have X2 : SH.CalM l.prog w K mg base CX0 _ A.AskedRule "before" [] _ := ⟨T.cl_AskedRule, f4, _, _, _, ⟨a4_AskedRule, i4, k4⟩, (F4.binds (ps := ["self", "x", "y"]) fun _ _ _ _ _ _ us hl => match us, hl with | [_, _, _], _ => rfl), .nil, O_AskedRule_before⟩
  have X3 : SH.CalE l.prog w K mg base _ "Spent" A.Spent _ := ⟨T.ox_Spent, f1, _, _, T.g_Spent, in_Spent, tI_Spent, (F1.binds (ps := ["self", "asked"]) fun _ _ _ _ _ _ us hl => match us, hl with | [_, _], _ => rfl), O_Spent___init__⟩
  have O_Asker_ahead := ok_Asker_ahead (P := l.prog) (w := w) (base := base) F5 T X2 X3
  have O_Asker_widen := ok_Asker_widen (P := l.prog) (w := w) (base := base) F6 T 
  have O_Asker_many := ok_Asker_many (P := l.prog) (w := w) (base := base) F7 T 
  have O_Asker___init__ := ok_Asker___init__ (P := l.prog) (w := w) (base := base) F8 T 
  have X4 : SH.CalM l.prog w K mg base (L2N.CX l.prog w) _ A.Asker "ahead" [] _ := ⟨T.cl_Asker, f5, _, _, _, ⟨a5_Asker, i5, k5⟩, (F5.binds (ps := ["self", "p", "q"]) fun _ _ _ _ _ _ us hl => match us, hl with | [_, _, _], _ => rfl), .nil, O_Asker_ahead⟩
  have O_spot_of := ok_spot_of (P := l.prog) (w := w) (base := base) F9 T X4
  have O_grade := ok_grade (P := l.prog) (w := w) (base := base) F10 T 
  have O_halved_between := ok_halved_between (P := l.prog) (w := w) (base := base) F11 T X4
  have X5 : SH.Cal l.prog w K mg base (L2N.CX l.prog w) _ "halved_between" [] _ := ⟨f11, _, _, _, PySem.W.mg_of X G a11, k11, (F11.binds (ps := ["asker", "order", "place", "low", "high"]) fun _ _ _ _ _ _ us hl => match us, hl with | [_, _, _, _, _], _ => rfl), .nil, O_halved_between⟩
  have O_leap := ok_leap (P := l.prog) (w := w) (base := base) F12 T X4 X5
  have X6 : SH.Cal l.prog w K mg base (L2N.CX l.prog w) _ "leap" [] _ := ⟨f12, _, _, _, PySem.W.mg_of X G a12, k12, (F12.binds (ps := ["asker", "order", "first", "place"]) fun _ _ _ _ _ _ us hl => match us, hl with | [_, _, _, _], _ => rfl), .nil, O_leap⟩
  have O_leap_taken := ok_leap_taken (P := l.prog) (w := w) (base := base) F13 T X6
  have X7 : SH.Cal l.prog w K mg base (L2N.CX l.prog w) _ "leap_taken" [] _ := ⟨f13, _, _, _, PySem.W.mg_of X G a13, k13, (F13.binds (ps := ["asker", "sides", "at", "side", "told"]) fun _ _ _ _ _ _ us hl => match us, hl with | [_, _, _, _, _], _ => rfl), .nil, O_leap_taken⟩
  have O_joined := ok_joined (P := l.prog) (w := w) (base := base) F14 T X4 X7
  have X8 : SH.CalM l.prog w K mg base CX0 _ A.Asker "many" [] _ := ⟨T.cl_Asker, f7, _, _, _, ⟨a7_Asker, i7, k7⟩, (F7.binds (ps := ["self"]) fun _ _ _ _ _ _ us hl => match us, hl with | [_], _ => rfl), .nil, O_Asker_many⟩
  have O_stretch_from := ok_stretch_from (P := l.prog) (w := w) (base := base) F15 T X4 X8
  have O_in_turn := ok_in_turn (P := l.prog) (w := w) (base := base) F16 T 
  have X9 : SH.Cal l.prog w K mg base CX0 _ "in_turn" [] _ := ⟨f16, _, _, _, PySem.W.mg_of X G a16, k16, (F16.binds (ps := ["first", "beyond", "falling"]) fun _ _ _ _ _ _ us hl => match us, hl with | [_, _, _], _ => rfl), .nil, O_in_turn⟩
  have X10 : SH.Cal l.prog w K mg base (L2N.CX l.prog w) _ "spot_of" [] _ := ⟨f9, _, _, _, PySem.W.mg_of X G a9, k9, (F9.binds (ps := ["asker", "order", "place"]) fun _ _ _ _ _ _ us hl => match us, hl with | [_, _, _], _ => rfl), .nil, O_spot_of⟩
  obtain ⟨dsX11, vdX11, bdX11⟩ := F15.binds1 (ps := ["asker", "first", "end"]) 3 1 (by simp) rfl (fun _ _ _ _ _ _ _ us its hu hi => match us, its, hu, hi with | [_, _, _], [_], _, _ => ⟨_, rfl, rfl⟩)
  have X11 : SH.Cal l.prog w K mg base (L2N.CX l.prog w) _ "stretch_from" [] _ := ⟨f15, _, _, _, PySem.W.mg_of X G a15, k15, bdX11, vdX11, O_stretch_from⟩
  have O_filled := ok_filled (P := l.prog) (w := w) (base := base) F17 T X8 X9 X10 X11
  obtain ⟨dsX12, vdX12, bdX12⟩ := F17.binds1 (ps := ["asker", "first", "least", "end"]) 4 1 (by simp) rfl (fun _ _ _ _ _ _ _ us its hu hi => match us, its, hu, hi with | [_, _, _, _], [_], _, _ => ⟨_, rfl, rfl⟩)
  have X12 : SH.Cal l.prog w K mg base (L2N.CX l.prog w) _ "filled" [] _ := ⟨f17, _, _, _, PySem.W.mg_of X G a17, k17, bdX12, vdX12, O_filled⟩
  have X13 : SH.Cal l.prog w K mg base CX0 _ "grade" [] _ := ⟨f10, _, _, _, PySem.W.mg_of X G a10, k10, (F10.binds (ps := ["many", "first", "middle", "beyond"]) fun _ _ _ _ _ _ us hl => match us, hl with | [_, _, _, _], _ => rfl), .nil, O_grade⟩
  have O_Pile_lay := ok_Pile_lay (P := l.prog) (w := w) (base := base) F18 T X12 X13
  have X14 : SH.Cal l.prog w K mg base (L2N.CX l.prog w) _ "joined" [] _ := ⟨f14, _, _, _, PySem.W.mg_of X G a14, k14, (F14.binds (ps := ["asker", "left", "right"]) fun _ _ _ _ _ _ us hl => match us, hl with | [_, _, _], _ => rfl), .nil, O_joined⟩
  have O_Pile_put_together := ok_Pile_put_together (P := l.prog) (w := w) (base := base) F19 T X14
  have X15 : SH.CalM l.prog w K mg base (L2N.CX l.prog w) _ A.Pile "lay" [] _ := ⟨T.cl_Pile, f18, _, _, _, ⟨a18_Pile, i18, k18⟩, (F18.binds (ps := ["self"]) fun _ _ _ _ _ _ us hl => match us, hl with | [_], _ => rfl), .nil, O_Pile_lay⟩
  have X16 : SH.CalM l.prog w K mg base (L2N.CX l.prog w) _ A.Pile "put_together" [] _ := ⟨T.cl_Pile, f19, _, _, _, ⟨a19_Pile, i19, k19⟩, (F19.binds (ps := ["self", "at"]) fun _ _ _ _ _ _ us hl => match us, hl with | [_, _], _ => rfl), .nil, O_Pile_put_together⟩
  have O_Pile_step := ok_Pile_step (P := l.prog) (w := w) (base := base) F20 T X15 X16
  have O_Pile_standing := ok_Pile_standing (P := l.prog) (w := w) (base := base) F21 T 
  have O_Pile_paper := ok_Pile_paper (P := l.prog) (w := w) (base := base) F22 T 
  have O_Pile___init__ := ok_Pile___init__ (P := l.prog) (w := w) (base := base) F23 T X8
  have O__law_cell_at := ok__law_cell_at (P := l.prog) (w := w) (base := base) F24 T 
  have O__law_blocks := ok__law_blocks (P := l.prog) (w := w) (base := base) F25 T 
  have X17 : SH.Cal l.prog w K mg base CX0 _ "_law_cell_at" [] _ := ⟨f24, _, _, _, PySem.W.mg_of X G a24, k24, (F24.binds (ps := ["_law_script", "_law_k"]) fun _ _ _ _ _ _ us hl => match us, hl with | [_, _], _ => rfl), .nil, O__law_cell_at⟩
  have O__law_keys_by := ok__law_keys_by (P := l.prog) (w := w) (base := base) F26 T X17
  have X18 : SH.Cal l.prog w K mg base CX0 _ "_law_blocks" [] _ := ⟨f25, _, _, _, PySem.W.mg_of X G a25, k25, (F25.binds (ps := ["_law_keys", "_law_one", "_law_two"]) fun _ _ _ _ _ _ us hl => match us, hl with | [_, _, _], _ => rfl), .nil, O__law_blocks⟩
  have X19 : SH.Cal l.prog w K mg base CX0 _ "_law_keys_by" [] _ := ⟨f26, _, _, _, PySem.W.mg_of X G a26, k26, (F26.binds (ps := ["_law_script", "_law_many", "_law_most"]) fun _ _ _ _ _ _ us hl => match us, hl with | [_, _, _], _ => rfl), .nil, O__law_keys_by⟩
  have O__law_row_by := ok__law_row_by (P := l.prog) (w := w) (base := base) F27 T X18 X17 X19
  have X20 : SH.CalM l.prog w K mg base CX0 _ A.Pile "paper" [] _ := ⟨T.cl_Pile, f22, _, _, _, ⟨a22_Pile, i22, k22⟩, (F22.binds (ps := ["self"]) fun _ _ _ _ _ _ us hl => match us, hl with | [_], _ => rfl), .nil, O_Pile_paper⟩
  have X21 : SH.CalM l.prog w K mg base (L2N.CX l.prog w) _ A.Pile "step" [] _ := ⟨T.cl_Pile, f20, _, _, _, ⟨a20_Pile, i20, k20⟩, (F20.binds (ps := ["self"]) fun _ _ _ _ _ _ us hl => match us, hl with | [_], _ => rfl), .nil, O_Pile_step⟩
  obtain ⟨dsX22, vdX22, bdX22⟩ := F23.binds1 (ps := ["self", "asker", "least", "part"]) 4 2 (by simp) rfl (fun _ _ _ _ _ _ _ us its hu hi => match us, its, hu, hi with | [_, _, _, _], [_, _], _, _ => ⟨_, rfl, rfl⟩)
  have X22 : SH.CalC l.prog w K mg base CX0 _ "Pile" A.Pile [] _ := ⟨f23, _, _, _, T.g_Pile, ⟨mk_Pile, a23_Pile, i23, kc_Pile⟩, bdX22, vdX22, O_Pile___init__⟩
  have O_by_pile := ok_by_pile (P := l.prog) (w := w) (base := base) F28 T X20 X21 X22
  have X23 : SH.CalM l.prog w K mg base CX0 _ A.Asker "widen" [] _ := ⟨T.cl_Asker, f6, _, _, _, ⟨a6_Asker, i6, k6⟩, (F6.binds (ps := ["self", "more"]) fun _ _ _ _ _ _ us hl => match us, hl with | [_, _], _ => rfl), .nil, O_Asker_widen⟩
  have X24 : SH.CalM l.prog w K mg base CX0 _ A.Pile "standing" [] _ := ⟨T.cl_Pile, f21, _, _, _, ⟨a21_Pile, i21, k21⟩, (F21.binds (ps := ["self"]) fun _ _ _ _ _ _ us hl => match us, hl with | [_], _ => rfl), .nil, O_Pile_standing⟩
  have O__law_stepped := ok__law_stepped (P := l.prog) (w := w) (base := base) F29 T X23 X20 X24 X21
  obtain ⟨dsX25, vdX25, bdX25⟩ := F28.binds1 (ps := ["asker", "least", "part"]) 3 2 (by simp) rfl (fun _ _ _ _ _ _ _ us its hu hi => match us, its, hu, hi with | [_, _, _], [_, _], _, _ => ⟨_, rfl, rfl⟩)
  have X25 : SH.Cal l.prog w K mg base (L2N.CX l.prog w) _ "by_pile" [] _ := ⟨f28, _, _, _, PySem.W.mg_of X G a28, k28, bdX25, vdX25, O_by_pile⟩
  have X26 : SH.CalC l.prog w K mg base CX0 _ "AskedRule" A.AskedRule [] _ := ⟨f2, _, _, _, T.g_AskedRule, ⟨mk_AskedRule, a2_AskedRule, i2, kc_AskedRule⟩, (F2.binds (ps := ["self", "teller"]) fun _ _ _ _ _ _ us hl => match us, hl with | [_, _], _ => rfl), .nil, O_AskedRule___init__⟩
  obtain ⟨dsX27, vdX27, bdX27⟩ := F8.binds1 (ps := ["self", "row", "rule", "most"]) 4 1 (by simp) rfl (fun _ _ _ _ _ _ _ us its hu hi => match us, its, hu, hi with | [_, _, _, _], [_], _, _ => ⟨_, rfl, rfl⟩)
  have X27 : SH.CalC l.prog w K mg base CX0 _ "Asker" A.Asker [] _ := ⟨f8, _, _, _, T.g_Asker, ⟨mk_Asker, a8_Asker, i8, kc_Asker⟩, bdX27, vdX27, O_Asker___init__⟩
  have O__law_by_pile := ok__law_by_pile (P := l.prog) (w := w) (base := base) F30 T X25 X26 X27
  have X28 : SH.Cal l.prog w K mg base CX0 _ "_law_by_pile" [] _ := ⟨f30, _, _, _, PySem.W.mg_of X G a30, k30, (F30.binds (ps := ["_law_row", "_law_least", "_law_bounds", "_law_most"]) fun _ _ _ _ _ _ us hl => match us, hl with | [_, _, _, _], _ => rfl), .nil, O__law_by_pile⟩
  have X29 : SH.Cal l.prog w K mg base CX0 _ "_law_row_by" [] _ := ⟨f27, _, _, _, PySem.W.mg_of X G a27, k27, (F27.binds (ps := ["_law_script"]) fun _ _ _ _ _ _ us hl => match us, hl with | [_], _ => rfl), .nil, O__law_row_by⟩
  have X30 : SH.Cal l.prog w K mg base CX0 _ "_law_stepped" [] _ := ⟨f29, _, _, _, PySem.W.mg_of X G a29, k29, (F29.binds (ps := ["_law_pile", "_law_asker", "_law_more"]) fun _ _ _ _ _ _ us hl => match us, hl with | [_, _, _], _ => rfl), .nil, O__law_stepped⟩
  obtain ⟨dsX31, vdX31, bdX31⟩ := F8.binds1 (ps := ["self", "row", "rule", "most"]) 3 0 (by simp) rfl (fun _ _ _ _ _ _ _ us its hu hi => match us, its, hu, hi with | [_, _, _], [_], _, _ => ⟨_, rfl, rfl⟩)
  have X31 : SH.CalC l.prog w K mg base CX0 _ "Asker" A.Asker [.non] _ := ⟨f8, _, _, _, T.g_Asker, ⟨mk_Asker, a8_Asker, i8, kc_Asker⟩, bdX31, vdX31, O_Asker___init__⟩
  have O_law := ok_law (P := l.prog) (w := w) (base := base) F31 T X20 X24 X21 X28 X17 X29 X30 X26 X27 X31 X22
  exact O_law
theorem walk {l : PySem.W.OpenLaw} {q : Program} {loose : List Str} {XP : (Str → Option Value) → Heap → Prop} {YP : World → Heap → Prop} {d : DefRec} {K : Params → PySem.W.Frag} (hn : l.most = some 63) (hdf : d.params.defaults = [])
    (hY : ∀ (w : World) (h : Heap), YP w h → (K w.params).In h)
    (F : ∀ (w : World) (mg : Str → Option Value) (fa : Addr) (h : Heap), (K w.params).In h → h.Ns mainGlobals mg → mg d.name = some (.ref fa) →
      ∃ fd : FuncData, (∀ (s : Shared) (u : Value), BindsTo s fd ⟨[u], []⟩ [("_law_script", u)]) ∧ ∀ base : Heap, (K w.params).In base → base.Ns mainGlobals mg → ∃ A : Ad, FnOk l.prog w (K w.params) mg base CX0 12 fa fd ["_law_script"] (sp_law (K w.params) A)) :
    PySem.W.WalkO q loose XP YP l.row.toRowW d [] (fun f vs => PySem.call f vs) :=
  L2.walk_of (n := 63) (k := 12) (x := "_law_script") (CX := fun _ => CX0) (sp := fun w => SH.lawSp (K w.params)) hn (by decide) hdf ⟨rfl, by decide, by decide⟩ hY
    (fun w mg fa h a b c => by
      obtain ⟨fd, h1, h2⟩ := F w mg fa h a b c
      exact ⟨fd, h1, fun base x y => by obtain ⟨A, h3⟩ := h2 base x y; exact h3⟩)
    (fun _ _ a ns hl _ hS => ⟨a, ns, rfl, hS, hl, fun _ => rfl⟩) fun _ _ _ _ _ z => z
end Law

open PySem PySem.W PyProof.Rows
set_option maxRecDepth 100000 in
set_option maxHeartbeats 0 in
theorem PySem.Challenge.cw_sorthall_k58_whole_stopped_and_given_mor_holds : PySem.Challenge.rw_sorthall_k58_whole_stopped_and_given_mor.Holds := by
  w_on; o_law; k_head; (case hw => w_witness2)
  k_fill
  refine Law.walk (l := PySem.Challenge.rw_sorthall_k58_whole_stopped_and_given_mor) rfl rfl (fun w h Y => PySem.W.kIn_of Y) ?F
  case F =>
    intro w mg fa h KX G hmg
    refine' Law.all_mk KX G hmg ?aC_Pile ?pg_Pile ?hd_Pile ?po_Pile ?sa_Pile ?mk_Pile ?kc_Pile ?na_Pile_asker ?na_Pile_least ?na_Pile_low ?na_Pile_end ?na_Pile_come ?na_Pile_newest ?na_Pile_spans ?na_Pile_grades ?aC_HallError ?xn_HallError ?kp_HallError ?sb_HallError ?ty_HallError ?e0_HallError ?e1_HallError ?e2_HallError ?e3_HallError ?e4_HallError ?e5_HallError ?e6_HallError ?e7_HallError ?aC_Spent ?xL_Spent ?sa_Spent ?in_Spent ?tI_Spent ?na_Spent_asked ?kp_Spent ?sb_Spent ?ty_Spent ?e0_Spent ?e1_Spent ?e2_Spent ?e3_Spent ?e4_Spent ?e5_Spent ?e6_Spent ?e7_Spent ?aC_Asker ?pg_Asker ?hd_Asker ?po_Asker ?sa_Asker ?mk_Asker ?kc_Asker ?na_Asker_row ?na_Asker_rule ?na_Asker_most ?na_Asker_asked ?na_Asker_log ?aC_Rule ?pg_Rule ?hd_Rule ?po_Rule ?sa_Rule ?mk_Rule ?kc_Rule ?aC_AskedRule ?pg_AskedRule ?hd_AskedRule ?po_AskedRule ?sa_AskedRule ?mk_AskedRule ?kc_AskedRule ?na_AskedRule_teller ?i1 ?l1 ?c1 ?k1 ?a2_AskedRule ?i2 ?l2 ?c2 ?k2 ?a3 ?l3 ?c3 ?k3 ?a4_AskedRule ?i4 ?l4 ?c4 ?k4 ?a5_Asker ?i5 ?l5 ?c5 ?k5 ?a6_Asker ?i6 ?l6 ?c6 ?k6 ?a7_Asker ?i7 ?l7 ?c7 ?k7 ?a8_Asker ?i8 ?l8 ?lt8 ?c8 ?k8 ?a9 ?l9 ?c9 ?k9 ?a10 ?l10 ?c10 ?k10 ?a11 ?l11 ?c11 ?k11 ?a12 ?l12 ?c12 ?k12 ?a13 ?l13 ?c13 ?k13 ?a14 ?l14 ?c14 ?k14 ?a15 ?l15 ?lt15 ?c15 ?k15 ?a16 ?l16 ?c16 ?k16 ?a17 ?l17 ?lt17 ?c17 ?k17 ?a18_Pile ?i18 ?l18 ?c18 ?k18 ?a19_Pile ?i19 ?l19 ?c19 ?k19 ?a20_Pile ?i20 ?l20 ?c20 ?k20 ?a21_Pile ?i21 ?l21 ?c21 ?k21 ?a22_Pile ?i22 ?l22 ?c22 ?k22 ?a23_Pile ?i23 ?l23 ?lt23 ?c23 ?k23 ?a24 ?l24 ?c24 ?k24 ?a25 ?l25 ?c25 ?k25 ?a26 ?l26 ?c26 ?k26 ?a27 ?l27 ?c27 ?k27 ?a28 ?l28 ?lt28 ?c28 ?k28 ?a29 ?l29 ?c29 ?k29 ?a30 ?l30 ?c30 ?k30 ?a31 ?l31 ?c31 ?k31 ?z_ValueError ?z_list ?z_len ?z_range ?z_int ?z_zip ?z_max ?z_min ?z_sorted ?z_abs ?z_isinstance ?xs_Spent_HallError ?xs_Spent_Spent ?kits_Spent_Spent ?kk_WINS
    (case aC_Pile => k_is); (case pg_Pile => k_is); (case hd_Pile => k_is); (case po_Pile => k_is); (case sa_Pile => k_is); (case mk_Pile => k_is); (case kc_Pile => k_is); (case na_Pile_asker => k_is); (case na_Pile_least => k_is); (case na_Pile_low => k_is); (case na_Pile_end => k_is); (case na_Pile_come => k_is); (case na_Pile_newest => k_is); (case na_Pile_spans => k_is); (case na_Pile_grades => k_is); (case aC_HallError => k_is); (case xn_HallError => (first | k_is | k_exc)); (case kp_HallError => k_is); (case sb_HallError => k_is); (case ty_HallError => k_is); (case e0_HallError => k_is); (case e1_HallError => k_is); (case e2_HallError => k_is); (case e3_HallError => k_is); (case e4_HallError => k_is); (case e5_HallError => k_is); (case e6_HallError => k_is); (case e7_HallError => k_is); (case aC_Spent => k_is); (case xL_Spent => k_is); (case sa_Spent => k_is); (case in_Spent => k_is); (case tI_Spent => k_is); (case na_Spent_asked => k_is); (case kp_Spent => k_is); (case sb_Spent => k_is); (case ty_Spent => k_is); (case e0_Spent => k_is); (case e1_Spent => k_is); (case e2_Spent => k_is); (case e3_Spent => k_is); (case e4_Spent => k_is); (case e5_Spent => k_is); (case e6_Spent => k_is); (case e7_Spent => k_is); (case aC_Asker => k_is); (case pg_Asker => k_is); (case hd_Asker => k_is); (case po_Asker => k_is); (case sa_Asker => k_is); (case mk_Asker => k_is); (case kc_Asker => k_is); (case na_Asker_row => k_is); (case na_Asker_rule => k_is); (case na_Asker_most => k_is); (case na_Asker_asked => k_is); (case na_Asker_log => k_is); (case aC_Rule => k_is); (case pg_Rule => k_is); (case hd_Rule => k_is); (case po_Rule => k_is); (case sa_Rule => k_is); (case mk_Rule => k_is); (case kc_Rule => k_is); (case aC_AskedRule => k_is); (case pg_AskedRule => k_is); (case hd_AskedRule => k_is); (case po_AskedRule => k_is); (case sa_AskedRule => k_is); (case mk_AskedRule => k_is); (case kc_AskedRule => k_is); (case na_AskedRule_teller => k_is); (case i1 => k_is); (case l1 => k_is); (case c1 => k_is); (case k1 => k_is); (case a2_AskedRule => k_is); (case i2 => k_is); (case l2 => k_is); (case c2 => k_is); (case k2 => k_is); (case a3 => k_is); (case l3 => k_is); (case c3 => k_is); (case k3 => k_is); (case a4_AskedRule => k_is); (case i4 => k_is); (case l4 => k_is); (case c4 => k_is); (case k4 => k_is); (case a5_Asker => k_is); (case i5 => k_is); (case l5 => k_is); (case c5 => k_is); (case k5 => k_is); (case a6_Asker => k_is); (case i6 => k_is); (case l6 => k_is); (case c6 => k_is); (case k6 => k_is); (case a7_Asker => k_is); (case i7 => k_is); (case l7 => k_is); (case c7 => k_is); (case k7 => k_is); (case a8_Asker => k_is); (case i8 => k_is); (case l8 => k_is); (case lt8 => k_is); (case c8 => k_is); (case k8 => k_is); (case a9 => k_is); (case l9 => k_is); (case c9 => k_is); (case k9 => k_is); (case a10 => k_is); (case l10 => k_is); (case c10 => k_is); (case k10 => k_is); (case a11 => k_is); (case l11 => k_is); (case c11 => k_is); (case k11 => k_is); (case a12 => k_is); (case l12 => k_is); (case c12 => k_is); (case k12 => k_is); (case a13 => k_is); (case l13 => k_is); (case c13 => k_is); (case k13 => k_is); (case a14 => k_is); (case l14 => k_is); (case c14 => k_is); (case k14 => k_is); (case a15 => k_is); (case l15 => k_is); (case lt15 => k_is); (case c15 => k_is); (case k15 => k_is); (case a16 => k_is); (case l16 => k_is); (case c16 => k_is); (case k16 => k_is); (case a17 => k_is); (case l17 => k_is); (case lt17 => k_is); (case c17 => k_is); (case k17 => k_is); (case a18_Pile => k_is); (case i18 => k_is); (case l18 => k_is); (case c18 => k_is); (case k18 => k_is); (case a19_Pile => k_is); (case i19 => k_is); (case l19 => k_is); (case c19 => k_is); (case k19 => k_is); (case a20_Pile => k_is); (case i20 => k_is); (case l20 => k_is); (case c20 => k_is); (case k20 => k_is); (case a21_Pile => k_is); (case i21 => k_is); (case l21 => k_is); (case c21 => k_is); (case k21 => k_is); (case a22_Pile => k_is); (case i22 => k_is); (case l22 => k_is); (case c22 => k_is); (case k22 => k_is); (case a23_Pile => k_is); (case i23 => k_is); (case l23 => k_is); (case lt23 => k_is); (case c23 => k_is); (case k23 => k_is); (case a24 => k_is); (case l24 => k_is); (case c24 => k_is); (case k24 => k_is); (case a25 => k_is); (case l25 => k_is); (case c25 => k_is); (case k25 => k_is); (case a26 => k_is); (case l26 => k_is); (case c26 => k_is); (case k26 => k_is); (case a27 => k_is); (case l27 => k_is); (case c27 => k_is); (case k27 => k_is); (case a28 => k_is); (case l28 => k_is); (case lt28 => k_is); (case c28 => k_is); (case k28 => k_is); (case a29 => k_is); (case l29 => k_is); (case c29 => k_is); (case k29 => k_is); (case a30 => k_is); (case l30 => k_is); (case c30 => k_is); (case k30 => k_is); (case a31 => k_is); (case l31 => k_is); (case c31 => k_is); (case k31 => k_is); (case z_ValueError => k_is); (case z_list => k_is); (case z_len => k_is); (case z_range => k_is); (case z_int => k_is); (case z_zip => k_is); (case z_max => k_is); (case z_min => k_is); (case z_sorted => k_is); (case z_abs => k_is); (case z_isinstance => k_is); (case xs_Spent_HallError => (first | rfl | k_is)); (case xs_Spent_Spent => (first | rfl | k_is)); (case kits_Spent_Spent => (first | k_is | kernel_rfl)); (case kk_WINS => k_is)
#print axioms PySem.Challenge.cw_sorthall_k58_whole_stopped_and_given_mor_holds

