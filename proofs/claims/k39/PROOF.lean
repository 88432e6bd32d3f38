import PyProof.Rows.All
import Wide.All
import OpenK.AllK
import Wide.FinOn
import HandS.ForMost
import HandS.ForExc
import HandS.Wide
import HandS.WideBits
import HandS.IsInst
import HandS.Conv
import HandS.Walk
import HandS.SortInts
import HandS.SortRule
import HandS.Nested
import HandS.More
import HandS.Defaults
import HandS.EndTab
import HandS.Rev
import HandS.RevTup
import HandS.SortKw
import KE.DataMinMax
import HandS.Dict
import HandS.Style
import KE.DataCmp
import KE.KDictCopyH
import HandS.MakeKw
import HandS.CallLocal
import HandS.SetFor
import HandS.Strs
import HandS.CallSlots
import HandS.ExcIs
import HandS.ExcInit
import HandS.ExcField
import KE.KExcIs
import HandS.ExcInitHot
import PySem.Challenge.RW_sorthall_k39_whole_stopped
set_option Elab.async false
set_option linter.all false
set_option maxRecDepth 100000
set_option maxHeartbeats 4000000
/-! SHA: steps of the heap, rules that look at the values themselves, readings one by one -/
namespace SH
open PySem PySem.Spec PyProof.Rows L2

/-! ### what a heap becomes -/
/-- what never changes -/
def Fix : HO → Prop
  | .tup _ => True
  | .ext _ => True
  | .frz _ _ => True
  | _ => False
/-- H' has all that H has, but what stands at M may be another (no tuple, no function, no cell) -/
structure Stp (M : List Addr) (H H' : Hp) : Prop where
  same : ∀ b o, H b = some o → (b ∉ M ∨ Fix o) → H' b = some o
  dom : ∀ b, H' b = none → H b = none
theorem Stp.refl (M : List Addr) (H : Hp) : Stp M H H := ⟨fun _ _ h _ => h, fun _ h => h⟩
theorem Stp.mono {M M' : List Addr} {H H' : Hp} (s : Stp M H H') (h : ∀ b ∈ M, b ∈ M') : Stp M' H H' := ⟨fun b o e n => s.same b o e (n.imp (fun n z => n (h b z)) id), s.dom⟩
theorem Stp.trans {M : List Addr} {H H1 H2 : Hp} (a : Stp M H H1) (b : Stp M H1 H2) : Stp M H H2 := ⟨fun c o e n => b.same c o (a.same c o e n) n, fun c h => a.dom c (b.dom c h)⟩
/-- what the second changes is new, or the first one's -/
theorem Stp.then {M M' : List Addr} {H H1 H2 : Hp} (a : Stp M H H1) (b : Stp M' H1 H2) (h : ∀ m ∈ M', m ∈ M ∨ H m = none) : Stp M H H2 :=
  ⟨fun c o e n => b.same c o (a.same c o e n) (n.imp (fun n z => (h c z).elim n fun q => (by rw [q] at e; cases e)) id), fun c h => a.dom c (b.dom c h)⟩
theorem Stp.then0 {M : List Addr} {H H1 H2 : Hp} (a : Stp M H H1) (b : Stp [] H1 H2) : Stp M H H2 := a.then b (by simp)
theorem Stp.new {M : List Addr} {H H1 : Hp} {p : Addr} {o : HO} (a : Stp M H H1) (h : H1 p = none) : Stp M H (upd H1 p o) :=
  ⟨fun c u e n => by have q := a.same c u e n; rw [upd_ne (ne_of_none q h)]; exact q, fun c q => a.dom c (by
    by_cases z : c = p
    · subst z; exact h
    · rw [upd_ne z] at q; exact q)⟩
theorem Stp.putM {M : List Addr} {H H1 : Hp} {p : Addr} {o o1 : HO} (a : Stp M H H1) (h : p ∈ M) (h1 : H1 p = some o1) (nf : ¬ Fix o1) : Stp M H (upd H1 p o) :=
  ⟨fun c u e n => by
    by_cases z : c = p
    · subst z
      rcases n with n | n
      · exact (n h).elim
      · have q := a.same c u e (.inr n)
        rw [h1] at q; cases q; exact (nf n).elim
    · rw [upd_ne z]; exact a.same c u e n, fun c q => a.dom c (by
    by_cases z : c = p
    · subst z; rw [upd_same] at q; cases q
    · rw [upd_ne z] at q; exact q)⟩
theorem Stp.putN {M : List Addr} {H H1 : Hp} {p : Addr} {o : HO} (a : Stp M H H1) (h : H p = none) : Stp M H (upd H1 p o) :=
  ⟨fun c u e n => by
    rw [upd_ne (fun z => by subst z; rw [h] at e; cases e)]
    exact a.same c u e n, fun c q => a.dom c (by
    by_cases z : c = p
    · subst z; rw [upd_same] at q; cases q
    · rw [upd_ne z] at q; exact q)⟩
theorem Stp.free {M : List Addr} {H H' : Hp} {p : Addr} (s : Stp M H H') (h : H' p = none) : H p = none := s.dom p h
theorem Stp.keep {M : List Addr} {H H' : Hp} {p : Addr} {o : HO} (s : Stp M H H') (h : H p = some o) (n : p ∉ M) : H' p = some o := s.same p o h (.inl n)
theorem Stp.keep0 {H H' : Hp} {p : Addr} {o : HO} (s : Stp [] H H') (h : H p = some o) : H' p = some o := s.same p o h (.inl (by simp))
theorem Stp.fix {M : List Addr} {H H' : Hp} {p : Addr} {o : HO} (s : Stp M H H') (h : H p = some o) (n : Fix o) : H' p = some o := s.same p o h (.inr n)
theorem Stp.tup {M : List Addr} {H H' : Hp} {p : Addr} {xs : List V} (s : Stp M H H') (h : H p = some (.tup xs)) : H' p = some (.tup xs) := s.fix h True.intro
theorem Stp.keep1 {m : Addr} {H H' : Hp} {p : Addr} {o : HO} (s : Stp [m] H H') (h : H p = some o) (n : p ≠ m) : H' p = some o := s.same p o h (.inl (by simpa using n))
theorem Stp.rd {M : List Addr} {H H' : Hp} {a : Addr} {u : HO} (s : Stp M H H') (h : Rd H a u) (n : a ∉ M) : Rd H' a u := by
  rcases h with h | ⟨o, h⟩
  · exact .inl (s.same _ _ h (.inl n))
  · exact .inr ⟨o, s.same _ _ h (.inr True.intro)⟩
theorem Stp.sql {K : PySem.W.Frag} {M : List Addr} {H H' : Hp} {a : Addr} {xs : List V} (s : Stp M H H') (h : SqL K H a xs) (n : a ∉ M) : SqL K H' a xs := by
  rcases h with h | h
  · exact .inl (s.rd h n)
  · exact .inr h
theorem Stp.sqt {K : PySem.W.Frag} {M : List Addr} {H H' : Hp} {a : Addr} {xs : List V} (s : Stp M H H') (h : SqT K H a xs) (n : a ∉ M) : SqT K H' a xs := by
  rcases h with h | h
  · exact .inl (s.rd h n)
  · exact .inr h
theorem Stp.sqtM {K : PySem.W.Frag} {M : List Addr} {H H' : Hp} {a : Addr} {xs : List V} (s : Stp M H H') (h : SqT K H a xs) : SqT K H' a xs := by
  rcases h with (h | ⟨o, h⟩) | h
  · exact .inl (.inl (s.fix h True.intro))
  · exact .inl (.inr ⟨o, s.fix h True.intro⟩)
  · exact .inr h
theorem Stp.sql1 {K : PySem.W.Frag} {m : Addr} {H H' : Hp} {a : Addr} {xs : List V} (s : Stp [m] H H') (h : SqL K H a xs) (n : a ≠ m) : SqL K H' a xs := s.sql h (by simpa using n)
theorem Stp.sql0 {K : PySem.W.Frag} {H H' : Hp} {a : Addr} {xs : List V} (s : Stp [] H H') (h : SqL K H a xs) : SqL K H' a xs := s.sql h (by simp)
theorem Stp.sqt0 {K : PySem.W.Frag} {H H' : Hp} {a : Addr} {xs : List V} (s : Stp [] H H') (h : SqT K H a xs) : SqT K H' a xs := s.sqt h (by simp)
theorem Stp.not {M : List Addr} {H H' : Hp} {p : Addr} (s : Stp M H H') (h : H' p = none) (hm : ∀ m ∈ M, H m ≠ none) : p ∉ M := fun z => hm p z (s.dom p h)
theorem upd_old {H : Hp} {a p : Addr} {o u : HO} (h : H a = some o) (hp : H p = none) : upd H p u a = some o := by rw [upd_ne (ne_of_none h hp)]; exact h
theorem upd_far {H : Hp} {a p : Addr} {o : Option HO} {u : HO} (n : a ≠ p) (h : H a = o) : upd H p u a = o := by rw [upd_ne n]; exact h
theorem upd_free {H : Hp} {a p : Addr} {u : HO} (h : upd H p u a = none) : H a = none ∧ a ≠ p := by
  by_cases z : a = p
  · subst z; rw [upd_same] at h; cases h
  · rw [upd_ne z] at h; exact ⟨h, z⟩
theorem sql_upd {K : PySem.W.Frag} {H : Hp} {a p : Addr} {xs : List V} {u : HO} (h : SqL K H a xs) (hp : H p = none) : SqL K (upd H p u) a xs := (Stp.refl [] H |>.new hp).sql h (by simp)
theorem sqt_upd {K : PySem.W.Frag} {H : Hp} {a p : Addr} {xs : List V} {u : HO} (h : SqT K H a xs) (hp : H p = none) : SqT K (upd H p u) a xs := (Stp.refl [] H |>.new hp).sqt h (by simp)
theorem sql_far {K : PySem.W.Frag} {H : Hp} {a p : Addr} {xs : List V} {u : HO} (h : SqL K H a xs) (n : a ≠ p) : SqL K (upd H p u) a xs := by
  rcases h with (h | ⟨o, h⟩) | h
  · exact .inl (.inl (upd_far n h))
  · exact .inl (.inr ⟨o, upd_far n h⟩)
  · exact .inr h
theorem sqt_far {K : PySem.W.Frag} {H : Hp} {a p : Addr} {xs : List V} {u : HO} (h : SqT K H a xs) (n : a ≠ p) : SqT K (upd H p u) a xs := by
  rcases h with (h | ⟨o, h⟩) | h
  · exact .inl (.inl (upd_far n h))
  · exact .inl (.inr ⟨o, upd_far n h⟩)
  · exact .inr h

/-! ### the slots -/
theorem set_z {x y : Option V} {xs : L2.St} : (x :: xs).set 0 y = y :: xs := rfl
theorem set_s {x y : Option V} {xs ys : L2.St} {n : Nat} (h : xs.set n y = ys) : (x :: xs).set (n + 1) y = x :: ys := by subst h; rfl
theorem get_z {x : V} {xs : L2.St} : (some x :: xs)[0]? = some (some x) := rfl
theorem get_s {x : Option V} {xs : L2.St} {n : Nat} {v : V} (h : xs[n]? = some (some v)) : (x :: xs)[n + 1]? = some (some v) := h

/-! ### two-place operations by the values -/
/-- the ways of + -/
def aAdd (K : PySem.W.Frag) : R2 := fun x y H Q => match x, y with
  | .int i, .int j => Q (.int (i + j)) H
  | .str a, .str b => a.length + b.length ≤ sizeLine ∧ Q (.str (a ++ b)) H
  | .ref a, .ref b => (∃ xs ys, H a = some (.lst xs) ∧ H b = some (.lst ys) ∧ xs.length + ys.length ≤ sizeLine ∧ ∀ p, H p = none → Q (.ref p) (upd H p (.lst (xs ++ ys)))) ∨ rCatT K (.ref a) (.ref b) H Q
  | _, _ => False
def aSub : R2 := fun x y H Q => match x, y with
  | .int i, .int j => Q (.int (i - j)) H
  | _, _ => False
def aMul : R2 := fun x y H Q => match x, y with
  | .int i, .int j => IntMulOk i j ∧ Q (.int (i * j)) H
  | .ref a, .int k => ∃ xs, H a = some (.lst xs) ∧ -(2 ^ 63) ≤ k ∧ k < 2 ^ 63 ∧ xs.length * k.toNat ≤ sizeLine ∧ ∀ p, H p = none → Q (.ref p) (upd H p (.lst ((List.replicate k.toNat xs).flatten)))
  | _, _ => False
def aDiv : R2 := fun x y H Q => match x, y with
  | .int i, .int j => 0 < j ∧ Builtin.divisionGoesByPylong i j = false ∧ Q (.int (i / j)) H
  | _, _ => False
def aMod : R2 := fun x y H Q => match x, y with
  | .int i, .int j => 0 < j ∧ Q (.int (i % j)) H
  | _, _ => False
def aPow : R2 := fun x y H Q => match x, y with
  | .int i, .int j => CPow i j ∧ Q (.int (i ^ j.toNat)) H
  | _, _ => False
def aShl : R2 := fun x y H Q => match x, y with
  | .int i, .int j => CShl i j ∧ Q (.int (i * 2 ^ j.toNat)) H
  | _, _ => False
def aShr : R2 := fun x y H Q => match x, y with
  | .int i, .int j => 0 ≤ j ∧ Q (.int (i / 2 ^ j.toNat)) H
  | _, _ => False
def aAnd : R2 := fun x y H Q => match x, y with
  | .int i, .int j => Q (.int (Builtin.bitAnd i j)) H
  | _, _ => False
def aLt (K : PySem.W.Frag) : R2 := fun x y H Q => match x, y with
  | .int i, .int j => Q (.bl (decide (i < j))) H
  | .ref a, .ref b => rLtT K (.ref a) (.ref b) H Q
  | _, _ => False
def aLe : R2 := fun x y H Q => match x, y with
  | .int i, .int j => Q (.bl (decide (i ≤ j))) H
  | _, _ => False
def aGt : R2 := fun x y H Q => match x, y with
  | .int i, .int j => Q (.bl (decide (j < i))) H
  | _, _ => False
def aGe : R2 := fun x y H Q => match x, y with
  | .int i, .int j => Q (.bl (decide (j ≤ i))) H
  | _, _ => False
def aEq (K : PySem.W.Frag) : R2 := fun x y H Q => (scal x y = true ∧ Q (.bl (decide (x = y))) H) ∨ rEqD K x y H Q
def aNe (K : PySem.W.Frag) : R2 := fun x y H Q => (scal x y = true ∧ Q (.bl (!decide (x = y))) H) ∨ rNeD K x y H Q
def aIsN : R2 := fun x y H Q => y = .non ∧ Q (.bl (decide (x = .non))) H
def aNotN : R2 := fun x y H Q => y = .non ∧ Q (.bl (!decide (x = .non))) H

section
variable {X : Cx}
theorem oAdd : OpR X (binaryOp .Add) (aAdd X.K) := by
  intro pins s σ H x y v u Q I rx ry h
  cases x <;> cases y <;> first | exact False.elim h | skip
  · exact op_add pins s σ H _ _ v u Q I rx ry ⟨_, _, rfl, rfl, h⟩
  · exact op_add_str pins s σ H _ _ v u Q I rx ry ⟨_, _, rfl, rfl, h.1, h.2⟩
  · rcases h with ⟨xs, ys, h1, h2, h3, h4⟩ | h
    · exact op_cat pins s σ H _ _ v u Q I rx ry ⟨_, _, xs, ys, rfl, rfl, h1, h2, h3, h4⟩
    · exact op_catT pins s σ H _ _ v u Q I rx ry h
theorem oSub : OpR X (binaryOp .Sub) aSub := by
  intro pins s σ H x y v u Q I rx ry h
  cases x <;> cases y <;> first | exact False.elim h | skip
  exact op_sub pins s σ H _ _ v u Q I rx ry ⟨_, _, rfl, rfl, h⟩
theorem oMul : OpR X (binaryOp .Mult) aMul := by
  intro pins s σ H x y v u Q I rx ry h
  cases x <;> cases y <;> first | exact False.elim h | skip
  · obtain ⟨t, rfl⟩ := rx
    obtain ⟨t', rfl⟩ := ry
    exact mul_int ⟨.int _, H, I.tok _, ⟨_, rfl⟩, h.2⟩ h.1
  · obtain ⟨xs, h1, h2, h3, h4, h5⟩ := h
    exact op_rep pins s σ H _ _ v u Q I rx ry ⟨_, _, xs, rfl, rfl, h1, h2, h3, h4, h5⟩
theorem oDiv : OpR X (binaryOp .FloorDiv) aDiv := by
  intro pins s σ H x y v u Q I rx ry h
  cases x <;> cases y <;> first | exact False.elim h | skip
  obtain ⟨t, rfl⟩ := rx
  obtain ⟨t', rfl⟩ := ry
  obtain ⟨h0, h1, q⟩ := h
  exact floordiv_int (by omega) (by rw [Int.fdiv_eq_ediv_of_nonneg _ (by omega)]; exact ⟨.int _, H, I.tok _, ⟨_, rfl⟩, q⟩) (.inl h1)
theorem oMod : OpR X (binaryOp .Mod) aMod := by
  intro pins s σ H x y v u Q I rx ry h
  cases x <;> cases y <;> first | exact False.elim h | skip
  exact op_mod pins s σ H _ _ v u Q I rx ry ⟨_, _, rfl, rfl, h⟩
theorem oPow : OpR X (binaryOp .Pow) aPow := by
  intro pins s σ H x y v u Q I rx ry h
  cases x <;> cases y <;> first | exact False.elim h | skip
  exact op_pow pins s σ H _ _ v u Q I rx ry ⟨_, _, rfl, rfl, h⟩
theorem oShl : OpR X (binaryOp .LShift) aShl := by
  intro pins s σ H x y v u Q I rx ry h
  cases x <;> cases y <;> first | exact False.elim h | skip
  exact op_shlW pins s σ H _ _ v u Q I rx ry ⟨_, _, rfl, rfl, h⟩
theorem oShr : OpR X (binaryOp .RShift) aShr := by
  intro pins s σ H x y v u Q I rx ry h
  cases x <;> cases y <;> first | exact False.elim h | skip
  exact op_shr pins s σ H _ _ v u Q I rx ry ⟨_, _, rfl, rfl, h⟩
theorem oAnd : OpR X (binaryOp .BitAnd) aAnd := by
  intro pins s σ H x y v u Q I rx ry h
  cases x <;> cases y <;> first | exact False.elim h | skip
  exact op_and pins s σ H _ _ v u Q I rx ry ⟨_, _, rfl, rfl, h⟩
theorem oLt (hu : X.A.units < cLine) : OpR X (compareOp .Lt) (aLt X.K) := by
  intro pins s σ H x y v u Q I rx ry h
  cases x <;> cases y <;> first | exact False.elim h | skip
  · exact op_lt pins s σ H _ _ v u Q I rx ry ⟨_, _, rfl, rfl, h⟩
  · exact op_ltT hu pins s σ H _ _ v u Q I rx ry h
theorem oLe : OpR X (compareOp .LtE) aLe := by
  intro pins s σ H x y v u Q I rx ry h
  cases x <;> cases y <;> first | exact False.elim h | skip
  exact op_le pins s σ H _ _ v u Q I rx ry ⟨_, _, rfl, rfl, h⟩
theorem oGt : OpR X (compareOp .Gt) aGt := by
  intro pins s σ H x y v u Q I rx ry h
  cases x <;> cases y <;> first | exact False.elim h | skip
  exact op_gt pins s σ H _ _ v u Q I rx ry ⟨_, _, rfl, rfl, h⟩
theorem oGe : OpR X (compareOp .GtE) aGe := by
  intro pins s σ H x y v u Q I rx ry h
  cases x <;> cases y <;> first | exact False.elim h | skip
  exact op_ge pins s σ H _ _ v u Q I rx ry ⟨_, _, rfl, rfl, h⟩
theorem oEq (hu : X.A.units + 64 < cLine) : OpR X (compareOp .Eq) (aEq X.K) := op_eq.or (op_eqD hu)
theorem oNe (hu : X.A.units + 64 < cLine) : OpR X (compareOp .NotEq) (aNe X.K) := op_ne.or (op_neD hu)
theorem oIsN : OpR X (compareOp .Is) aIsN := op_isN
theorem oNotN : OpR X (compareOp .IsNot) aNotN := op_notN
theorem ipAdd : PIp X .Add (fun x y H Q => match x, y with
  | .int i, .int j => Q (.int (i + j)) H
  | _, _ => False) := by
  intro pins s σ H x y v u Q I rx ry h
  cases x <;> cases y <;> first | exact False.elim h | skip
  exact ip_add pins s σ H _ _ v u Q I rx ry ⟨_, _, rfl, rfl, h⟩
theorem ipSub : PIp X .Sub (fun x y H Q => match x, y with
  | .int i, .int j => Q (.int (i - j)) H
  | _, _ => False) := by
  intro pins s σ H x y v u Q I rx ry h
  cases x <;> cases y <;> first | exact False.elim h | skip
  exact ip_sub pins s σ H _ _ v u Q I rx ry ⟨_, _, rfl, rfl, h⟩
end
end SH

set_option Elab.async false
set_option linter.all false
set_option maxRecDepth 100000
set_option maxHeartbeats 4000000
/-! SHB: readings, one lemma a word -/
namespace SH
open PySem PySem.Spec PyProof.Rows L2

section
variable {K : PySem.W.Frag} {D : Ends} {σ σ' : L2.St} {H : Hp} {Q : VK} {QA : List V → Hp → Prop} {QT : Bool → Hp → Prop} {QO : Option Int → Hp → Prop} {QG : L2.St → Hp → Prop} {i j : Nat} {v x y : V} {vs : List V} {ta tb tc te : TE} {t u tt : TT} {tr as : TA} {t1 t2 : TS} {g : TG} {gs : TGs} {r r' : R2} {b : Bool} {A B : Prop}

/-! the start -/
theorem st_c {x : Str} {N : List Str} {v : V} {vs : List V} {τ : L2.St} (h : L2.start N vs = τ) : L2.start (x :: N) (v :: vs) = some v :: τ := by
  rw [← h]; show _ :: (_ ++ List.replicate (N.length + 1 - (vs.length + 1)) none) = _; rw [Nat.add_sub_add_right]; rfl
theorem st_n {x : Str} {N : List Str} {τ : L2.St} (h : L2.start N [] = τ) : L2.start (x :: N) [] = none :: τ := by rw [← h]; rfl
theorem st_z : L2.start [] [] = [] := rfl
theorem r_start {N : List Str} {t : TS} (e : L2.start N vs = σ) (h : t D σ H) : t D (L2.start N vs) H := by rw [e]; exact h

theorem wp_z {f : Str × Nat → Nat} : wipe σ (List.map f []) = σ := rfl
theorem wp_s {a : Str} {n : Nat} {l : List (Str × Nat)} {τ τ' : L2.St} (h : wipe σ (l.map (fun x => x.2)) = τ) (e : τ.set n none = τ') : wipe σ (((a, n) :: l).map (fun x => x.2)) = τ' := by
  show (wipe σ (l.map (fun x => x.2))).set n none = τ'
  rw [h, e]
theorem r_gnw {ws : List Nat} {τ : L2.St} (e : wipe σ ws = τ) (h : gName i v τ H QG) : gName i v (wipe σ ws) H QG := by rw [e]; exact h
theorem r_gtw {ws : List Nat} {n : Nat} {τ : L2.St} (e : wipe σ ws = τ) (h : gTup K n gs v τ H QG) : gTup K n gs v (wipe σ ws) H QG := by rw [e]; exact h
theorem r_wp {ws : List Nat} {τ : L2.St} (e : wipe σ ws = wipe τ ws) (h : A) : wipe σ ws = wipe τ ws ∧ A := ⟨e, h⟩

/-! statements -/
theorem r_seq (h : t1 { D with nx := t2 D } σ H) : tSeq t1 t2 D σ H := h
theorem r_next (h : D.nx σ H) : tNext D σ H := h
theorem r_nx (e : σ.set i (some v) = σ') (h : D.nx σ' H) : D.nx (σ.set i (some v)) H := by rw [e]; exact h
theorem r_asg (h : te σ H fun x H1 => g x σ H1 D.nx) : tAsg te g D σ H := h
theorem r_gname (e : σ.set i (some v) = σ') (h : QG σ' H) : gName i v σ H QG := by subst e; exact h
theorem r_aug {rd : TIp} (hx : σ[i]? = some (some x)) (h : te σ H fun y H1 => rd x y H1 fun z H2 => D.nx (σ.set i (some z)) H2) : tAug i te rd D σ H := ⟨x, hx, h⟩
theorem r_drop (h : te σ H fun _ H1 => D.nx σ H1) : tDrop te D σ H := h
theorem r_ret (h : te σ H D.rt) : tRet te D σ H := h
theorem r_retN (h : D.rt .non H) : tRetN D σ H := h
theorem r_ifS (h : tt σ H fun b H1 => if b = true then t1 D σ H1 else t2 D σ H1) : tIfS tt t1 t2 D σ H := h
theorem r_brk (h : D.bk σ H) : tBreak D σ H := h
theorem r_cont (h : D.ct σ H) : tCont D σ H := h
theorem r_gtup {n : Nat} {a : Addr} {xs : List V} (hq : SqT K H a xs) (hl : xs.length = n) (h : gs xs σ H QG) : gTup K n gs (.ref a) σ H QG := ⟨a, xs, rfl, hq, hl, h⟩
theorem r_glst {n : Nat} {a : Addr} {xs : List V} (hq : SqL K H a xs) (hl : xs.length = n) (h : gs xs σ H QG) : gLst K n gs (.ref a) σ H QG := ⟨a, xs, rfl, hq, hl, h⟩
theorem r_gcons (h : g v σ H fun σ' H' => gs vs σ' H' QG) : gCons g gs (v :: vs) σ H QG := ⟨v, vs, rfl, h⟩
theorem r_gnil (h : QG σ H) : gNil [] σ H QG := ⟨rfl, h⟩
theorem r_gsub {to ti : TE} {ts : TSet} (h : to σ H fun o H1 => ti σ H1 fun i H2 => ts o i v H2 fun H3 => QG σ H3) : gSub to ti ts v σ H QG := h

/-! expressions -/
theorem r_var (h : σ[i]? = some (some v)) (k : Q v H) : tVar i σ H Q := ⟨v, h, k⟩
theorem r_c (k : Q v H) : tC v σ H Q := k
theorem r_op (h : ta σ H fun x H1 => tb σ H1 fun y H2 => r x y H2 Q) : tOp r ta tb σ H Q := h
theorem r_un {ru : V → Hp → VK → Prop} (h : ta σ H fun x H1 => ru x H1 Q) : tUn ru ta σ H Q := h
theorem r_neg {n : Int} (k : Q (.int (-n)) H) : rU (fun i => .int (-i)) (.int n) H Q := ⟨n, rfl, k⟩
theorem r_if (h : t σ H fun c H1 => if c = true then ta σ H1 Q else tb σ H1 Q) : tIf t ta tb σ H Q := h
theorem r_nil (h : QA [] H) : tNil σ H QA := h
theorem r_cons (h : ta σ H fun x H1 => tr σ H1 fun xs H2 => QA (x :: xs) H2) : tCons ta tr σ H QA := h
def kTup (Q : VK) : List V → Hp → Prop := fun xs H1 => xs.length ≤ sizeLine ∧ ∀ p, H1 p = none → Q (.ref p) (upd H1 p (.tup xs))
def kLst (Q : VK) : List V → Hp → Prop := fun xs H1 => xs.length ≤ sizeLine ∧ ∀ p, H1 p = none → Q (.ref p) (upd H1 p (.lst xs))
theorem r_tup (h : as σ H (kTup Q)) : tTup as σ H Q := h
theorem r_lst (h : as σ H (kLst Q)) : tLst as σ H Q := h
theorem v_tup (hl : vs.length ≤ 1000) (h : ∀ p, H p = none → Q (.ref p) (upd H p (.tup vs))) : kTup Q vs H := ⟨Nat.le_trans hl (by decide), h⟩
theorem v_lst (hl : vs.length ≤ 1000) (h : ∀ p, H p = none → Q (.ref p) (upd H p (.lst vs))) : kLst Q vs H := ⟨Nat.le_trans hl (by decide), h⟩
theorem v_tup2 (h : ∀ p, H p = none → Q (.ref p) (upd H p (.tup [x, y]))) : kTup Q [x, y] H := v_tup (by simp) h
theorem v_tup3 (h : ∀ p, H p = none → Q (.ref p) (upd H p (.tup [x, y, v]))) : kTup Q [x, y, v] H := v_tup (by simp) h
theorem v_lst0 (h : ∀ p, H p = none → Q (.ref p) (upd H p (.lst []))) : kLst Q [] H := v_lst (by simp) h
theorem v_lst1 (h : ∀ p, H p = none → Q (.ref p) (upd H p (.lst [x]))) : kLst Q [x] H := v_lst (by simp) h
theorem v_lst2 (h : ∀ p, H p = none → Q (.ref p) (upd H p (.lst [x, y]))) : kLst Q [x, y] H := v_lst (by simp) h
theorem v_lst3 (h : ∀ p, H p = none → Q (.ref p) (upd H p (.lst [x, y, v]))) : kLst Q [x, y, v] H := v_lst (by simp) h
theorem v_lst4 {z : V} (h : ∀ p, H p = none → Q (.ref p) (upd H p (.lst [x, y, v, z]))) : kLst Q [x, y, v, z] H := v_lst (by simp) h
theorem r_len0 {n : Nat} (h : n ≤ 1000) : n ≤ sizeLine := Nat.le_trans h (by decide)
theorem r_call {sp : Sp} {dvs : List V} {E : XK} (h : as σ H fun vs H1 => sp (vs ++ dvs) H1 Q E) : tCall sp dvs E as σ H Q := h
theorem r_cb {rc : List V → Hp → VK → Prop} (h : as σ H fun vs H1 => rc vs H1 Q) : tCB rc as σ H Q := h
theorem r_andV (h : ta σ H fun x H1 => ∃ c, x = .bl c ∧ if c = true then tb σ H1 Q else Q (.bl false) H1) : tAndV ta tb σ H Q := h
theorem r_orV (h : ta σ H fun x H1 => ∃ c, x = .bl c ∧ if c = true then Q (.bl true) H1 else tb σ H1 Q) : tOrV ta tb σ H Q := h
theorem r_notV (h : ta σ H fun x H1 => ∃ c, x = .bl c ∧ Q (.bl (!c)) H1) : tNotV ta σ H Q := h
theorem r_bl {P : Bool → Prop} (h : P b) : ∃ c, V.bl b = .bl c ∧ P c := ⟨b, rfl, h⟩
theorem r_test (h : te σ H fun x H1 => ∃ k, x = .bl k ∧ QT k H1) : tTest te σ H QT := h
theorem r_B (h : te σ H fun x H1 => ∃ k, x = .bl k ∧ QT k H1) : tB te σ H QT := h
theorem r_and (h : t σ H fun c H1 => if c = true then u σ H1 QT else QT false H1) : tAnd t u σ H QT := h
theorem r_or (h : t σ H fun c H1 => if c = true then QT true H1 else u σ H1 QT) : tOr t u σ H QT := h
theorem r_not (h : t σ H fun c H1 => QT (!c) H1) : tNot t σ H QT := h
theorem r_yes (h : QT true H) : tYes σ H QT := h
theorem r_nopart (h : QO none H) : tNoPart σ H QO := h
theorem r_part (h : te σ H fun x H1 => ∃ i, x = .int i ∧ QO (some i) H1) : tPart te σ H QO := h
theorem r_int {P : Int → Prop} {n : Int} (h : P n) : ∃ i, V.int n = .int i ∧ P i := ⟨n, rfl, h⟩
theorem r_sl {rs : V → Option Int → Option Int → Hp → VK → Prop} {tl th : TO} (h : te σ H fun x H1 => tl σ H1 fun l H2 => th σ H2 fun u H3 => rs x l u H3 Q) : tSl rs te tl th σ H Q := h
theorem r_chain (h : ta σ H fun x H1 => tb σ H1 fun y H2 => r x y H2 fun z H3 => ∃ k, z = .bl k ∧ (if k = true then tc σ H3 fun w' H4 => r' y w' H4 Q else Q (.bl false) H3)) : tChain r r' ta tb tc σ H Q := h
theorem r_bm {T : String} {rb : V → List V → Hp → VK → Prop} (h : te σ H fun x H1 => tyV K T x H1 ∧ as σ H1 fun xs H2 => rb x xs H2 Q) : tBM K T rb te as σ H Q := h
theorem r_bm0 {T : String} {rb : V → List V → Hp → VK → Prop} (h : te σ H fun x H1 => tyV K T x H1 ∧ rb x [] H1 Q) : tBM0 K T rb te σ H Q := h

/-! values -/
theorem v_addI {n m : Int} (h : Q (.int (n + m)) H) : aAdd K (.int n) (.int m) H Q := h
theorem v_addL {a c : Addr} {xs ys : List V} (h1 : H a = some (.lst xs)) (h2 : H c = some (.lst ys)) (h3 : xs.length + ys.length ≤ sizeLine) (h : ∀ p, H p = none → Q (.ref p) (upd H p (.lst (xs ++ ys)))) : aAdd K (.ref a) (.ref c) H Q := .inl ⟨xs, ys, h1, h2, h3, h⟩
theorem v_subI {n m : Int} (h : Q (.int (n - m)) H) : aSub (.int n) (.int m) H Q := h
theorem v_mulI {n m : Int} (h0 : IntMulOk n m) (h : Q (.int (n * m)) H) : aMul (.int n) (.int m) H Q := ⟨h0, h⟩
theorem v_mulL {a : Addr} {k : Int} {xs : List V} (h1 : H a = some (.lst xs)) (h2 : -(2 ^ 63) ≤ k ∧ k < 2 ^ 63) (h3 : xs.length * k.toNat ≤ sizeLine) (h : ∀ p, H p = none → Q (.ref p) (upd H p (.lst ((List.replicate k.toNat xs).flatten)))) : aMul (.ref a) (.int k) H Q := ⟨xs, h1, h2.1, h2.2, h3, h⟩
theorem v_div {n m : Int} (h0 : 0 < m) (h1 : Builtin.divisionGoesByPylong n m = false) (h : Q (.int (n / m)) H) : aDiv (.int n) (.int m) H Q := ⟨h0, h1, h⟩
theorem v_divS {n m : Int} (h0 : 0 < m) (h1 : m < 1073741824) (h : Q (.int (n / m)) H) : aDiv (.int n) (.int m) H Q := ⟨h0, PyProof.noPylong_small (by omega), h⟩
theorem v_divW {n m : Int} (h0 : 0 < m) (h1 : m.natAbs.log2 < 9000) (h : Q (.int (n / m)) H) : aDiv (.int n) (.int m) H Q := ⟨h0, PyProof.noPylong_of_log2 h1, h⟩
theorem v_mod {n m : Int} (h0 : 0 < m) (h : Q (.int (n % m)) H) : aMod (.int n) (.int m) H Q := ⟨h0, h⟩
theorem v_pow {n m : Int} (h0 : CPow n m) (h : Q (.int (n ^ m.toNat)) H) : aPow (.int n) (.int m) H Q := ⟨h0, h⟩
theorem v_shl {n m : Int} (h0 : CShl n m) (h : Q (.int (n * 2 ^ m.toNat)) H) : aShl (.int n) (.int m) H Q := ⟨h0, h⟩
theorem v_shr {n m : Int} (h0 : 0 ≤ m) (h : Q (.int (n / 2 ^ m.toNat)) H) : aShr (.int n) (.int m) H Q := ⟨h0, h⟩
theorem v_and {n m : Int} (h : Q (.int (Builtin.bitAnd n m)) H) : aAnd (.int n) (.int m) H Q := h
theorem v_ltI {n m : Int} (h : Q (.bl (decide (n < m))) H) : aLt K (.int n) (.int m) H Q := h
theorem v_ltT {a c : Addr} {ns ms : List Int} (h1 : SqT K H a (ns.map V.int)) (h2 : SqT K H c (ms.map V.int)) (h : Q (.bl (HT.lexLt ns ms)) H) : aLt K (.ref a) (.ref c) H Q := ⟨a, c, ns, ms, rfl, rfl, h1, h2, h⟩
theorem v_leI {n m : Int} (h : Q (.bl (decide (n ≤ m))) H) : aLe (.int n) (.int m) H Q := h
theorem v_gtI {n m : Int} (h : Q (.bl (decide (m < n))) H) : aGt (.int n) (.int m) H Q := h
theorem v_geI {n m : Int} (h : Q (.bl (decide (m ≤ n))) H) : aGe (.int n) (.int m) H Q := h
theorem dec_i {n m : Int} : decide (V.int n = V.int m) = decide (n = m) := by simp
theorem v_eqI {n m : Int} (h : Q (.bl (decide (n = m))) H) : aEq K (.int n) (.int m) H Q := .inl ⟨rfl, by rw [dec_i]; exact h⟩
theorem v_neI {n m : Int} (h : Q (.bl (!decide (n = m))) H) : aNe K (.int n) (.int m) H Q := .inl ⟨rfl, by rw [dec_i]; exact h⟩
theorem v_eqB {n m : Bool} (h : Q (.bl (decide (n = m))) H) : aEq K (.bl n) (.bl m) H Q := .inl ⟨rfl, by rw [show decide (V.bl n = V.bl m) = decide (n = m) by simp]; exact h⟩
theorem v_neB {n m : Bool} (h : Q (.bl (!decide (n = m))) H) : aNe K (.bl n) (.bl m) H Q := .inl ⟨rfl, by rw [show decide (V.bl n = V.bl m) = decide (n = m) by simp]; exact h⟩
theorem v_eqS {n m : Str} (h : Q (.bl (decide (n = m))) H) : aEq K (.str n) (.str m) H Q := .inl ⟨rfl, by rw [show decide (V.str n = V.str m) = decide (n = m) by simp]; exact h⟩
theorem v_neS {n m : Str} (h : Q (.bl (!decide (n = m))) H) : aNe K (.str n) (.str m) H Q := .inl ⟨rfl, by rw [show decide (V.str n = V.str m) = decide (n = m) by simp]; exact h⟩
theorem v_eqO (hs : scal x y = true) (h : Q (.bl (decide (x = y))) H) : aEq K x y H Q := .inl ⟨hs, h⟩
theorem v_neO (hs : scal x y = true) (h : Q (.bl (!decide (x = y))) H) : aNe K x y H Q := .inl ⟨hs, h⟩
theorem v_eqD {d e : PyData} (h1 : Dp K H x d) (h2 : Dp K H y e) (h3 : SeqAt.shaped d = true) (h4 : SeqAt.shaped e = true) (h : Q (.bl (PyData.eqv d e)) H) : aEq K x y H Q := .inr ⟨d, e, h1, h2, h3, h4, h⟩
theorem v_neD {d e : PyData} (h1 : Dp K H x d) (h2 : Dp K H y e) (h3 : SeqAt.shaped d = true) (h4 : SeqAt.shaped e = true) (h : Q (.bl (!PyData.eqv d e)) H) : aNe K x y H Q := .inr ⟨d, e, h1, h2, h3, h4, h⟩
theorem v_isN (h : Q (.bl (decide (x = .non))) H) : aIsN x .non H Q := ⟨rfl, h⟩
theorem v_notN (h : Q (.bl (!decide (x = .non))) H) : aNotN x .non H Q := ⟨rfl, h⟩
theorem v_ipAdd {n m : Int} (h : Q (.int (n + m)) H) : (fun (x y : V) (H : Hp) (Q : VK) => match x, y with | .int i, .int j => Q (.int (i + j)) H | _, _ => False) (.int n) (.int m) H Q := h
def aIpAdd : TIp := fun x y H Q => match x, y with
  | .int i, .int j => Q (.int (i + j)) H
  | _, _ => False
def aIpSub : TIp := fun x y H Q => match x, y with
  | .int i, .int j => Q (.int (i - j)) H
  | _, _ => False
theorem ip_add' {X : Cx} : PIp X .Add aIpAdd := ipAdd
theorem ip_sub' {X : Cx} : PIp X .Sub aIpSub := ipSub
theorem v_ipA {n m : Int} (h : Q (.int (n + m)) H) : aIpAdd (.int n) (.int m) H Q := h
theorem v_ipS {n m : Int} (h : Q (.int (n - m)) H) : aIpSub (.int n) (.int m) H Q := h

/-! ways -/
theorem r_T (h : A) : if true = true then A else B := by rw [if_pos rfl]; exact h
theorem r_F (h : B) : if false = true then A else B := by rw [if_neg Bool.false_ne_true]; exact h
theorem r_nT (h : B) : if (!true) = true then A else B := by rw [if_neg (by decide)]; exact h
theorem r_nF (h : A) : if (!false) = true then A else B := by rw [if_pos (by decide)]; exact h
theorem r_w {c : Prop} [Decidable c] (h1 : c → A) (h2 : ¬ c → B) : if decide c = true then A else B := by
  by_cases h : c
  · rw [decide_eq_true h, if_pos rfl]; exact h1 h
  · rw [decide_eq_false h, if_neg Bool.false_ne_true]; exact h2 h
theorem r_nw {c : Prop} [Decidable c] (h1 : ¬ c → A) (h2 : c → B) : if (!decide c) = true then A else B := by
  by_cases h : c
  · rw [decide_eq_true h]; exact r_nT (h2 h)
  · rw [decide_eq_false h]; exact r_nF (h1 h)
theorem r_b (h1 : b = true → A) (h2 : b = false → B) : if b = true then A else B := by
  cases b with
  | true => exact r_T (h1 rfl)
  | false => exact r_F (h2 rfl)
theorem r_nb (h1 : b = false → A) (h2 : b = true → B) : if (!b) = true then A else B := by
  cases b with
  | true => exact r_nT (h2 rfl)
  | false => exact r_nF (h1 rfl)
theorem r_wT {c : Prop} [Decidable c] (hc : c) (h : A) : if decide c = true then A else B := r_w (fun _ => h) fun n => (n hc).elim
theorem r_wF {c : Prop} [Decidable c] (hc : ¬ c) (h : B) : if decide c = true then A else B := r_w (fun n => (hc n).elim) fun _ => h
theorem r_nwT {c : Prop} [Decidable c] (hc : ¬ c) (h : A) : if (!decide c) = true then A else B := r_nw (fun _ => h) fun n => (hc n).elim
theorem r_nwF {c : Prop} [Decidable c] (hc : c) (h : B) : if (!decide c) = true then A else B := r_nw (fun n => (n hc).elim) fun _ => h

/-! loops -/
/-- while: W by a measure; the body is read for the next turn -/
theorem r_while {c : TT} (W : Nat → L2.St → Hp → Prop) (h0 : ∃ m, W m σ H)
    (hs : ∀ m σ H, W m σ H → c σ H fun b H1 => if b = true then ∃ N : L2.St → Hp → Prop, (∀ σ' H', N σ' H' → ∃ m', m' < m ∧ W m' σ' H') ∧ t1 { D with nx := N, ct := N, bk := D.nx } σ H1 else D.nx σ H1) : tWhile c t1 D σ H := ⟨W, h0, hs⟩
theorem r_next_turn {W : Nat → L2.St → Hp → Prop} {m : Nat} {P : (L2.St → Hp → Prop) → Prop} (h : P (fun σ' H' => ∃ m', m' < m ∧ W m' σ' H')) : ∃ N : L2.St → Hp → Prop, (∀ σ' H', N σ' H' → ∃ m', m' < m ∧ W m' σ' H') ∧ P N := ⟨_, fun _ _ h => h, h⟩
theorem r_rng1 {J : It → Hp → Prop} {n : Int} (h0 : -(2 ^ 62) ≤ n ∧ n < 2 ^ 62) (h : J (Itr 0 n.toNat) H) (ha : as σ H = fun QA => QA [.int n] H) : iRng1 as σ H J := by
  unfold iRng1
  rw [ha]
  exact ⟨n, rfl, h0.1, h0.2, h⟩
end

/-! ### defs by their names -/
/-- the module's name x holds a def that keeps sp; dvs: its defaults -/
structure Cal (P : Program) (w : World) (K : PySem.W.Frag) (mg : Str → Option Value) (base : Heap) (CX : CXT) (k : Nat) (x : Str) (dvs : List V) (sp : Sp) : Prop where
  ex : ∃ (f : Addr) (fd : FuncData) (ps : List Str) (ds : List Value), mg x = some (.ref f) ∧ PySem.W.keepIn K (.ref f) = true ∧ Binds K fd ps ds ∧ Vals dvs ds ∧ FnOk P w K mg base CX k f fd ps sp
/-- the class at C has a method m that keeps sp -/
structure CalM (P : Program) (w : World) (K : PySem.W.Frag) (mg : Str → Option Value) (base : Heap) (CX : CXT) (k : Nat) (C : Addr) (m : Str) (dvs : List V) (sp : Sp) : Prop where
  cl : Cls K C
  ex : ∃ (f : Addr) (fd : FuncData) (ps : List Str) (ds : List Value), Meth K C m f ∧ Binds K fd ps ds ∧ Vals dvs ds ∧ FnOk P w K mg base CX k f fd ps sp
/-- the name x holds the class at C, made by an __init__ that keeps sp -/
structure CalC (P : Program) (w : World) (K : PySem.W.Frag) (mg : Str → Option Value) (base : Heap) (CX : CXT) (k : Nat) (x : Str) (C : Addr) (dvs : List V) (sp : Sp) : Prop where
  ex : ∃ (f : Addr) (fd : FuncData) (ps : List Str) (ds : List Value), mg x = some (.ref C) ∧ Mk K C f ∧ Binds K fd ps ds ∧ Vals dvs ds ∧ FnOk P w K mg base CX k f fd ps sp
section
variable {X : Cx} {CX : CXT} {k j : Nat} {C : Addr} {sp : Sp} {dvs : List V} {E : XK} {x m : Str} {p pos apos : Pos} {e o : Expr} {es : List Expr} {ta : TE} {t : TA}
theorem pe_callF (c : Cal X.prog X.w X.K X.mg X.base CX j x dvs sp) (hr : Room k X.A) (hg : Gl X x) (hx : Passes CX X E) (ha : PA X (e :: es) t) (hk : j ≤ k := by decide)
    (hdb : (x == ("__debug__" : Str)) = false := by decide) (he : starEach (e :: es) X.env = (false, eval e X.env) :: starEach es X.env := by rfl) (hpl : (backTo pos (starEach es X.env)).any (·.1) = false := by rfl) :
    PE X (.Call (.Name x p) (e :: es) [] pos) (tCall sp dvs E t) := by
  obtain ⟨f, fd, ps, ds, h1, h2, h3, h4, h5⟩ := c.ex
  exact pe_call h5 (hr.mono hk) hg h1 h2 h3 h4 hx ha hdb he hpl
theorem pe_callF0 (c : Cal X.prog X.w X.K X.mg X.base CX j x dvs sp) (hr : Room k X.A) (hg : Gl X x) (hx : Passes CX X E) (hk : j ≤ k := by decide)
    (hdb : (x == ("__debug__" : Str)) = false := by decide) : PE X (.Call (.Name x p) [] [] pos) (tCall sp dvs E tNil) := by
  obtain ⟨f, fd, ps, ds, h1, h2, h3, h4, h5⟩ := c.ex
  exact pe_call0 h5 (hr.mono hk) hg h1 h2 h3 h4 hx hdb
theorem pe_methF {pl : Sem Bool} (he : PE X o ta) (c : CalM X.prog X.w X.K X.mg X.base CX j C m dvs sp) (hr : Room k X.A) (hx : Passes CX X E) (ha : PA X (e :: es) t) (hk : j ≤ k := by decide)
    (hst : starEach (e :: es) X.env = (false, eval e X.env) :: starEach es X.env := by rfl) (hpl : (backTo pos (starEach es X.env)).any (·.1) = false := by rfl)
    (ht : eval (.Call (.Attribute o m apos) (e :: es) [] pos) X.env = (do
      let ov ← eval o X.env
      standAt apos.atName
      let (f, first) ← holding [ov] (getMethod ov m pl)
      callWith pos f first (backTo pos (starEach (e :: es) X.env)) (backToKw pos (keywordEach [] X.env))) := by rfl) :
    PE X (.Call (.Attribute o m apos) (e :: es) [] pos) (tMeth C m sp dvs E ta t) := by
  obtain ⟨f, fd, ps, ds, h1, h3, h4, h5⟩ := c.ex
  exact pe_meth he c.cl h1 h5 (hr.mono hk) h3 h4 hx ha hst hpl ht
theorem pe_methF0 {pl : Sem Bool} (he : PE X o ta) (c : CalM X.prog X.w X.K X.mg X.base CX j C m dvs sp) (hr : Room k X.A) (hx : Passes CX X E) (hk : j ≤ k := by decide)
    (ht : eval (.Call (.Attribute o m apos) [] [] pos) X.env = (do
      let ov ← eval o X.env
      standAt apos.atName
      let (f, first) ← holding [ov] (getMethod ov m pl)
      callWith pos f first (backTo pos (starEach [] X.env)) (backToKw pos (keywordEach [] X.env))) := by rfl) :
    PE X (.Call (.Attribute o m apos) [] [] pos) (tMeth C m sp dvs E ta tNil) := by
  obtain ⟨f, fd, ps, ds, h1, h3, h4, h5⟩ := c.ex
  exact pe_meth0 he c.cl h1 h5 (hr.mono hk) h3 h4 hx ht
theorem pe_makeF (c : CalC X.prog X.w X.K X.mg X.base CX j x C dvs sp) (hr : Room k X.A) (hg : Gl X x) (hx : Passes CX X E) (ha : PA X (e :: es) t) (hk : j + 1 ≤ k := by decide)
    (hdb : (x == ("__debug__" : Str)) = false := by decide) (he : starEach (e :: es) X.env = (false, eval e X.env) :: starEach es X.env := by rfl) (hpl : (backTo pos (starEach es X.env)).any (·.1) = false := by rfl) :
    PE X (.Call (.Name x p) (e :: es) [] pos) (tMake C sp dvs E t) := by
  obtain ⟨f, fd, ps, ds, h1, h2, h3, h4, h5⟩ := c.ex
  exact pe_make h2 h5 (hr.mono hk) hg h1 h3 h4 hx ha hdb he hpl
theorem pe_makeF0 (c : CalC X.prog X.w X.K X.mg X.base CX j x C dvs sp) (hr : Room k X.A) (hg : Gl X x) (hx : Passes CX X E) (hk : j + 1 ≤ k := by decide)
    (hdb : (x == ("__debug__" : Str)) = false := by decide) : PE X (.Call (.Name x p) [] [] pos) (tMake C sp dvs E tNil) := by
  obtain ⟨f, fd, ps, ds, h1, h2, h3, h4, h5⟩ := c.ex
  exact pe_make0 h2 h5 (hr.mono hk) hg h1 h3 h4 hx hdb
end
/-- a walked thing in a for, in a comprehension -/
theorem r_for {wi : TI} {g : TG} {tb : TS} {D : Ends} {σ : L2.St} {H : Hp} (h : wi σ H fun J H1 => ∃ W : Nat → Nat → L2.St → Hp → Prop, (∃ m, W 0 m σ H1) ∧ ∀ i m σ H, W i m σ H →
  (J.stop i H ∧ D.nx σ H) ∨ (J.go i H ∧ ∃ N : L2.St → Hp → Prop, (∀ σ' H', N σ' H' → ∃ m', m' < m ∧ W (i + 1) m' σ' H') ∧ ∀ x H', J.yld i H x H' → g x σ H' fun σ2 H2 => tb { D with nx := N, ct := N, bk := D.nx } σ2 H2)) : tFor wi g tb D σ H := h
theorem r_lc {wi : TI} {g : TG} {tt : TT} {te : TE} {vs : List Nat} {σ : L2.St} {H : Hp} {Q : VK} (h : wi σ H fun J H1 => ∀ D, H1 D = none → ∃ W : Nat → Nat → Hp → Prop, (∃ m, W 0 m (upd H1 D (.lst []))) ∧ ∀ i m H, W i m H →
  (J.stop i H ∧ Q (.ref D) H) ∨ (J.go i H ∧ ∃ Nx : Hp → Prop, (∀ H', Nx H' → ∃ m', m' < m ∧ W (i + 1) m' H') ∧ ∀ x H', J.yld i H x H' → g x (wipe σ vs) H' fun σ2 H2 => wipe σ2 vs = wipe σ vs ∧ tt σ2 H2 fun b H3 =>
    if b = true then te σ2 H3 fun y H4 => ∃ acc, H4 D = some (.lst acc) ∧ acc.length < sizeLine ∧ Nx (upd H4 D (.lst (acc ++ [y]))) else Nx H3)) : tLc wi g tt te vs σ H Q := h
section
variable {K : PySem.W.Frag} {tl : TE} {as : TA} {σ : L2.St} {H : Hp} {R : It → Hp → Prop}
def kList (K : PySem.W.Frag) (R : It → Hp → Prop) : V → Hp → Prop := fun x H1 => ∃ a, x = .ref a ∧ (∃ xs, SqL K H1 a xs) ∧ R (Itl K a) H1
def kTupI (K : PySem.W.Frag) (R : It → Hp → Prop) : V → Hp → Prop := fun x H1 => ∃ a, x = .ref a ∧ (∃ xs, SqT K H1 a xs) ∧ R (Itt K a) H1
def kRng1 (R : It → Hp → Prop) : List V → Hp → Prop := fun vs H1 => ∃ j : Int, vs = [.int j] ∧ -(2 ^ 62) ≤ j ∧ j < 2 ^ 62 ∧ R (Itr 0 j.toNat) H1
def kRng2 (R : It → Hp → Prop) : List V → Hp → Prop := fun vs H1 => ∃ i j : Int, vs = [.int i, .int j] ∧ (-(2 ^ 62) ≤ i ∧ i < 2 ^ 62 ∧ -(2 ^ 62) ≤ j ∧ j < 2 ^ 62) ∧ R (Itr i (j - i).toNat) H1
def kRng3 (R : It → Hp → Prop) : List V → Hp → Prop := fun vs H1 => ∃ (i j c : Int) (n : Nat), vs = [.int i, .int j, .int c] ∧ RgC i j c n ∧ R (Itc i c n) H1
def kEnum (K : PySem.W.Frag) (R : It → Hp → Prop) : List V → Hp → Prop := fun vs H1 => ∃ a xs, vs = [.ref a] ∧ SqL K H1 a xs ∧ R (Ite K a) H1
def kZip (K : PySem.W.Frag) (R : It → Hp → Prop) : List V → Hp → Prop := fun vs H1 => ∃ a b xs ys, vs = [.ref a, .ref b] ∧ SqL K H1 a xs ∧ SqL K H1 b ys ∧ R (Itz K a b) H1
def kRev (K : PySem.W.Frag) (R : It → Hp → Prop) : List V → Hp → Prop := fun vs H1 => ∃ (a : Addr) (xs : List V), vs = [.ref a] ∧ SqL K H1 a xs ∧ R (Itv K a xs.length) H1
theorem r_iList (h : tl σ H (kList K R)) : iList K tl σ H R := h
theorem r_iTup (h : tl σ H (kTupI K R)) : iTup K tl σ H R := h
theorem r_iRng1 (h : as σ H (kRng1 R)) : iRng1 as σ H R := h
theorem r_iRng2 (h : as σ H (kRng2 R)) : iRng2 as σ H R := h
theorem r_iRng3 (h : as σ H (kRng3 R)) : iRng3 as σ H R := h
theorem r_iEnum (h : as σ H (kEnum K R)) : iEnum K as σ H R := h
theorem r_iZip (h : as σ H (kZip K R)) : iZip K as σ H R := h
theorem r_iRev (h : as σ H (kRev K R)) : iRev K as σ H R := h
theorem v_iList {a : Addr} {xs : List V} (h : SqL K H a xs) (k : R (Itl K a) H) : kList K R (.ref a) H := ⟨a, rfl, ⟨xs, h⟩, k⟩
theorem v_iTup {a : Addr} {xs : List V} (h : SqT K H a xs) (k : R (Itt K a) H) : kTupI K R (.ref a) H := ⟨a, rfl, ⟨xs, h⟩, k⟩
theorem v_rng1 {n : Int} (h0 : -(2 ^ 62) ≤ n ∧ n < 2 ^ 62) (k : R (Itr 0 n.toNat) H) : kRng1 R [.int n] H := ⟨n, rfl, h0.1, h0.2, k⟩
theorem v_rng2 {n m : Int} (h0 : -(2 ^ 62) ≤ n ∧ n < 2 ^ 62 ∧ -(2 ^ 62) ≤ m ∧ m < 2 ^ 62) (k : R (Itr n (m - n).toNat) H) : kRng2 R [.int n, .int m] H := ⟨n, m, rfl, h0, k⟩
theorem v_rng3 {i j c : Int} {n : Nat} (h0 : RgC i j c n) (k : R (Itc i c n) H) : kRng3 R [.int i, .int j, .int c] H := ⟨i, j, c, n, rfl, h0, k⟩
theorem v_enum {a : Addr} {xs : List V} (h : SqL K H a xs) (k : R (Ite K a) H) : kEnum K R [.ref a] H := ⟨a, xs, rfl, h, k⟩
theorem v_zip {a b : Addr} {xs ys : List V} (h : SqL K H a xs) (h2 : SqL K H b ys) (k : R (Itz K a b) H) : kZip K R [.ref a, .ref b] H := ⟨a, b, xs, ys, rfl, h, h2, k⟩
theorem v_rev1 {a : Addr} {xs : List V} (h : SqL K H a xs) (k : R (Itv K a xs.length) H) : kRev K R [.ref a] H := ⟨a, xs, rfl, h, k⟩
end
end SH


set_option Elab.async false
set_option linter.all false
set_option maxRecDepth 100000
set_option maxHeartbeats 4000000
/-! SHC: lengths, places, fields, constants -/
namespace SH
open PySem PySem.Spec PyProof.Rows L2

def Sq (K : PySem.W.Frag) (H : Hp) (a : Addr) (xs : List V) : Prop := SqL K H a xs ∨ SqT K H a xs
def aLen (K : PySem.W.Frag) : List V → Hp → VK → Prop := fun vs H Q => match vs with
  | [.ref p] => ∃ xs, Sq K H p xs ∧ Q (.int xs.length) H
  | [.str y] => y.length ≤ sizeLine ∧ Q (.int y.length) H
  | _ => False
def aIx (K : PySem.W.Frag) : R2 := fun x y H Q => match x, y with
  | .ref p, .int i => ∃ xs v, Sq K H p xs ∧ atI xs i = some v ∧ Q v H
  | .str z, .int i => ∃ c, z.length ≤ sizeLine ∧ atI z.cps.toList i = some c ∧ Q (.str ⟨#[c]⟩) H
  | _, _ => False
section
variable {X : Cx} {o e value : Expr} {f : Str} {pos tpos pos' : Pos} {ta tv : TE} {C : Addr}
theorem cLen : CallR X (.builtin "len") (aLen X.K) := by
  intro pins s σ H xs us Q I r h
  match xs, r, h with
  | [], _, h => exact False.elim h
  | [.ref p], r, h =>
    obtain ⟨ys, hq, q⟩ := h
    exact call_len pins s σ H _ us Q I r ⟨.ref p, ys.length, rfl, hq.elim (fun z => .inl ⟨ys, z, rfl⟩) fun z => .inr ⟨ys, z, rfl⟩, q⟩
  | [.str y], r, h => exact call_len pins s σ H _ us Q I r ⟨.str y, y.length, rfl, ⟨h.1, rfl⟩, h.2⟩
  | [.non], _, h => exact False.elim h
  | [.bl _], _, h => exact False.elim h
  | [.int _], _, h => exact False.elim h
  | [.byt _], _, h => exact False.elim h
  | [.flt _], _, h => exact False.elim h
  | [.ty _], _, h => exact False.elim h
  | _ :: _ :: _, _, h => revert h; intro h; simp [aLen] at h
theorem ixA : IxR X (aIx X.K) := by
  intro value slice pins s σ H x y v u Q I rx ry h hs
  cases x <;> cases y <;> first | exact False.elim h | skip
  · obtain ⟨c, h1, h2, q⟩ := h
    exact ix_str value slice pins s σ H _ _ v u Q I rx ry ⟨_, _, c, rfl, rfl, h1, h2, q⟩ hs
  · obtain ⟨xs, w, hq, h2, q⟩ := h
    rcases hq with hq | hq
    · exact ix_list value slice pins s σ H _ _ v u Q I rx ry ⟨_, xs, _, w, rfl, rfl, hq, h2, q⟩ hs
    · exact ix_tup value slice pins s σ H _ _ v u Q I rx ry ⟨_, xs, _, w, rfl, rfl, hq, h2, q⟩ hs
/-- e.f, the class known -/
def tFldF (C : Addr) (ta : TE) (f : Str) : TE := fun σ H Q => ta σ H fun x H1 => ∃ a dx fs v, x = .ref a ∧ H1 a = some (.ins C dx fs) ∧ fs.lookup f = some v ∧ Q v H1
theorem pe_fldF (cl : Cls X.K C) (na : NoAttr X.K C f) (he : PE X e ta) (hb : attributeBase e f X.env (eval e X.env) = eval e X.env := by rfl) : PE X (.Attribute e f pos) (tFldF C ta f) := by
  refine ⟨fun pins s σ H Q I h => ?_⟩
  refine attr_of hb (thn (he.run pins s σ H _ I h) fun u s1 ⟨x, H1, I1, rx, a, dx, fs, v, ex, ea, l, q⟩ => ?_)
  subst ex
  obtain rfl : u = Value.ref a := rx
  exact getattr_ok I1 ea cl na l fun u' s2 I2 ru => ⟨v, H1, I2, ru, q⟩
def sFldF (C : Addr) (ta tv : TE) (f : Str) : TS := fun D σ H => tv σ H fun y H1 => ta σ H1 fun x H2 => ∃ a dx fs, x = .ref a ∧ H2 a = some (.ins C dx fs) ∧ fs.length < 1000 ∧ D.nx σ (upd H2 a (.ins C dx (putF f y fs)))
theorem ps_fldF (cl : Cls X.K C) (na : NoAttr X.K C f) (ha : PE X o ta) (hv : PE X value tv) (hs : swapsWith value (some (.Attribute o f pos')) pos.line X.env = pure false) : PS X (.Assign [.Attribute o f pos'] value pos) (sFldF C ta tv f) := by
  refine ⟨fun pins s σ H D I h => ?_⟩
  refine plainObj_wpAny_Assign_Attribute (thn (hv.run pins s σ H _ I h) fun u s1 ⟨y, H1, I1, ry, q⟩ => thn (ha.run pins s1 σ H1 _ I1 q) fun ov s2 ⟨x, H2, I2, rx, a, dx, fs, ex, ea, l, q2⟩ => ?_) hs
  subst ex
  obtain rfl : ov = Value.ref a := rx
  exact setattr_ok I2 ea cl na l ry fun s3 I3 => ⟨σ, _, I3, q2⟩
def sFldAugF (C : Addr) (ta tv : TE) (rd : V → V → Hp → VK → Prop) (f : Str) : TS := fun D σ H => ta σ H fun x H1 => ∃ a dx fs v, x = .ref a ∧ H1 a = some (.ins C dx fs) ∧ fs.lookup f = some v ∧
  tv σ H1 fun y H2 => rd v y H2 fun z H3 => ∃ dx' fs', H3 a = some (.ins C dx' fs') ∧ fs'.length < 1000 ∧ D.nx σ (upd H3 a (.ins C dx' (putF f z fs')))
theorem ps_fldaugF {op : Operator} {rd : V → V → Hp → VK → Prop} (cl : Cls X.K C) (na : NoAttr X.K C f) (ha : PE X o ta) (hv : PE X value tv) (hop : InOp X op rd) : PS X (.AugAssign (.Attribute o f tpos) op value pos) (sFldAugF C ta tv rd f) := by
  refine ⟨fun pins s σ H D I h => ?_⟩
  refine wpAny_AugAssign_AttributeAny (thn (ha.run pins s σ H _ I h) fun ov s1 ⟨x, H1, I1, rx, a, dx, fs, v, ex, ea, l, q⟩ => ?_)
  subst ex
  obtain rfl : ov = Value.ref a := rx
  refine getattr_ok I1 ea cl na l fun u s2 I2 ru => thn (hv.run pins s2 σ H1 _ I2 q) fun w3 s3 ⟨y, H2, I3, ry, q3⟩ => thn (hop pins s3 σ H2 v y u w3 _ I3 ru ry q3) fun w4 s4 ⟨z, H3, I4, rz, dx', fs', ea', l', q4⟩ => ?_
  exact setattr_ok I4 ea' cl na l' rz fun s5 I5 => ⟨σ, _, I5, q4⟩
theorem in_add' : InOp X .Add aIpAdd := ip_add'
theorem in_sub' : InOp X .Sub aIpSub := ip_sub'
/-- a module's constant that is an int -/
theorem pe_k {x : Str} {v : V} (hm : ∃ u, X.mg x = some u ∧ RelV v u) (hg : Gl X x := by rfl) (hd : (x == ("__debug__" : Str)) = false := by decide) : PE X (.Name x pos) (tC v) := by
  obtain ⟨u, h1, h2⟩ := hm
  exact pe_glob hg h1 h2 hd
/-- xs[i], for xs[i] op= e -/
def aGetL (K : PySem.W.Frag) : V → V → Hp → VK → Prop := fun o i H Q => ∃ p xs k v, o = .ref p ∧ i = .int k ∧ H p = some (.lst xs) ∧ 0 ≤ k ∧ k < 2 ^ 63 ∧ xs[k.toNat]? = some v ∧ Q v H
theorem getL : PGet X (aGetL X.K) := by
  intro pins s σ H o i ov iv Q I ro ri h
  obtain ⟨p, xs, k, v, rfl, rfl, hp, h0, h1, hv, q⟩ := h
  cases ro
  obtain ⟨t, rfl⟩ := ri
  obtain ⟨its, r, pl, hz⟩ := I.list (SqL.of (K := X.K) hp)
  obtain ⟨w, ew, rw'⟩ := r.get hv
  exact wpAny_getItem_list pl.isList h0 h1 (by simpa using ew) ⟨v, H, I, rw', q⟩
end
section
variable {K : PySem.W.Frag} {H : Hp} {Q : VK} {x y v : V} {a p dx C : Addr} {fs : List (Str × V)} {f : Str} {xs : List V} {i : Int} {n : Nat} {ta tv : TE} {σ : L2.St} {D : Ends}
theorem v_lenL (h : SqL K H p xs) (k : Q (.int xs.length) H) : aLen K [.ref p] H Q := ⟨xs, .inl h, k⟩
theorem v_lenLm {α : Type} {f : α → V} {ns : List α} (h : SqL K H p (ns.map f)) (k : Q (.int ns.length) H) : aLen K [.ref p] H Q := ⟨_, .inl h, by rw [List.length_map]; exact k⟩
theorem v_lenTm {α : Type} {f : α → V} {ns : List α} (h : SqT K H p (ns.map f)) (k : Q (.int ns.length) H) : aLen K [.ref p] H Q := ⟨_, .inr h, by rw [List.length_map]; exact k⟩
theorem v_lenT (h : SqT K H p xs) (k : Q (.int xs.length) H) : aLen K [.ref p] H Q := ⟨xs, .inr h, k⟩
theorem v_ixL (h : SqL K H p xs) (ha : atI xs i = some v) (k : Q v H) : aIx K (.ref p) (.int i) H Q := ⟨xs, v, .inl h, ha, k⟩
theorem v_ixT (h : SqT K H p xs) (ha : atI xs i = some v) (k : Q v H) : aIx K (.ref p) (.int i) H Q := ⟨xs, v, .inr h, ha, k⟩
/-- at a place n -/
theorem v_ixLn (h : SqL K H p xs) (e : i = (n : Int)) (ha : xs[n]? = some v) (k : Q v H) : aIx K (.ref p) (.int i) H Q := ⟨xs, v, .inl h, by rw [e]; exact atI_nat ha, k⟩
theorem v_ixTn (h : SqT K H p xs) (e : i = (n : Int)) (ha : xs[n]? = some v) (k : Q v H) : aIx K (.ref p) (.int i) H Q := ⟨xs, v, .inr h, by rw [e]; exact atI_nat ha, k⟩
def kFld (C : Addr) (f : Str) (Q : VK) : VK := fun x H1 => ∃ a dx fs v, x = .ref a ∧ H1 a = some (.ins C dx fs) ∧ fs.lookup f = some v ∧ Q v H1
theorem r_fldF (h : ta σ H (kFld C f Q)) : tFldF C ta f σ H Q := h
theorem v_fld (h : H a = some (.ins C dx fs)) (l : fs.lookup f = some v) (k : Q v H) : kFld C f Q (.ref a) H := ⟨a, dx, fs, v, rfl, h, l, k⟩
def kSfld (C : Addr) (f : Str) (y : V) (R : Hp → Prop) : VK := fun x H2 => ∃ a dx fs, x = .ref a ∧ H2 a = some (.ins C dx fs) ∧ fs.length < 1000 ∧ R (upd H2 a (.ins C dx (putF f y fs)))
theorem r_sfldF (h : tv σ H fun y H1 => ta σ H1 (kSfld C f y (D.nx σ))) : sFldF C ta tv f D σ H := h
theorem v_sfld {fs' : List (Str × V)} {R : Hp → Prop} (h : H a = some (.ins C dx fs)) (l : fs.length < 1000) (e : putF f y fs = fs') (k : R (upd H a (.ins C dx fs'))) : kSfld C f y R (.ref a) H := ⟨a, dx, fs, rfl, h, l, by rw [e]; exact k⟩
def kAug1 (C : Addr) (f : Str) (R : V → Addr → Hp → Prop) : VK := fun x H1 => ∃ a dx fs v, x = .ref a ∧ H1 a = some (.ins C dx fs) ∧ fs.lookup f = some v ∧ R v a H1
def kAug2 (C : Addr) (f : Str) (a : Addr) (R : Hp → Prop) : VK := fun z H3 => ∃ dx' fs', H3 a = some (.ins C dx' fs') ∧ fs'.length < 1000 ∧ R (upd H3 a (.ins C dx' (putF f z fs')))
theorem r_sfldAugF {rd : V → V → Hp → VK → Prop} (h : ta σ H (kAug1 C f fun v a H1 => tv σ H1 fun y H2 => rd v y H2 (kAug2 C f a (D.nx σ)))) : sFldAugF C ta tv rd f D σ H := h
theorem v_aug1 {R : V → Addr → Hp → Prop} (h : H a = some (.ins C dx fs)) (l : fs.lookup f = some v) (k : R v a H) : kAug1 C f R (.ref a) H := ⟨a, dx, fs, v, rfl, h, l, k⟩
theorem v_aug2 {fs' : List (Str × V)} {R : Hp → Prop} (h : H a = some (.ins C dx fs)) (l : fs.length < 1000) (e : putF f y fs = fs') (k : R (upd H a (.ins C dx fs'))) : kAug2 C f a R y H := ⟨dx, fs, h, l, by rw [e]; exact k⟩
theorem v_getL (h : H p = some (.lst xs)) (e : i = (n : Int)) (hn : n < 1000000) (ha : xs[n]? = some v) (k : Q v H) : aGetL K (.ref p) (.int i) H Q := ⟨p, xs, i, v, rfl, rfl, h, by omega, by omega, by rw [e]; exact ha, k⟩
theorem ixN_n {m n : Nat} (h : n < m) : ixN m (n : Int) = some n := by
  unfold ixN
  rw [if_pos (by omega), if_pos (by omega)]
  simp
theorem v_setL {P : Hp → Prop} (h : H p = some (.lst xs)) (e : i = (n : Int)) (hn : n < xs.length) (k : P (upd H p (.lst (xs.set n v)))) : rSetL (.ref p) (.int i) v H P := ⟨p, xs, i, n, rfl, rfl, h, by rw [e]; exact ixN_n hn, k⟩
theorem v_append {P : Hp → Prop} (h : H p = some (.lst xs)) (hn : xs.length < 1000000) (k : P (upd H p (.lst (xs ++ [v])))) : tyV K "list" (.ref p) H ∧ rAppend (.ref p) [v] H (fun _ H' => P H') := ⟨.inl ⟨rfl, xs, SqL.of h⟩, p, xs, v, rfl, rfl, h, Nat.lt_trans hn (by decide), k⟩
theorem ty_list (h : H p = some (.lst xs)) : tyV K "list" (.ref p) H := .inl ⟨rfl, xs, SqL.of h⟩
theorem v_app (h : H p = some (.lst xs)) (hn : xs.length < 1000000) (k : Q .non (upd H p (.lst (xs ++ [v])))) : rAppend (.ref p) [v] H Q := ⟨p, xs, v, rfl, rfl, h, Nat.lt_trans hn (by decide), k⟩
theorem v_ext {b : Addr} {ys : List V} (h : H p = some (.lst xs)) (h2 : H b = some (.lst ys)) (hn : xs.length + ys.length ≤ 1000000) (k : Q .non (upd H p (.lst (xs ++ ys)))) : rExtend (.ref p) [.ref b] H Q := ⟨p, b, xs, ys, rfl, rfl, h, h2, Nat.le_trans hn (by decide), k⟩
theorem v_rev (h : H p = some (.lst xs)) (k : Q .non (upd H p (.lst xs.reverse))) : rReverse (.ref p) [] H Q := ⟨p, xs, rfl, rfl, h, k⟩
theorem v_clear (h : H p = some (.lst xs)) (k : Q .non (upd H p (.lst []))) : rClear (.ref p) [] H Q := ⟨p, xs, rfl, rfl, h, k⟩
theorem v_pop (h : H p = some (.lst xs)) (hv : xs[xs.length - 1]? = some v) (k : Q v (upd H p (.lst xs.dropLast))) : rPop (.ref p) [] H Q := ⟨p, xs, v, rfl, rfl, h, hv, k⟩
theorem v_slL {lo hi : Option Int} (h : SqL K H p xs) (k : ∀ q, H q = none → Q (.ref q) (upd H q (.lst (cutV xs lo hi)))) : rSlL K (.ref p) lo hi H Q := ⟨p, xs, rfl, h, k⟩
theorem v_listL (h : SqL K H p xs) (k : ∀ l, H l = none → Q (.ref l) (upd H l (.lst xs))) : ∃ p' ys, [V.ref p] = [.ref p'] ∧ (SqL K H p' ys ∨ SqT K H p' ys) ∧ ∀ l, H l = none → Q (.ref l) (upd H l (.lst ys)) := ⟨p, xs, rfl, .inl h, k⟩
theorem v_listT (h : SqT K H p xs) (k : ∀ l, H l = none → Q (.ref l) (upd H l (.lst xs))) : ∃ p' ys, [V.ref p] = [.ref p'] ∧ (SqL K H p' ys ∨ SqT K H p' ys) ∧ ∀ l, H l = none → Q (.ref l) (upd H l (.lst ys)) := ⟨p, xs, rfl, .inr h, k⟩
theorem v_sum {ns : List Int} (h : SqL K H p (ns.map V.int)) (k : Q (.int ns.sum) H) : rSum K [.ref p] H Q := ⟨p, ns, rfl, h, k⟩
theorem v_isi {c : V} {t u : Value} {b : Bool} (h1 : ClsV c u) (h2 : TyX K H x t) (h3 : PySem.W.kitOne K t u = some b) (k : Q (.bl b) H) : rIsi K [x, c] H Q := ⟨x, c, t, u, b, rfl, h1, h2, h3, k⟩
theorem v_max2 {n m : Int} (k : Q (.int (if m > n then m else n)) H) : ∃ i j, [V.int n, V.int m] = [.int i, .int j] ∧ Q (.int (if j > i then j else i)) H := ⟨n, m, rfl, k⟩
theorem v_min2 {n m : Int} (k : Q (.int (if m < n then m else n)) H) : ∃ i j, [V.int n, V.int m] = [.int i, .int j] ∧ Q (.int (if j < i then j else i)) H := ⟨n, m, rfl, k⟩
theorem v_bits {n : Int} (k : Q (.int (Builtin.Int.intBits n : Nat)) H) : ∃ i, V.int n = .int i ∧ Q (.int (Builtin.Int.intBits i : Nat)) H := ⟨n, rfl, k⟩
theorem r_bits (h : ta σ H fun x H1 => ∃ i, x = .int i ∧ Q (.int (Builtin.Int.intBits i : Nat)) H1) : tBits ta σ H Q := h
end

/-- 10 ** 60 -/
def big60 : Int := 10 ^ 60
theorem big60_pos : 0 < big60 := by unfold big60; decide
theorem big60_lt : big60 < 2 ^ 200 := by unfold big60; decide +kernel
section
variable {K : PySem.W.Frag} {H : Hp} {Q : VK} {x : V}
theorem v_pow60 (k : Q (.int big60) H) : aPow (.int 10) (.int 60) H Q := ⟨⟨by decide, by decide, by decide⟩, k⟩
theorem v_isiIT {n : Int} (k : Q (.bl true) H) : rIsi K [.int n, .ty "int"] H Q := ⟨.int n, .ty "int", .type "int", .type "int", true, rfl, .ty _, .base (.int n), by rfl, k⟩
theorem v_isiIB {n : Int} (k : Q (.bl false) H) : rIsi K [.int n, .ty "bool"] H Q := ⟨.int n, .ty "bool", .type "int", .type "bool", false, rfl, .ty _, .base (.int n), by rfl, k⟩
end
theorem map_at {α : Type} {f : α → V} {ns : List α} {i : Nat} {x : V} (h : (ns.map f)[i]? = some x) : ∃ n, ns[i]? = some n ∧ x = f n := by
  rw [List.getElem?_map] at h
  cases e : ns[i]? with
  | none => rw [e] at h; cases h
  | some n => rw [e] at h; exact ⟨n, rfl, (Option.some.inj h).symm⟩
/-- a cut of any list -/
def cutL {α : Type} (xs : List α) (lo hi : Option Int) : List α := (xs.drop (HT.sIx xs.length 0 lo)).take (HT.sIx xs.length xs.length hi - HT.sIx xs.length 0 lo)
theorem cut_map {α : Type} (f : α → V) (ns : List α) (lo hi : Option Int) : cutV (ns.map f) lo hi = (cutL ns lo hi).map f := by
  unfold cutV cutL
  rw [List.length_map, List.map_take, List.map_drop]
theorem cutL_mem {α : Type} {xs : List α} {lo hi : Option Int} {x : α} (h : x ∈ cutL xs lo hi) : x ∈ xs := List.mem_of_mem_drop (List.mem_of_mem_take h)
theorem cutL_len {α : Type} (xs : List α) (lo hi : Option Int) : (cutL xs lo hi).length ≤ xs.length := by
  unfold cutL
  rw [List.length_take, List.length_drop]
  omega
theorem cutL_upto {α : Type} (xs : List α) (k : Nat) : cutL xs none (some (k : Int)) = xs.take k := by
  unfold cutL
  rw [HT.sIx_none, HT.sIx_nat, List.drop_zero, Nat.sub_zero, List.take_eq_take_iff]
  omega
theorem cutL_from {α : Type} (xs : List α) (k : Nat) : cutL xs (some (k : Int)) none = xs.drop k := by
  unfold cutL
  rw [HT.sIx_none, HT.sIx_nat]
  by_cases h : k ≤ xs.length
  · rw [Nat.min_eq_left h, List.take_of_length_le (by rw [List.length_drop]; omega)]
  · have e1 : min k xs.length = xs.length := by omega
    rw [e1, List.drop_length, List.drop_of_length_le (by omega), List.take_nil]
theorem cutL_span {α : Type} (xs : List α) (i j : Nat) : cutL xs (some (i : Int)) (some (j : Int)) = (xs.drop i).take (j - i) := by
  unfold cutL
  rw [HT.sIx_nat, HT.sIx_nat]
  by_cases h : i ≤ xs.length
  · rw [Nat.min_eq_left h]
    by_cases h2 : j ≤ xs.length
    · rw [Nat.min_eq_left h2]
    · rw [Nat.min_eq_right (by omega), List.take_of_length_le (by rw [List.length_drop]; omega), List.take_of_length_le (by rw [List.length_drop]; omega)]
  · have e1 : min i xs.length = xs.length := by omega
    rw [e1, List.drop_length, List.drop_of_length_le (by omega), List.take_nil, List.take_nil]
/-- what a law is asked: the script's ints in, True out -/
def lawSp (K : PySem.W.Frag) : Sp := fun vs H Q _ => ∃ (a : Addr) (ns : List Int), vs = [.ref a] ∧ SqL K H a (ns.map V.int) ∧ ns.length ≤ 63 ∧ ∀ H', Q (.bl true) H'
end SH

set_option Elab.async false
set_option linter.all false
set_option maxRecDepth 100000
set_option maxHeartbeats 4000000
/-! SHD: functions that are made by a def and handed out -/
namespace SH
open PySem PySem.Spec PyProof.Rows L2 NdefX LamX

/-- the cell at c holds v -/
def cellO (c : Addr) (v : V) : HO := .ext fun h => ∃ u, L2.RelV v u ∧ h.IsCell c (some u)
theorem cellO_ok {P : Program} {w : World} {H : Hp} {h : Heap} {c : Addr} {v : V} {u : Value} (r : L2.RelV v u) (e : h.IsCell c (some u)) : ObjOk P w H h c (cellO c v) := by
  refine ⟨⟨u, r, e⟩, ?_, fun h1 h2 ⟨u', r', o, ho, hd⟩ st => ⟨u', r', o, st o ho, hd⟩⟩
  obtain ⟨o, ho, _⟩ := e
  exact ⟨o, ho⟩
theorem cellO_at {P : Program} {w : World} {H : Hp} {h : Heap} {c : Addr} {v : V} (hok : HOk P w H h) (e : H c = some (cellO c v)) : ∃ u, L2.RelV v u ∧ h.IsCell c (some u) := (hok c _ e).1
/-- at f stands a function of the text st, made in the def of the name before it; its captured names fr hold ws -/
structure Clo (H : Hp) (f : Addr) (st : Stmt) (name qual : Str) (fr : List Str) (ws : List V) (cl : List (Str × Addr)) (c' : Addr) : Prop where
  fn : H f = some (FnO f (NF.of st name qual cl c'))
  code : H c' = some (CodeO c' qual)
  len : ws.length = fr.length
  cells : ∀ y c, (y, c) ∈ cl → ∃ v, H c = some (cellO c v)
  inj : ∀ x y c, cl.lookup x = some c → cl.lookup y = some c → x = y
  has : ∀ (i : Nat) (y : Str), fr[i]? = some y → ∃ c v, cl.lookup y = some c ∧ ws[i]? = some v ∧ H c = some (cellO c v)
theorem Clo.step {M : List Addr} {H H' : Hp} {f : Addr} {st : Stmt} {name qual : Str} {fr : List Str} {ws : List V} {cl : List (Str × Addr)} {c' : Addr} (c : Clo H f st name qual fr ws cl c') (s : Stp M H H') : Clo H' f st name qual fr ws cl c' := by
  refine ⟨s.fix c.fn True.intro, s.fix c.code True.intro, c.len, fun y a e => ?_, c.inj, fun i y e => ?_⟩
  · obtain ⟨v, h⟩ := c.cells y a e
    exact ⟨v, s.fix h True.intro⟩
  · obtain ⟨a, v, h1, h2, h3⟩ := c.has i y e
    exact ⟨a, v, h1, h2, s.fix h3 True.intro⟩

/-- the cells of a list tracked too -/
def track (cl : List (Str × Addr)) (val : Addr → HO) (H : Hp) : Hp := fun b => match H b with
  | some o => some o
  | none => if b ∈ cl.map (·.2) then some (val b) else none
theorem track_some {cl : List (Str × Addr)} {val : Addr → HO} {H : Hp} {b : Addr} {o : HO} (h : H b = some o) : track cl val H b = some o := by
  unfold track; rw [h]
theorem track_cell {cl : List (Str × Addr)} {val : Addr → HO} {H : Hp} {b : Addr} (h : H b = none) (m : b ∈ cl.map (·.2)) : track cl val H b = some (val b) := by
  unfold track; rw [h]; exact if_pos m
theorem track_out {cl : List (Str × Addr)} {val : Addr → HO} {H : Hp} {b : Addr} (m : b ∉ cl.map (·.2)) : track cl val H b = H b := by
  unfold track
  cases h : H b with
  | some o => rfl
  | none => exact if_neg m
theorem track_none {cl : List (Str × Addr)} {val : Addr → HO} {H : Hp} {b : Addr} (h : track cl val H b = none) : H b = none ∧ b ∉ cl.map (·.2) := by
  unfold track at h
  cases e : H b with
  | some o => rw [e] at h; cases h
  | none =>
    rw [e] at h
    refine ⟨rfl, fun m => ?_⟩
    have h : (if b ∈ cl.map (·.2) then some (val b) else none) = none := h
    rw [if_pos m] at h
    cases h
theorem track_ok {P : Program} {w : World} {H : Hp} {h : Heap} {cl : List (Str × Addr)} {val : Addr → HO} (hok : HOk P w H h) (hv : ∀ b ∈ cl.map (·.2), H b = none → ObjOk P w (track cl val H) h b (val b)) : HOk P w (track cl val H) h := fun b o e => by
  cases q : H b with
  | some u =>
    rw [track_some q] at e
    cases e
    exact (hok b o q).stay (fun _ _ _ z => z) (fun c z => track_some z) fun c xs z => track_some z
  | none =>
    by_cases m : b ∈ cl.map (·.2)
    · rw [track_cell q m] at e
      cases e
      exact hv b m q
    · rw [track_out m, q] at e; cases e

/-- the body of a def that makes a function and hands it out has come to its end -/
def Made (X : Cx) (σ : L2.St) (H : Hp) (T : List NTab) (i : Nat) (st : Stmt) (nm : Str) : Flow → Shared → Prop := fun fl s' => ∃ f' c' H1, Inv X [] (σ.set i (some (.ref f'))) H1 s' ∧ fl = .ret (.ref f') ∧ ExtN H H1 ∧ (∀ b, H1 b = Option.none → H b = Option.none) ∧ TabsN T H1 ∧ H f' = none ∧
  H1 f' = some (FnO f' (NF.of st nm (X.env.qual ++ nm) (cloFrom X.env.cells (C8.fnScope st).names []) c')) ∧ H1 c' = some (CodeO c' (X.env.qual ++ nm))
theorem mk_body {X : Cx} {σ : L2.St} {H : Hp} {s : Shared} {c P' : Addr} {nm : Str} {pos pos2 pos3 : Pos} {T : List NTab} {nmf : Nat → Nat → Str} {i : Nat} {st : Stmt} (I : Inv X [] σ H s)
    (hst : st = .FunctionDef nm (C8.fnArgs st) (C8.fnBody st) [] none [] (C8.fnScope st) none nm pos)
    (TB : TabB X.base X.mg c P') (hcode : X.env.code = .ref c) (hm : (P', nmf) ∈ T) (hn : nmf pos.line pos.col = X.env.qual ++ nm) (hu : ∀ p ∈ T, p.1 = P' → p.2 = nmf)
    (hfree : ∀ y ∈ (C8.fnScope st).names, y.2 = .free → X.env.scope.names.lookup y.1 = some .cell)
    (hd0 : (C8.fnArgs st).defaults = []) (hk0 : (C8.fnArgs st).kw_defaults = []) (ha : annTrees (C8.fnArgs st) none X.env = []) (hN : X.N.Nodup) (hf : X.fn nm = true ∨ X.env.scope.names.lookup nm = some .local)
    (hi : X.N[i]? = some nm) (hx : X.env.scope.names.lookup nm = some .local) (hdb : (nm == ("__debug__" : Str)) = false) (hcb : (nm == ("__classdict__" : Str)) = false) (hT : TabsN T H) :
    wpAny (model X.prog X.w) X.A (execs [st, .Return (some (.Name nm pos3)) pos2] X.env) (Made X σ H T i st nm) X.xe s := by
  have first := ps_ndefMS (X := X) (i := i) (T := T) (nm := nmf) (P := P') (c := c) hst TB hcode hm hn hu (fun y hy e => .inl (hfree y hy e)) hd0 hk0 ha hN hi (.inl hx) hf
  refine wpAny_execs_cons (thn (first.run [] s σ H ⟨fun σ1 H1 => ∃ f' c', σ1 = σ.set i (some (.ref f')) ∧ ExtN H H1 ∧ (∀ b, H1 b = Option.none → H b = Option.none) ∧ TabsN T H1 ∧ H f' = none ∧
      H1 f' = some (FnO f' (NF.of st nm (X.env.qual ++ nm) (cloFrom X.env.cells (C8.fnScope st).names []) c')) ∧ H1 c' = some (CodeO c' (X.env.qual ++ nm)), fun _ _ => False, fun _ _ => False, fun _ _ => False⟩ I
        ⟨hT, fun f' c' H1 e n t z e1 e2 => ⟨f', c', rfl, e, n, t, z, e1, e2⟩⟩) fun fl s2 q => ?_)
  cases fl with
  | next =>
    obtain ⟨σ1, H1, I1, f', c', rfl, e1, e2, e3, e4, e5, e6⟩ := q
    have hv : (σ.set i (some (V.ref f')))[i]? = some (some (.ref f')) := by
      have hlt : i < X.N.length := (List.getElem?_eq_some_iff.mp hi).1
      rw [List.getElem?_set_self (by rw [I.len]; exact hlt)]
    refine wpAny_execs_cons (wpAny_Return_some (pos := pos2) (thn ((pe_var (X := X) (pos := pos3) hi (.inl hx) hdb hcb).run [] s2 _ H1 (fun v H2 => v = .ref f' ∧ H2 = H1) I1 ⟨.ref f', hv, rfl, rfl⟩) fun u s3 q3 => ?_))
    obtain ⟨v, H2, I2, r2, ev, eH⟩ := q3
    subst ev
    subst eH
    obtain rfl : u = Value.ref f' := r2
    exact ⟨f', c', _, I2, rfl, e1, e2, e3, e4, e5, e6⟩
  | ret v => obtain ⟨_, _, _, _, _, z⟩ := q; exact z.elim
  | brk => obtain ⟨_, _, _, z⟩ := q; exact z.elim
  | cont => obtain ⟨_, _, _, z⟩ := q; exact z.elim
section
variable {P : Program} {w : World} {K : PySem.W.Frag} {mg : Str → Option Value} {base : Heap} {CX : CXT}

/-- a def that makes a function of its parameters and hands it out -/
theorem maker {k : Nat} {f c P' : Addr} {name qual nm : Str} {params : Arguments} {body : List Stmt} {scope : Scope} {dV kV doc pm ct oc : Value} {an od : Option Addr} {pos pos2 pos3 : Pos}
    {osl : Array (Option Value)} {N ps fr : List Str} {sp : Sp} {T : List NTab} {nmf : Nat → Nat → Str} {i : Nat} {st : Stmt} {ix : List Nat} (lk : K.lookup f = some ⟨oc, od, .func (PySem.W.fnOf name qual params body scope dV kV doc pm an (.ref c) ct), osl⟩) (hcd : PySem.W.codeIn K (.ref c) qual = true) (S : FnScope N ps scope)
    (hst : st = .FunctionDef nm (C8.fnArgs st) (C8.fnBody st) [] none [] (C8.fnScope st) none nm pos)
    (hbody : body = [st, .Return (some (.Name nm pos3)) pos2])
    (TB : TabB base mg c P') (hm : (P', nmf) ∈ T) (hn : nmf pos.line pos.col = (qual ++ ".<locals>.") ++ nm) (hu : ∀ p ∈ T, p.1 = P' → p.2 = nmf) (hq : ∀ n g, (envOfC qual scope n g (.ref c)).qual = qual ++ ".<locals>.")
    (hfree : ∀ y ∈ (C8.fnScope st).names, y.2 = .free → scope.names.lookup y.1 = some .cell) (hfr : ∀ y ∈ fr, (y, NameKind.free) ∈ (C8.fnScope st).names) (hfr2 : ∀ y ∈ (C8.fnScope st).names, y.2 = .free → y.1 ∈ fr)
    (hd0 : (C8.fnArgs st).defaults = []) (hk0 : (C8.fnArgs st).kw_defaults = []) (ha : ∀ env, annTrees (C8.fnArgs st) none env = [])
    (hi : N[i]? = some nm) (hx : scope.names.lookup nm = some .local) (hip : ps.length ≤ i) (hdb : (nm == ("__debug__" : Str)) = false) (hcb : (nm == ("__classdict__" : Str)) = false)
    (hix : ix.map (fun j => ps[j]?) = fr.map some)
    (len : ∀ vs H Q E, sp vs H Q E → vs.length = ps.length)
    (hsp : ∀ vs H Q E, sp vs H Q E → TabsN T H ∧ ∀ (f' : Addr) (H' : Hp) (cl : List (Str × Addr)) (c' : Addr), ExtN H H' → (∀ b, H' b = Option.none → H b = Option.none) → TabsN T H' → H f' = none → Clo H' f' st nm ((qual ++ ".<locals>.") ++ nm) fr (ix.map fun j => vs.getD j .non) cl c' → Q (.ref f') H') :
    FnOk P w K mg base CX (k + 1) f (PySem.W.fnOf name qual params body scope dV kV doc pm an (.ref c) ct) ps sp := by
  refine ⟨len, fun A outer s H args us vs Q E hr e0 hb r hs => ?_⟩
  have hl := len _ _ _ _ hs
  have KX : K.In s.heap := e0.mod.kin.keeps fun b o e => (e0.bs b o e).1
  have lim : s.heap.NoLimit := e0.mod.nolimit.keeps fun b o e => (e0.bs b o e).1
  have hkind : ∀ y ∈ ps.zip us, scope.names.lookup y.1 = some .local ∨ (scope.names.lookup y.1 = some .cell ∧ ((cellsFrom (s.heap.objs.size + 1) scope.names []).lookup y.1).isSome = true) := fun ⟨n, v⟩ hy => by
    rcases S.par n (List.of_mem_zip hy).1 with q | q
    · exact .inl q
    · exact .inr ⟨q, PySem.W.cellsFrom_some _ _ _ (.inl q)⟩
  refine codeAny_call_function hr.depth (KX _ _ lk) rfl S.co S.gen rfl (PySem.W.codeRec_of KX hcd) (hb _ _ _ _ ?_)
  refine wpAny_newFunctionEnv_cells S.kind hkind fun env he s1 x => ?_
  subst he
  refine ⟨lim.keeps x.toInCall.keep, codeAny_func ?_⟩
  obtain ⟨hT, hend⟩ := hsp vs H Q E hs
  have I : Inv (cxOf CX P w K mg base N qual scope f (.ref c) A outer s H E) [] (L2.start N vs) H s1 := inv_start S hr.hd e0 hl r x
  have X0 : (cxOf CX P w K mg base N qual scope f (.ref c) A outer s H E).env.qual = qual ++ ".<locals>." := hq _ _
  have B := mk_body (X := cxOf CX P w K mg base N qual scope f (.ref c) A outer s H E) (pos2 := pos2) (pos3 := pos3) I hst TB rfl hm (by rw [X0]; exact hn) hu hfree hd0 hk0 (ha _) S.nd (.inl rfl) hi hx hdb hcb hT
  rw [← hbody] at B
  refine wpAny_mono B (fun fl s' hs => ?_) fun e s' hs => hs
  obtain ⟨f', c', H1, J, rfl, e1, e2, e3, e4, e5, e6⟩ := hs
  rw [X0] at e5 e6
  generalize hcl : cloFrom (cxOf CX P w K mg base N qual scope f (.ref c) A outer s H E).env.cells (C8.fnScope st).names [] = cl at e5
  have hcells : ∀ y ∈ (C8.fnScope st).names, y.2 = .free → ∃ a, (cxOf CX P w K mg base N qual scope f (.ref c) A outer s H E).env.cells.lookup y.1 = some a := fun y hy e => J.ok.has _ (.inl (hfree y hy e))
  have clm : ∀ y a, cl.lookup y = some a → (cxOf CX P w K mg base N qual scope f (.ref c) A outer s H E).env.cells.lookup y = some a := fun y a e => clo_cm hcells (by rw [hcl]; exact e)
  have clf : ∀ y a, (y, a) ∈ cl → y ∈ fr ∧ cl.lookup y = some a := fun y a m => by
    rw [← hcl] at m
    rcases cloFrom_mem m with z | ⟨z1, z2⟩
    · cases z
    · obtain ⟨a1, h1⟩ := hcells _ z1 rfl
      have h1 : (cxOf CX P w K mg base N qual scope f (.ref c) A outer s H E).env.cells.lookup y = some a1 := h1
      have h2 := clo_has hcells z1 h1
      rw [hcl] at h2
      have e : a = a1 := by rw [z2, h1]; rfl
      rw [e]
      exact ⟨hfr2 _ z1 rfl, h2⟩
  -- what each captured name holds
  have val : ∀ y ∈ fr, ∃ a v u, cl.lookup y = some a ∧ L2.RelV v u ∧ s'.heap.IsCell a (some u) ∧ ∀ m : Nat, fr[m]? = some y → (ix.map fun j => vs.getD j .non)[m]? = some v := by
    intro y hy
    obtain ⟨m, hm'⟩ := List.mem_iff_getElem?.mp hy
    have q : (ix.map fun j => ps[j]?)[m]? = some (some y) := by rw [hix, List.getElem?_map, hm']; rfl
    rw [List.getElem?_map] at q
    cases ej : ix[m]? with
    | none => rw [ej] at q; cases q
    | some j =>
      rw [ej] at q
      have hj : ps[j]? = some y := Option.some.inj q
      have hjl : j < ps.length := (List.getElem?_eq_some_iff.mp hj).1
      have hNj : N[j]? = some y := by
        rw [← hj, ← S.pre, List.getElem?_take_of_lt hjl]
      obtain ⟨v, hv⟩ : ∃ v, vs[j]? = some v := ⟨vs[j]'(by omega), by simp [show j < vs.length by omega]⟩
      have hs : ((L2.start N vs).set i (some (V.ref f')))[j]? = some (some v) := by
        rw [List.getElem?_set_ne (by omega)]
        unfold L2.start
        rw [List.getElem?_append_left (by rw [List.length_map]; omega), List.getElem?_map, hv] <;> rfl
      have kc : scope.names.lookup y = some .cell := hfree _ (hfr y hy) rfl
      obtain ⟨mm, hn2, hl2⟩ := J.loc
      obtain ⟨u, ru, lk2⟩ := hl2 j y v hNj hs (.inr (.inl kc))
      rcases lk2 with ⟨z, _⟩ | ⟨_, a, ha2, hcell⟩
      · have z' : scope.names.lookup y = some .local := z
        rw [kc] at z'; cases z'
      · have h2 := clo_has hcells (hfr y hy) ha2
        rw [hcl] at h2
        refine ⟨a, v, u, h2, ru, hcell, fun m' hm2 => ?_⟩
        -- any place of y
        have q2 : (ix.map fun j => ps[j]?)[m']? = some (some y) := by rw [hix, List.getElem?_map, hm2]; rfl
        rw [List.getElem?_map] at q2
        cases ej2 : ix[m']? with
        | none => rw [ej2] at q2; cases q2
        | some j2 =>
          rw [ej2] at q2
          have hj2 : ps[j2]? = some y := Option.some.inj q2
          have ndP : ps.Nodup := by rw [← S.pre]; exact S.nd.sublist (List.take_sublist _ _)
          have : j2 = j := L2.nodup_ix ndP hj2 hj
          subst this
          rw [List.getElem?_map, ej2]
          show some (vs.getD j2 .non) = some v
          rw [List.getD_eq_getElem?_getD, hv] <;> rfl
  let pick : Addr → HO := fun a => cellO a (match cl.find? (fun p => p.2 == a) with | some p => (match fr.findIdx? (fun z => z == p.1) with | some m => (ix.map fun j => vs.getD j .non).getD m .non | none => .non) | none => .non)
  have pick_of : ∀ y a, cl.lookup y = some a → ∀ v, (∀ m : Nat, fr[m]? = some y → (ix.map fun j => vs.getD j .non)[m]? = some v) → y ∈ fr → pick a = cellO a v := by
    intro y a hya v hv hy
    show cellO a _ = cellO a v
    have hmem : (y, a) ∈ cl := PySem.mem_of_lookup hya
    cases ef : cl.find? (fun p => p.2 == a) with
    | none =>
      have := List.find?_eq_none.mp ef (y, a) hmem
      simp at this
    | some p =>
      have hp1 := List.find?_some ef
      have hp2 := List.mem_of_find?_eq_some ef
      have e1 : p.2 = a := by simpa using hp1
      obtain ⟨hpf, hpl⟩ := clf p.1 p.2 hp2
      rw [e1] at hpl
      have ey : p.1 = y := J.ok.inj _ _ _ (clm _ _ hpl) (clm _ _ hya)
      show cellO a (match fr.findIdx? (fun z => z == p.1) with | some m => (ix.map fun j => vs.getD j .non).getD m .non | none => .non) = cellO a v
      rw [ey]
      cases ei : fr.findIdx? (fun z => z == y) with
      | none =>
        have := List.findIdx?_eq_none_iff.mp ei y hy
        simp at this
      | some m =>
        obtain ⟨hm1, hm2, _⟩ := List.findIdx?_eq_some_iff_getElem.mp ei
        have e2 : fr[m] = y := by simpa using hm2
        have := hv m (by rw [List.getElem?_eq_getElem hm1, e2])
        show cellO a ((ix.map fun j => vs.getD j .non).getD m .non) = cellO a v
        rw [List.getD_eq_getElem?_getD, this] <;> rfl
  have offc : ∀ a, a ∈ cl.map (·.2) → H1 a = none ∧ s.heap.objs.size ≤ a := fun a m => by
    obtain ⟨p, hp, rfl⟩ := List.mem_map.mp m
    obtain ⟨_, h2⟩ := clf p.1 p.2 hp
    exact ⟨J.freeC _ _ (clm _ _ h2), J.ok.cab _ _ rfl (clm _ _ h2)⟩
  have hok2 : HOk P w (track cl pick H1) s'.heap := track_ok J.hok fun a m _ => by
    obtain ⟨p, hp, rfl⟩ := List.mem_map.mp m
    obtain ⟨hy, h2⟩ := clf p.1 p.2 hp
    obtain ⟨a', v, u, h3, h4, h5, h6⟩ := val p.1 hy
    rw [h2] at h3
    cases h3
    rw [pick_of _ _ h2 v h6 hy]
    exact cellO_ok h4 h5
  have un2 : Un (frs outer) [] H (track cl pick H1) s.heap s'.heap := by
    have u := J.base
    refine ⟨u.keep, u.slot, fun b o q n hb => ?_, u.there, fun b xs q => track_some (u.tups b xs q), fun b o xs q => track_some (u.frzs b o xs q), fun b xs q => ?_⟩
    · rw [track_out fun m => absurd (Heap.lt_size q) (Nat.not_lt.mpr (offc b m).2)]
      exact u.free b o q n hb
    · obtain ⟨more, h2⟩ := u.tbls b xs q
      exact ⟨more, track_some h2⟩
  refine ⟨.ref f', track cl pick H1, J.os, J.bare, un2, hok2, rfl, hend f' _ cl c' (fun b o q n => track_some (e1 b o q n)) (fun b q => e2 b (track_none q).1) (e3.ext fun b o q => track_some q) e4 ?_⟩
  refine ⟨track_some e5, track_some e6, ?_, fun y a e => ?_, fun x y a h1 h2 => J.ok.inj _ _ _ (clm _ _ h1) (clm _ _ h2), fun m y e => ?_⟩
  · have := congrArg List.length hix
    rw [List.length_map, List.length_map] at this
    rw [List.length_map]; exact this
  · have m : a ∈ cl.map (·.2) := List.mem_map.mpr ⟨(y, a), e, rfl⟩
    exact ⟨_, track_cell (offc a m).1 m⟩
  · have hy := List.mem_of_getElem? e
    obtain ⟨a, v, u, h3, h4, h5, h6⟩ := val y hy
    have m' : a ∈ cl.map (·.2) := List.mem_map.mpr ⟨(y, a), PySem.mem_of_lookup h3, rfl⟩
    refine ⟨a, v, h3, h6 m e, ?_⟩
    rw [track_cell (offc a m').1 m', pick_of _ _ h3 v h6 hy]

/-! ### such a function called -/
def untrack (cl : List (Str × Addr)) (H : Hp) : Hp := fun b => if b ∈ cl.map (·.2) then none else H b
def retrack (cl : List (Str × Addr)) (H H' : Hp) : Hp := fun b => match H' b with
  | some o => some o
  | none => if b ∈ cl.map (·.2) then H b else none
theorem retrack_some {cl : List (Str × Addr)} {H H' : Hp} {b : Addr} {o : HO} (h : H' b = some o) : retrack cl H H' b = some o := by unfold retrack; rw [h]
theorem retrack_cell {cl : List (Str × Addr)} {H H' : Hp} {b : Addr} (h : H' b = none) (m : b ∈ cl.map (·.2)) : retrack cl H H' b = H b := by unfold retrack; rw [h]; exact if_pos m
theorem retrack_out {cl : List (Str × Addr)} {H H' : Hp} {b : Addr} (m : b ∉ cl.map (·.2)) : retrack cl H H' b = H' b := by
  unfold retrack
  cases h : H' b with
  | some o => rfl
  | none => exact if_neg m
theorem untrack_out {cl : List (Str × Addr)} {H : Hp} {b : Addr} (m : b ∉ cl.map (·.2)) : untrack cl H b = H b := if_neg m
theorem untrack_in {cl : List (Str × Addr)} {H : Hp} {b : Addr} (m : b ∈ cl.map (·.2)) : untrack cl H b = none := if_pos m
theorem untrack_some {cl : List (Str × Addr)} {H : Hp} {b : Addr} {o : HO} (h : untrack cl H b = some o) : b ∉ cl.map (·.2) ∧ H b = some o := by
  unfold untrack at h
  by_cases m : b ∈ cl.map (·.2)
  · rw [if_pos m] at h; cases h
  · rw [if_neg m] at h; exact ⟨m, h⟩
/-- no function, no cell -/
def Low : HO → Prop
  | .ext _ => False
  | _ => True
/-- what such a function promises; fin hands its end back to the caller's heap -/
structure COk (P : Program) (w : World) (K : PySem.W.Frag) (mg : Str → Option Value) (base : Heap) (CX : CXT) (k : Nat) (st : Stmt) (nm qual : Str) (ps fr : List Str) (sp : List V → Sp) : Prop where
  len : ∀ ws vs H Q E, sp ws vs H Q E → vs.length = ps.length
  run : ∀ (A : Around) (outer : List Env) (s : Shared) (H : Hp) (us : List Value) (vs : List V) (f : Addr) (cl : List (Str × Addr)) (c' : Addr) (ws : List V) (Q : VK) (E : XK), Room k A → Env0 P w K mg base A outer s H → Clo H f st nm qual fr ws cl c' → Vals vs us → sp ws vs H Q E →
    codeAny (model P w) A (.call (.ref f) ⟨us, []⟩) (CR CX0 outer P w H s Q E) s
theorem clo_mem {H : Hp} {f : Addr} {st : Stmt} {nm qual : Str} {fr : List Str} {ws : List V} {cl : List (Str × Addr)} {c' : Addr} (C : Clo H f st nm qual fr ws cl c') {b : Addr} (m : b ∈ cl.map (·.2)) : ∃ v, H b = some (cellO b v) := by
  obtain ⟨p, hp, rfl⟩ := List.mem_map.mp m
  exact C.cells p.1 p.2 hp
theorem cok_of {k : Nat} {st : Stmt} {nm qual : Str} {N ps fr : List Str} {sp : List V → Sp} (S : NScope N ps fr (C8.fnScope st))
    (hb : ∀ (cl : List (Str × Addr)) (c' : Addr) (doc pm ctv : Value) (us : List Value), us.length = ps.length → bindArgs ((NF.of st nm qual cl c').fd doc pm ctv) ⟨us, []⟩ = pure (ps.zip us)) (len : ∀ ws vs H Q E, sp ws vs H Q E → vs.length = ps.length)
    (hbody : ∀ (A : Around) (outer : List Env) (s : Shared) (f : Addr) (cl : List (Str × Addr)) (c' : Addr) (H H0 : Hp) (vs : List V) (ws : List V) (Q Q0 : VK) (E : XK), Room k (A.deeper (envF (NF.of st nm qual cl c') f s.heap.objs.size)) → sp ws vs H Q E → ws.length = fr.length →
      (∀ b o, H b = some o → Low o → H0 b = some o) → (∀ (v : V) (M : List Addr) (H2 : Hp), Stp M H0 H2 → (∀ H', Stp M H H' → (∀ b o, H2 b = some o → H' b = some o) → Q v H') → Q0 v H2) →
      ∃ t, PSs (ncx CX0 P w K mg base N (NF.of st nm qual cl c') f A outer s H0 E) (C8.fnBody st) t ∧ t { nx := fun _ H' => Q0 .non H', rt := Q0 } (startF N vs (ws.map some)) H0) :
    COk P w K mg base CX (k + 1) st nm qual ps fr sp := by
  refine ⟨len, fun A outer s H us vs f cl c' ws Q E hr e0 C r hsp => ?_⟩
  have cellN : ∀ b, b ∈ cl.map (·.2) → ∃ v, H b = some (cellO b v) := fun b m => clo_mem C m
  have lo : ∀ b o, H b = some o → (∀ v, o ≠ cellO b v) → untrack cl H b = some o := fun b o e n => by
    rw [untrack_out fun m => ?_]
    · exact e
    · obtain ⟨v, hv⟩ := cellN b m
      rw [e] at hv
      exact n v (Option.some.inj hv)
  have nf : untrack cl H f = some (FnO f (NF.of st nm qual cl c')) := by
    have ho := fnO_at e0.hok C.fn
    rw [untrack_out fun m => ?_]
    · exact C.fn
    · obtain ⟨v, hv⟩ := cellN f m
      obtain ⟨u, _, o, h1, h2⟩ := cellO_at e0.hok hv
      obtain ⟨od, sl, doc, pm, ctv, h3⟩ := ho
      rw [h1] at h3
      cases h3
      cases h2
  have nc : untrack cl H c' = some (CodeO c' qual) := by
    have ho := codeO_at e0.hok C.code
    rw [untrack_out fun m => ?_]
    · exact C.code
    · obtain ⟨v, hv⟩ := cellN c' m
      obtain ⟨u, _, o, h1, h2⟩ := cellO_at e0.hok hv
      obtain ⟨c2, oc, vs2, t, e1, h3, h4, _⟩ := ho
      cases e1
      rw [h1] at h3
      cases h3
      rw [h2] at h4
      cases h4
  have hok0 : HOk P w (untrack cl H) s.heap := fun b o e => by
    obtain ⟨m, e⟩ := untrack_some e
    refine (e0.hok b o e).stay (fun _ _ _ z => z) (fun d z => lo d _ z fun v q => ?_) fun d xs z => lo d _ z fun v q => ?_
    · cases q
    · cases q
  have env0 : Env0 P w K mg base A outer s (untrack cl H) := ⟨e0.frames, e0.mod, fun b o e => ⟨(e0.bs b o e).1, by
      unfold untrack
      split
      · rfl
      · exact (e0.bs b o e).2⟩, e0.bsz, e0.funs, fun b hb => by
      unfold untrack
      split
      · rfl
      · exact e0.frf b hb, hok0, e0.bare⟩
  have cells : CellsAt cl fr (ws.map some) s.heap (untrack cl H) := by
    refine ⟨by rw [List.length_map]; exact C.len, fun y a e => ?_, C.inj, fun i y e => ?_⟩
    · have m : a ∈ cl.map (·.2) := List.mem_map.mpr ⟨(y, a), PySem.mem_of_lookup e, rfl⟩
      obtain ⟨v, hv⟩ := cellN a m
      obtain ⟨u, _, z⟩ := cellO_at e0.hok hv
      exact ⟨untrack_in m, _, z⟩
    · obtain ⟨a, v, h1, h2, h3⟩ := C.has i y e
      refine ⟨a, h1, fun v' e' => ?_⟩
      rw [List.getElem?_map, h2] at e'
      cases e'
      exact cellO_at e0.hok h3
  let Q0 : VK := fun v H2 => (∀ b ∈ cl.map (·.2), H2 b = none) → Q v (retrack cl H H2)
  have nok : NOk P w K mg base CX0 (k + 1) f (NF.of st nm qual cl c') ps fr (fun ws' vs' H' Q' E' => ws' = ws.map some ∧ vs' = vs ∧ H' = untrack cl H ∧ Q' = Q0 ∧ E' = E) := by
    refine nok_of S (hb cl c') (fun _ _ _ _ _ h => by obtain ⟨_, rfl, _⟩ := h; exact len _ _ _ _ _ hsp) fun A1 outer1 s1 H1 vs1 ws1 Q1 E1 hr1 hf hc hl h => ?_
    obtain ⟨rfl, rfl, rfl, rfl, rfl⟩ := h
    refine hbody A1 outer1 s1 f cl c' H _ vs1 ws Q Q0 E1 hr1 hsp C.len (fun b o e n => lo b o e fun v q => ?_) fun v M H2 st2 hq hc2 => ?_
    · subst q; exact n
    · refine hq _ ⟨fun b o e n => ?_, fun b e => ?_⟩ fun b o e => retrack_some e
      · by_cases m : b ∈ cl.map (·.2)
        · rw [retrack_cell (hc2 b m) m]; exact e
        · exact retrack_some (st2.same b o (by rw [untrack_out m]; exact e) n)
      · by_cases m : b ∈ cl.map (·.2)
        · rw [retrack_cell (hc2 b m) m] at e; exact e
        · rw [retrack_out m] at e
          have := st2.dom b e
          rw [untrack_out m] at this
          exact this
  refine codeAny_mono (nok.run A outer s _ us vs _ Q0 E hr env0 nf nc cells r ⟨rfl, rfl, rfl, rfl, rfl⟩) fun rr s' hq => ?_
  cases rr with
  | error e => exact hq
  | ok fl =>
    cases fl with
    | next => exact hq
    | brk => exact hq
    | cont => exact hq
    | ret u =>
      obtain ⟨v, H2, os, bare, un, hok2, rv, q⟩ := hq
      have cellAt : ∀ b, b ∈ cl.map (·.2) → ∃ v u o, H b = some (cellO b v) ∧ L2.RelV v u ∧ s.heap.get? b = some o ∧ o.data = .cell (some u) ∧ untrack cl H b = none := fun b m => by
        obtain ⟨v, hv⟩ := cellN b m
        obtain ⟨u, h1, o, h2, h3⟩ := cellO_at e0.hok hv
        exact ⟨v, u, o, hv, h1, h2, h3, untrack_in m⟩
      have free2 : ∀ b ∈ cl.map (·.2), H2 b = none := fun b m => by
        obtain ⟨v, u, o, h1, h2, h3, h4, h5⟩ := cellAt b m
        exact un.free b o h3 h5 (by simp)
      refine ⟨v, retrack cl H H2, os, bare, ?_, ?_, rv, q free2⟩
      · have un0 : ∀ b, H b = none → untrack cl H b = none := fun b e => by
          unfold untrack
          split
          · rfl
          · exact e
        refine ⟨fun b o e n hb hx => un.keep b o e (un0 b n) hb hx, fun b o e n hb hx => un.slot b o e (un0 b n) hb hx, fun b o e n hx => ?_, un.there, fun b xs e => ?_, fun b o xs e => ?_, fun b xs e => ?_⟩
        · have m : b ∉ cl.map (·.2) := fun m => by
            obtain ⟨v, hv⟩ := cellN b m
            rw [n] at hv; cases hv
          rw [retrack_out m]
          exact un.free b o e (un0 b n) hx
        · exact retrack_some (un.tups b xs (lo b _ e fun v q => by cases q))
        · exact retrack_some (un.frzs b o xs (lo b _ e fun v q => by cases q))
        · obtain ⟨more, h2⟩ := un.tbls b xs (lo b _ e fun v q => by cases q)
          exact ⟨more, retrack_some h2⟩
      · intro b o e
        cases q2 : H2 b with
        | some u2 =>
          rw [retrack_some q2] at e
          cases e
          exact (hok2 b o q2).stay (fun _ _ _ z => z) (fun d z => retrack_some z) fun d xs z => retrack_some z
        | none =>
          by_cases m : b ∈ cl.map (·.2)
          · rw [retrack_cell q2 m] at e
            obtain ⟨v, u, o1, h1, h2, h3, h4, h5⟩ := cellAt b m
            rw [h1] at e
            cases e
            obtain ⟨sl, h6⟩ := un.any h3 h5 (by simp)
            exact cellO_ok h2 ⟨_, h6, h4⟩
          · rw [retrack_out m, q2] at e; cases e

/-- functions that a name may hold, by what they promise -/
structure TelOk (P : Program) (w : World) (K : PySem.W.Frag) (mg : Str → Option Value) (base : Heap) (k : Nat) (at_ : Addr → Hp → Prop) (sp : Addr → Sp) : Prop where
  fn : ∀ (H : Hp) (h : Heap) (f : Addr), HOk P w H h → at_ f H → PySem.W.FnAt f h
  ok : ∀ f vs H Q E, sp f vs H Q E → at_ f H
  run : ∀ (A : Around) (outer : List Env) (s : Shared) (H : Hp) (us : List Value) (vs : List V) (f : Addr) (Q : VK) (E : XK), Room k A → Env0 P w K mg base A outer s H → Vals vs us → sp f vs H Q E →
    codeAny (model P w) A (.call (.ref f) ⟨us, []⟩) (CR CX0 outer P w H s Q E) s
theorem COk.tel {k : Nat} {st : Stmt} {nm qual : Str} {ps fr : List Str} {sp : List V → Sp} (c : COk P w K mg base CX k st nm qual ps fr sp) :
    TelOk P w K mg base k (fun f H => ∃ ws cl c', Clo H f st nm qual fr ws cl c') (fun f vs H Q E => ∃ ws cl c', Clo H f st nm qual fr ws cl c' ∧ sp ws vs H Q E) := by
  refine ⟨fun H h f hok ⟨ws, cl, c', C⟩ => ?_, fun f vs H Q E ⟨ws, cl, c', C, _⟩ => ⟨ws, cl, c', C⟩, fun A outer s H us vs f Q E hr e0 r ⟨ws, cl, c', C, q⟩ => c.run A outer s H us vs f cl c' ws Q E hr e0 C r q⟩
  obtain ⟨od, sl, doc, pm, ctv, ho⟩ := fnO_at hok C.fn
  exact ⟨_, od, _, sl, ho⟩
theorem TelOk.or {k : Nat} {a1 a2 : Addr → Hp → Prop} {s1 s2 : Addr → Sp} (t1 : TelOk P w K mg base k a1 s1) (t2 : TelOk P w K mg base k a2 s2) :
    TelOk P w K mg base k (fun f H => a1 f H ∨ a2 f H) (fun f vs H Q E => s1 f vs H Q E ∨ s2 f vs H Q E) :=
  ⟨fun H h f hok a => a.elim (t1.fn H h f hok) (t2.fn H h f hok), fun f vs H Q E q => q.imp (t1.ok f vs H Q E) (t2.ok f vs H Q E), fun A outer s H us vs f Q E hr e0 r q => q.elim (t1.run A outer s H us vs f Q E hr e0 r) (t2.run A outer s H us vs f Q E hr e0 r)⟩
end
/-- f(..), f a local name -/
def tTel (i : Nat) (at_ : Addr → Hp → Prop) (sp : Addr → Sp) (t : TA) : TE := fun σ H Q => ∃ f, σ[i]? = some (some (.ref f)) ∧ at_ f H ∧ t σ H fun vs H1 => sp f vs H1 Q (fun _ _ _ => False)
section
variable {X : Cx} {k j i : Nat} {at_ : Addr → Hp → Prop} {sp : Addr → Sp} {t : TA} {x : Str} {e : Expr} {es : List Expr} {p pos : Pos}
theorem pe_callTel (c : TelOk X.prog X.w X.K X.mg X.base j at_ sp) (hr : Room k X.A) (hN : X.N[i]? = some x) (hv : Vis X.env.scope x) (ha : PA X (e :: es) t) (hk : j ≤ k := by decide)
    (hd : (x == ("__debug__" : Str)) = false := by decide) (hcd : (x == ("__classdict__" : Str)) = false := by decide)
    (he : starEach (e :: es) X.env = (false, eval e X.env) :: starEach es X.env := by rfl) (hpl : (backTo pos (starEach es X.env)).any (·.1) = false := by rfl) :
    PE X (.Call (.Name x p) (e :: es) [] pos) (tTel i at_ sp t) := by
  refine ⟨fun pins s σ H Q I h => ?_⟩
  obtain ⟨f, hs, hf, ht⟩ := h
  refine wpAny_Call_Name_kw (thn ((pe_var (pos := p) hN hv hd hcd).run pins s σ H (fun v H1 => v = .ref f ∧ H1 = H) I ⟨.ref f, hs, rfl, rfl⟩) fun u s1 ⟨v, H1, I1, r1, q1⟩ => ?_)
  obtain ⟨ev, eH⟩ := q1
  subst ev
  subst eH
  obtain rfl : u = Value.ref f := r1
  refine PySem.W.callWith_F (first := []) (c.fn H1 s1.heap f I1.hok hf) (thn (ha.run pos pins s1 σ H1 _ I1 ht) fun us s2 ⟨vs, H2, I2, r, q⟩ => ⟨c.fn H2 s2.heap f I2.hok (c.ok f vs H2 _ _ q), ?_⟩) he hpl
  show wpAny _ _ (call (.ref f) us) _ _ _
  refine wpAny_call (codeAny_mono (c.run X.A X.stack s2 H2 us vs f Q _ (hr.mono hk) I2.env0 r q) fun r s' hq => ?_)
  cases r with
  | error e => exact hq.elim
  | ok fl =>
    cases fl with
    | ret u => exact I2.after hq
    | next => exact False.elim hq
    | brk => exact False.elim hq
    | cont => exact False.elim hq
theorem r_tel {σ : L2.St} {H : Hp} {Q : VK} {f : Addr} (hs : σ[i]? = some (some (.ref f))) (h : at_ f H) (k : t σ H fun vs H1 => sp f vs H1 Q (fun _ _ _ => False)) : tTel i at_ sp t σ H Q := ⟨f, hs, h, k⟩
end
end SH

set_option Elab.async false
set_option linter.all false
set_option maxRecDepth 100000
set_option maxHeartbeats 4000000
/-! SHE: data, and what == tells of it -/
namespace SH
open PySem PySem.Spec PyProof.Rows L2

/-- Lean values that stand in the heap as data; n: how deep -/
class Enc (α : Type) where
  dec : DecidableEq α
  d : α → PyData
  n : Nat
  lay : ∀ x, (d x).canLay0 = true
  deep : ∀ x, (d x).depth ≤ n
  eqv : ∀ x y, PyData.eqv (d x) (d y) = @decide (x = y) (dec x y)
/-- a tuple of one kind of things -/
structure Tu (α : Type) where
  l : List α
theorem Enc.deepAll {α : Type} [Enc α] : ∀ xs : List α, PyData.depthAll (xs.map Enc.d) ≤ Enc.n α
  | [] => by simp [PyData.depthAll]
  | x :: xs => by
    have h1 := Enc.deep x
    have h2 := Enc.deepAll xs
    simp only [List.map_cons, PyData.depthAll]
    omega
theorem Enc.layAll {α : Type} [Enc α] : ∀ xs : List α, PyData.canLayAll0 (xs.map Enc.d) = true
  | [] => by simp [PyData.canLayAll0]
  | x :: xs => by simp only [List.map_cons, PyData.canLayAll0, Enc.lay x, Enc.layAll xs, Bool.and_self]
theorem Enc.eqvAll {α : Type} [Enc α] : ∀ xs ys : List α, PyData.eqvAll (xs.map Enc.d) (ys.map Enc.d) = @decide (xs = ys) (@instDecidableEqList α Enc.dec xs ys)
  | [], [] => by simp [PyData.eqvAll]
  | x :: xs, [] => by simp [PyData.eqvAll]
  | [], y :: ys => by simp [PyData.eqvAll]
  | x :: xs, y :: ys => by
    rw [List.map_cons, List.map_cons, show PyData.eqvAll (Enc.d x :: xs.map Enc.d) (Enc.d y :: ys.map Enc.d) = (PyData.eqv (Enc.d x) (Enc.d y) && PyData.eqvAll (xs.map Enc.d) (ys.map Enc.d)) by simp only [PyData.eqvAll], Enc.eqv, Enc.eqvAll xs ys]
    have : ∀ (A B C : Prop) (a : Decidable A) (b : Decidable B) (c : Decidable C), (C ↔ A ∧ B) → (@decide A a && @decide B b) = @decide C c := by
      intro A B C a b c h
      by_cases ha : A <;> by_cases hb : B <;> simp [ha, hb, h]
    exact this _ _ _ _ _ _ (by simp)
instance : Enc Int := ⟨inferInstance, .int, 0, fun _ => by simp [PyData.canLay0], fun _ => by simp [PyData.depth], fun x y => by by_cases h : x = y <;> simp [PyData.eqv, h]⟩
instance : Enc Bool := ⟨inferInstance, .bool, 0, fun _ => by simp [PyData.canLay0], fun _ => by simp [PyData.depth], fun x y => by by_cases h : x = y <;> simp [PyData.eqv, h]⟩
instance : Enc Nat := ⟨inferInstance, fun n => .int n, 0, fun _ => by simp [PyData.canLay0], fun _ => by simp [PyData.depth], fun x y => by
  rw [show PyData.eqv (.int (x : Int)) (.int (y : Int)) = ((x : Int) == (y : Int)) by simp only [PyData.eqv]]
  by_cases h : x = y
  · subst h; simp
  · rw [decide_eq_false h]
    exact beq_eq_false_iff_ne.mpr (by omega)⟩
instance {α : Type} [e : Enc α] : Enc (List α) := ⟨@instDecidableEqList α e.dec, fun xs => .list (xs.map Enc.d), Enc.n α + 1, fun xs => by simp only [PyData.canLay0]; exact Enc.layAll xs,
  fun xs => by simp only [PyData.depth]; exact Nat.succ_le_succ (Enc.deepAll xs), fun xs ys => by simp only [PyData.eqv]; exact Enc.eqvAll xs ys⟩
instance {α : Type} [e : Enc α] : Enc (Tu α) := ⟨fun a b => @decidable_of_iff _ (a.l = b.l) (by cases a; cases b; simp) (@instDecidableEqList α e.dec a.l b.l), fun xs => .tuple (xs.l.map Enc.d), Enc.n α + 1, fun xs => by simp only [PyData.canLay0]; exact Enc.layAll xs.l,
  fun xs => by simp only [PyData.depth]; exact Nat.succ_le_succ (Enc.deepAll xs.l), fun xs ys => by
    simp only [PyData.eqv]
    rw [Enc.eqvAll xs.l ys.l]
    cases xs; cases ys
    simp⟩
instance {α β : Type} [e : Enc α] [f : Enc β] : Enc (α × β) := ⟨@instDecidableEqProd α β e.dec f.dec, fun x => .tuple [Enc.d x.1, Enc.d x.2], max (Enc.n α) (Enc.n β) + 1,
  fun x => by simp only [PyData.canLay0, PyData.canLayAll0, Enc.lay]; rfl,
  fun x => by
    have h1 := Enc.deep x.1
    have h2 := Enc.deep x.2
    simp only [PyData.depth, PyData.depthAll]; omega, fun x y => by
    simp only [PyData.eqv, PyData.eqvAll, Enc.eqv, Bool.and_true]
    obtain ⟨a, b⟩ := x
    obtain ⟨c, d⟩ := y
    by_cases ha : a = c <;> by_cases hb : b = d <;> simp [ha, hb]⟩
/-- three in a tuple -/
structure T3 (α β γ : Type) where
  a : α
  b : β
  c : γ
deriving DecidableEq
instance {α β γ : Type} [e : Enc α] [f : Enc β] [g : Enc γ] : Enc (T3 α β γ) := ⟨@instDecidableEqT3 α β γ e.dec f.dec g.dec, fun x => .tuple [Enc.d x.a, Enc.d x.b, Enc.d x.c], max (Enc.n α) (max (Enc.n β) (Enc.n γ)) + 1,
  fun x => by simp only [PyData.canLay0, PyData.canLayAll0, Enc.lay]; rfl,
  fun x => by
    have h1 := Enc.deep x.a
    have h2 := Enc.deep x.b
    have h3 := Enc.deep x.c
    simp only [PyData.depth, PyData.depthAll]; omega, fun x y => by
    simp only [PyData.eqv, PyData.eqvAll, Enc.eqv, Bool.and_true]
    obtain ⟨a, b, c⟩ := x
    obtain ⟨a', b', c'⟩ := y
    by_cases ha : a = a' <;> by_cases hb : b = b' <;> by_cases hc : c = c' <;> simp [ha, hb, hc]⟩

/-- a text of plain signs -/
abbrev SOk := { s : Str // PyData.canLay0 (.str s) = true }
instance : Enc SOk := ⟨inferInstance, fun s => .str s.1, 0, fun s => s.2, fun _ => by simp [PyData.depth], fun x y => by
  rw [show PyData.eqv (.str x.1) (.str y.1) = (x.1 == y.1) by simp only [PyData.eqv]]
  by_cases h : x = y
  · subst h; simp
  · rw [decide_eq_false h]
    exact beq_eq_false_iff_ne.mpr fun z => h (Subtype.ext z)⟩

mutual
theorem dp_stp {K : PySem.W.Frag} {H H' : Hp} (S : Stp [] H H') : ∀ (d : PyData) (v : V), Dp K H v d → Dp K H' v d
  | .none, _, h => by cases h; exact .non
  | .bool _, _, h => by cases h; exact .bl _
  | .int _, _, h => by cases h; exact .int _
  | .str _, _, h => by cases h; exact .str _
  | .list ds, _, h => by
    cases h with
    | lst hs ha => exact .lst (S.sql0 hs) (dp_stpAll S ds _ ha)
  | .tuple ds, _, h => by
    cases h with
    | tup hs ha => exact .tup (S.sqt0 hs) (dp_stpAll S ds _ ha)
  | .dict _, _, h => by cases h
theorem dp_stpAll {K : PySem.W.Frag} {H H' : Hp} (S : Stp [] H H') : ∀ (ds : List PyData) (vs : List V), DpAll K H vs ds → DpAll K H' vs ds
  | [], _, h => by cases h; exact .nil
  | d :: ds, _, h => by
    cases h with
    | cons h1 h2 => exact .cons (dp_stp S d _ h1) (dp_stpAll S ds _ h2)
end

mutual
/-- no list in it -/
def noL : PyData → Bool
  | .none | .bool _ | .int _ | .str _ => true
  | .tuple xs => noLs xs
  | .list _ => false
  | .dict _ => false
def noLs : List PyData → Bool
  | [] => true
  | x :: xs => noL x && noLs xs
end
mutual
theorem dp_stpM {K : PySem.W.Frag} {M : List Addr} {H H' : Hp} (S : Stp M H H') : ∀ (d : PyData) (v : V), noL d = true → Dp K H v d → Dp K H' v d
  | .none, _, _, h => by cases h; exact .non
  | .bool _, _, _, h => by cases h; exact .bl _
  | .int _, _, _, h => by cases h; exact .int _
  | .str _, _, _, h => by cases h; exact .str _
  | .list _, _, n, _ => by simp [noL] at n
  | .tuple ds, _, n, h => by
    cases h with
    | tup hs ha => exact .tup (S.sqtM hs) (dp_stpMs S ds _ (by simpa [noL] using n) ha)
  | .dict _, _, _, h => by cases h
theorem dp_stpMs {K : PySem.W.Frag} {M : List Addr} {H H' : Hp} (S : Stp M H H') : ∀ (ds : List PyData) (vs : List V), noLs ds = true → DpAll K H vs ds → DpAll K H' vs ds
  | [], _, _, h => by cases h; exact .nil
  | d :: ds, _, n, h => by
    have n' : noL d = true ∧ noLs ds = true := by simpa [noLs] using n
    cases h with
    | cons h1 h2 => exact .cons (dp_stpM S d _ n'.1 h1) (dp_stpMs S ds _ n'.2 h2)
end
class Flat (α : Type) [Enc α] : Prop where
  fl : ∀ x : α, noL (Enc.d x) = true
instance : Flat Int := ⟨fun _ => by simp [Enc.d, noL]⟩
instance : Flat Nat := ⟨fun _ => by simp [Enc.d, noL]⟩
instance : Flat Bool := ⟨fun _ => by simp [Enc.d, noL]⟩
instance : Flat SOk := ⟨fun _ => by simp [Enc.d, noL]⟩
instance {α β : Type} [Enc α] [Enc β] [Flat α] [Flat β] : Flat (α × β) := ⟨fun x => by simp only [Enc.d, noL, noLs, Flat.fl]; rfl⟩
instance {α β γ : Type} [Enc α] [Enc β] [Enc γ] [Flat α] [Flat β] [Flat γ] : Flat (T3 α β γ) := ⟨fun x => by simp only [Enc.d, noL, noLs, Flat.fl]; rfl⟩
theorem noLs_map {α : Type} [Enc α] [Flat α] : ∀ xs : List α, noLs (xs.map Enc.d) = true
  | [] => by simp [noLs]
  | x :: xs => by simp only [List.map_cons, noLs, Flat.fl, noLs_map xs, Bool.and_self]
instance {α : Type} [Enc α] [Flat α] : Flat (Tu α) := ⟨fun x => by simp only [Enc.d, noL]; exact noLs_map x.l⟩

/-- v is x, in the heap H -/
def Is {α : Type} [Enc α] (K : PySem.W.Frag) (H : Hp) (v : V) (x : α) : Prop := Dp K H v (Enc.d x)
def IsL {α : Type} [Enc α] (K : PySem.W.Frag) (H : Hp) (vs : List V) (xs : List α) : Prop := DpAll K H vs (xs.map Enc.d)
section
variable {K : PySem.W.Frag} {H H' : Hp} {α β γ : Type} [Enc α] [Enc β] [Enc γ] {p : Addr} {vs : List V} {xs : List α} {v u t : V} {x y : α} {b : β} {c : γ} {Q : VK}
theorem is_int {n : Int} : Is K H (.int n) n := .int n
theorem is_nat {n : Nat} : Is K H (.int n) n := .int n
theorem is_str {s : Str} (h : PyData.canLay0 (.str s) = true) : Is K H (.str s) (⟨s, h⟩ : SOk) := .str s
theorem is_stp (S : Stp [] H H') (h : Is K H v x) : Is K H' v x := dp_stp S _ _ h
theorem isl_stp (S : Stp [] H H') (h : IsL K H vs xs) : IsL K H' vs xs := dp_stpAll S _ _ h
theorem is_stpM [Flat α] {M : List Addr} (S : Stp M H H') (h : Is K H v x) : Is K H' v x := dp_stpM S _ _ (Flat.fl x) h
theorem isl_stpM [Flat α] {M : List Addr} (S : Stp M H H') (h : IsL K H vs xs) : IsL K H' vs xs := dp_stpMs S _ _ (noLs_map xs) h
theorem is_bl {b : Bool} : Is K H (.bl b) b := .bl b
theorem is_lst (h : SqL K H p vs) (k : IsL K H vs xs) : Is K H (.ref p) xs := .lst h k
theorem is_tu (h : SqT K H p vs) (k : IsL K H vs xs) : Is K H (.ref p) (Tu.mk xs) := .tup h k
theorem is_pr (h : SqT K H p [v, u]) (k : Is K H v x) (l : Is K H u b) : Is K H (.ref p) (x, b) := .tup h (.cons k (.cons l .nil))
theorem is_t3 (h : SqT K H p [v, u, t]) (k : Is K H v x) (l : Is K H u b) (m : Is K H t c) : Is K H (.ref p) (T3.mk x b c) := .tup h (.cons k (.cons l (.cons m .nil)))
theorem isl_nil : IsL K H [] ([] : List α) := .nil
theorem isl_cons (h : Is K H v x) (k : IsL K H vs xs) : IsL K H (v :: vs) (x :: xs) := .cons h k
theorem isl_map {f : α → V} (h : ∀ x ∈ xs, Is K H (f x) x) : IsL K H (xs.map f) xs := by
  induction xs with
  | nil => exact .nil
  | cons x xs ih => exact .cons (h x (by simp)) (ih fun y hy => h y (by simp [hy]))
theorem isl_map2 {β : Type} {l : List β} {f : β → V} {g : β → α} (h : ∀ b ∈ l, Is K H (f b) (g b)) : IsL K H (l.map f) (l.map g) := by
  induction l with
  | nil => exact .nil
  | cons x xs ih => exact .cons (h x (by simp)) (ih fun y hy => h y (by simp [hy]))
theorem isl_ints {ns : List Int} : IsL K H (ns.map V.int) ns := isl_map fun _ _ => is_int
theorem isl_nats {ns : List Nat} : IsL K H (ns.map fun n : Nat => V.int n) ns := isl_map fun _ _ => is_nat
theorem isl_bls {ns : List Bool} : IsL K H (ns.map V.bl) ns := isl_map fun _ _ => is_bl
theorem isl_app {vs' : List V} {xs' : List α} (h : IsL K H vs xs) (k : IsL K H vs' xs') : IsL K H (vs ++ vs') (xs ++ xs') := by
  induction vs generalizing xs with
  | nil => cases xs with
    | nil => exact k
    | cons x xs => cases h
  | cons v vs ih => cases xs with
    | nil => cases h
    | cons x xs => cases h with | cons h1 h2 => exact .cons h1 (ih (xs := xs) h2)
theorem isl_len (h : IsL K H vs xs) : vs.length = xs.length := by
  induction vs generalizing xs with
  | nil => cases xs with
    | nil => rfl
    | cons x xs => cases h
  | cons v vs ih => cases xs with
    | nil => cases h
    | cons x xs => cases h with | cons h1 h2 => simp [ih (xs := xs) h2]
theorem isl_at {i : Nat} {v : V} (h : IsL K H vs xs) (e : vs[i]? = some v) : ∃ x, xs[i]? = some x ∧ Is K H v x := by
  induction vs generalizing xs i with
  | nil => cases e
  | cons w vs ih => cases xs with
    | nil => cases h
    | cons x xs => cases h with | cons h1 h2 => cases i with
      | zero => cases e; exact ⟨x, rfl, h1⟩
      | succ i => exact ih (xs := xs) h2 e
theorem isl_get {i : Nat} {x : α} (h : IsL K H vs xs) (e : xs[i]? = some x) : ∃ v, vs[i]? = some v ∧ Is K H v x := by
  induction vs generalizing xs i with
  | nil => cases xs with
    | nil => cases e
    | cons x xs => cases h
  | cons w vs ih => cases xs with
    | nil => cases h
    | cons y xs => cases h with | cons h1 h2 => cases i with
      | zero => cases e; exact ⟨w, rfl, h1⟩
      | succ i => exact ih (xs := xs) h2 e
theorem is_shaped (hn : Enc.n α ≤ 64) : SeqAt.shaped (Enc.d x) = true := by
  unfold SeqAt.shaped
  rw [Enc.lay]
  exact decide_eq_true (Nat.le_trans (Enc.deep x) hn)
theorem v_eqE (h1 : Is K H v x) (h2 : Is K H u y) (k : Q (.bl (@decide (x = y) (Enc.dec x y))) H) (hn : Enc.n α ≤ 64 := by decide) : aEq K v u H Q :=
  v_eqD h1 h2 (is_shaped hn) (is_shaped hn) (by rw [Enc.eqv]; exact k)
theorem v_neE (h1 : Is K H v x) (h2 : Is K H u y) (k : Q (.bl (!@decide (x = y) (Enc.dec x y))) H) (hn : Enc.n α ≤ 64 := by decide) : aNe K v u H Q :=
  v_neD h1 h2 (is_shaped hn) (is_shaped hn) (by rw [Enc.eqv]; exact k)
theorem v_eqL {ns ms : List Int} {q : Addr} (h1 : SqL K H p (ns.map V.int)) (h2 : SqL K H q (ms.map V.int)) (k : Q (.bl (decide (ns = ms))) H) : aEq K (.ref p) (.ref q) H Q :=
  v_eqE (is_lst h1 isl_ints) (is_lst h2 isl_ints) (by rw [show @decide (ns = ms) (Enc.dec ns ms) = decide (ns = ms) by congr]; exact k)
theorem v_neL {ns ms : List Int} {q : Addr} (h1 : SqL K H p (ns.map V.int)) (h2 : SqL K H q (ms.map V.int)) (k : Q (.bl (!decide (ns = ms))) H) : aNe K (.ref p) (.ref q) H Q :=
  v_neE (is_lst h1 isl_ints) (is_lst h2 isl_ints) (by rw [show @decide (ns = ms) (Enc.dec ns ms) = decide (ns = ms) by congr]; exact k)
theorem v_neL0 {ns : List Int} {q : Addr} (h1 : SqL K H p (ns.map V.int)) (h2 : SqL K H q []) (k : Q (.bl (!decide (ns = []))) H) : aNe K (.ref p) (.ref q) H Q := v_neL (ms := []) h1 h2 k
theorem v_ixLast {ys : List V} (h : SqL K H p (ys ++ [v])) (k : Q v H) : aIx K (.ref p) (.int (-1)) H Q := ⟨_, v, .inl h, atI_last ys v, k⟩
theorem v_neN0 {ns : List Nat} {q : Addr} (h1 : SqL K H p (ns.map fun n : Nat => V.int n)) (h2 : SqL K H q []) (k : Q (.bl (!decide (ns = []))) H) : aNe K (.ref p) (.ref q) H Q :=
  v_neE (y := []) (is_lst h1 isl_nats) (is_lst h2 isl_nil) (by rw [show @decide (ns = []) (Enc.dec ns []) = decide (ns = []) by congr]; exact k)
theorem v_ixMod {vs : List V} {c : Int} {m : Nat} (h : SqL K H p vs) (hl : vs.length = m) (hm : 0 < m) (k : ∀ v ∈ vs, Q v H) : aIx K (.ref p) (.int (c % (m : Int))) H Q := by
  have h0 := Int.emod_nonneg c (show (m : Int) ≠ 0 by omega)
  have h1 := Int.emod_lt_of_pos c (show (0 : Int) < m by omega)
  have e : c % (m : Int) = ((c % (m : Int)).toNat : Int) := by omega
  have hlt : (c % (m : Int)).toNat < vs.length := by omega
  exact v_ixLn h e (List.getElem?_eq_getElem hlt) (k _ (List.getElem_mem hlt))
theorem v_ixAny {vs : List V} {i : Int} {n : Nat} (h : SqL K H p vs) (e : i = n) (hn : n < vs.length) (k : ∀ v ∈ vs, Q v H) : aIx K (.ref p) (.int i) H Q := v_ixLn h e (List.getElem?_eq_getElem hn) (k _ (List.getElem_mem hn))
/-- all are ints -/
def Ints (vs : List V) : Prop := ∀ v ∈ vs, ∃ n : Int, v = .int n
theorem ints_nil : Ints [] := fun _ h => by cases h
theorem ints_cons {n : Int} {vs : List V} (h : Ints vs) : Ints (.int n :: vs) := fun v hv => by
  rcases List.mem_cons.mp hv with rfl | hv
  · exact ⟨n, rfl⟩
  · exact h v hv
/-- a place of a list of ints -/
def getE (es : List Int) (i : Nat) : Int := es.getD i 0
theorem getE_at {es : List Int} {i : Nat} (h : i < es.length) : (es.map V.int)[i]? = some (V.int (getE es i)) := by simp [getE, h]
theorem getE_app {es : List Int} {i : Nat} {y : Int} (h : i < es.length) : getE (es ++ [y]) i = getE es i := by simp [getE, List.getElem?_append, h]
theorem getE_last {es : List Int} {i : Nat} {y : Int} (h : es.length = i) : getE (es ++ [y]) i = y := by subst h; simp [getE]
theorem v_ixE {es : List Int} {i : Int} {n : Nat} (h : SqL K H p (es.map V.int)) (e : i = n) (hn : n < es.length) (k : Q (.int (getE es n)) H) : aIx K (.ref p) (.int i) H Q := v_ixLn h e (getE_at hn) k
theorem v_ixTE {es : List Int} {i : Int} {n : Nat} (h : SqT K H p (es.map V.int)) (e : i = n) (hn : n < es.length) (k : Q (.int (getE es n)) H) : aIx K (.ref p) (.int i) H Q := v_ixTn h e (getE_at hn) k
theorem v_ixEl {es : List Int} {n : Nat} (h : SqL K H p (es.map V.int)) (e : es.length = n + 1) (k : Q (.int (getE es n)) H) : aIx K (.ref p) (.int (-1)) H Q := by
  rcases List.eq_nil_or_concat es with z | ⟨ys, y, z⟩
  · subst z; cases e
  · have hz : es = ys ++ [y] := by simpa using z
    subst hz
    rw [List.map_append] at h
    have hl : ys.length = n := by simpa using e
    rw [getE_last hl] at k
    exact v_ixLast h k
theorem v_eqLL {ns ms : List Int} {q : Addr} (h1 : SqL K H p (ns.map V.int)) (h2 : SqL K H q (ms.map V.int)) (e : ns = ms) (k : Q (.bl true) H) : aEq K (.ref p) (.ref q) H Q := v_eqL h1 h2 (by rw [decide_eq_true e]; exact k)
theorem v_lenQ {n : Nat} (h : SqL K H p vs) (e : vs.length = n) (k : Q (.int n) H) : aLen K [.ref p] H Q := ⟨_, .inl h, by rw [e]; exact k⟩
theorem v_lenU {n : Nat} (h : SqT K H p vs) (e : vs.length = n) (k : Q (.int n) H) : aLen K [.ref p] H Q := ⟨_, .inr h, by rw [e]; exact k⟩
/-- tuple(xs) -/
theorem v_tuL (h : SqL K H p vs) (k : ∀ l, H l = none → Q (.ref l) (upd H l (.tup vs))) : ∃ p' ys, [V.ref p] = [.ref p'] ∧ ((SqL K H p' ys ∧ ∀ l, H l = none → Q (.ref l) (upd H l (.tup ys))) ∨ (SqT K H p' ys ∧ Q (.ref p') H)) := ⟨p, vs, rfl, .inl ⟨h, k⟩⟩
/-- xs.pop(i) -/
theorem v_popAt {i : Int} {n : Nat} (h : H p = some (.lst vs)) (e : i = n) (hn : n < 1000000) (hv : vs[n]? = some v) (k : Q v (upd H p (.lst (vs.eraseIdx n)))) : rPopAt (.ref p) [.int i] H Q := by
  refine ⟨p, vs, i, n, v, rfl, rfl, h, by omega, by omega, ?_, hv, k⟩
  subst e
  exact (ixN_seq (ixN_n (List.getElem?_eq_some_iff.mp hv).1)).1
/-- sorted(xs), ints -/
theorem v_sortI {ns : List Int} (h : SqL K H p (ns.map V.int)) (k : ∀ (ns' : List Int) (q : Addr), ns'.Perm ns → ns'.Pairwise (· ≤ ·) → H q = none → Q (.ref q) (upd H q (.lst (ns'.map V.int)))) : rSortedI K [.ref p] H Q := ⟨p, ns, rfl, h, k⟩
/-- list(range(n)) -/
def kLrg1 (Q : VK) : VK := fun x H1 => ∃ n : Int, x = .int n ∧ RgOk 0 n ∧ ∀ q, H1 q = none → Q (.ref q) (upd H1 q (.lst (rgV 0 n)))
theorem r_lrg1 {ta : TE} {σ : L2.St} (h : ta σ H (kLrg1 Q)) : tLstRg (tRg1 ta) σ H Q := h
theorem rgV_nat (n : Nat) : rgV 0 (n : Int) = (List.range n).map fun i : Nat => V.int i := by unfold rgV; simp
theorem v_lrg1 {i : Int} {n : Nat} (e : i = n) (hn : n ≤ 1000000) (k : ∀ q, H q = none → Q (.ref q) (upd H q (.lst ((List.range n).map fun i : Nat => V.int i)))) : kLrg1 Q (.int i) H := by
  refine ⟨i, rfl, RgOk.of_le (by omega) (by omega) (by omega) (by omega), ?_⟩
  rw [e, rgV_nat]
  exact k
def kLrg2 (Q : VK) (x : V) : VK := fun y H2 => ∃ i j : Int, x = .int i ∧ y = .int j ∧ RgOk i j ∧ ∀ q, H2 q = none → Q (.ref q) (upd H2 q (.lst (rgV i j)))
theorem r_lrg2 {ta tb : TE} {σ : L2.St} (h : ta σ H fun x H1 => tb σ H1 (kLrg2 Q x)) : tLstRg (tRg2 ta tb) σ H Q := h
theorem rgV_nats (n m : Nat) : rgV (n : Int) (m : Int) = (List.range' n (m - n)).map fun i : Nat => V.int i := by
  unfold rgV
  rw [show ((m : Int) - (n : Int)).toNat = m - n by omega, List.range'_eq_map_range, List.map_map]
  exact List.map_congr_left fun i _ => by simp
theorem v_lrg2 {i j : Int} {n m : Nat} (e : i = n) (e2 : j = m) (hn : n ≤ 1000000) (hm : m ≤ 1000000) (k : ∀ q, H q = none → Q (.ref q) (upd H q (.lst ((List.range' n (m - n)).map fun i : Nat => V.int i)))) : kLrg2 Q (.int i) (.int j) H := by
  refine ⟨i, j, rfl, rfl, RgOk.of_le (by omega) (by omega) (by omega) (by omega), ?_⟩
  rw [e, e2, rgV_nats]
  exact k
end
section
variable {X : Cx} {a b : Expr} {ta tb : TE} {p p2 pos pos2 : Pos}
theorem pe_listrange (hg : Gl X "list") (hm : X.mg "list" = none) (hg2 : Gl X "range") (hm2 : X.mg "range" = none) (ha : PE X a ta) (hc : X.calm = true := by rfl) (na : starEach [a] X.env = (false, eval a X.env) :: starEach [] X.env := by rfl)
    (na2 : starEach [.Call (.Name "range" p2) [a] [] pos2] X.env = (false, eval (.Call (.Name "range" p2) [a] [] pos2) X.env) :: starEach [] X.env := by rfl) : PE X (.Call (.Name "list" p) [.Call (.Name "range" p2) [a] [] pos2] [] pos) (tLstRg (tRg1 ta)) :=
  pe_listRg hc hg hm (prg_1 hg2 hm2 ha na) na2
theorem pe_listrange2 (hg : Gl X "list") (hm : X.mg "list" = none) (hg2 : Gl X "range") (hm2 : X.mg "range" = none) (ha : PE X a ta) (hb : PE X b tb) (hc : X.calm = true := by rfl) (na : starEach [a, b] X.env = (false, eval a X.env) :: starEach [b] X.env := by rfl)
    (nb : starEach [b] X.env = (false, eval b X.env) :: starEach [] X.env := by rfl) (hp : (backTo pos2 (starEach [b] X.env)).any (·.1) = false := by rfl)
    (na2 : starEach [.Call (.Name "range" p2) [a, b] [] pos2] X.env = (false, eval (.Call (.Name "range" p2) [a, b] [] pos2) X.env) :: starEach [] X.env := by rfl) : PE X (.Call (.Name "list" p) [.Call (.Name "range" p2) [a, b] [] pos2] [] pos) (tLstRg (tRg2 ta tb)) :=
  pe_listRg hc hg hm (prg_2 hg2 hm2 ha hb na nb hp) na2
end
section
variable {C : Addr} {m : Str} {sp : Sp} {dvs vs : List V} {E : XK} {ta : TE} {t : TA} {σ : L2.St} {H : Hp} {Q : VK} {a dx : Addr} {fs : List (Str × V)}
def kMeth (C : Addr) (m : Str) (sp : Sp) (dvs : List V) (E : XK) (t : TA) (σ : L2.St) (Q : VK) : VK := fun x H1 => ∃ a dx fs, x = .ref a ∧ H1 a = some (.ins C dx fs) ∧ fs.lookup m = none ∧ t σ H1 fun vs H2 => sp (x :: (vs ++ dvs)) H2 Q E
theorem r_meth (h : ta σ H (kMeth C m sp dvs E t σ Q)) : tMeth C m sp dvs E ta t σ H Q := h
theorem v_meth (h : H a = some (.ins C dx fs)) (l : fs.lookup m = none) (k : t σ H fun vs H2 => sp (.ref a :: (vs ++ dvs)) H2 Q E) : kMeth C m sp dvs E t σ Q (.ref a) H := ⟨a, dx, fs, rfl, h, l, k⟩
def kMake (C : Addr) (sp : Sp) (dvs : List V) (E : XK) (Q : VK) : List V → Hp → Prop := fun vs H1 => ∀ x dx, H1 x = none → H1 dx = none → dx ≠ x → sp (.ref x :: (vs ++ dvs)) (upd (upd H1 dx (.own x)) x (.ins C dx [])) (fun v H2 => v = .non ∧ Q (.ref x) H2) E
theorem r_make (h : t σ H (kMake C sp dvs E Q)) : tMake C sp dvs E t σ H Q := h
theorem v_make (k : ∀ x dx, H x = none → H dx = none → dx ≠ x → sp (.ref x :: (vs ++ dvs)) (upd (upd H dx (.own x)) x (.ins C dx [])) (fun v H2 => v = .non ∧ Q (.ref x) H2) E) : kMake C sp dvs E Q vs H := k
theorem isi_bl_int {K : PySem.W.Frag} {b : Bool} (k : Q (.bl true) H) : rIsi K [.bl b, .ty "int"] H Q := ⟨.bl b, .ty "int", .type "bool", .type "int", true, rfl, .ty _, .base (.bl b), by rfl, k⟩
theorem isi_bl_bool {K : PySem.W.Frag} {b : Bool} (k : Q (.bl true) H) : rIsi K [.bl b, .ty "bool"] H Q := ⟨.bl b, .ty "bool", .type "bool", .type "bool", true, rfl, .ty _, .base (.bl b), by rfl, k⟩
theorem isi_L {K : PySem.W.Frag} {xs : List V} (h : H a = some (.lst xs)) (k : Q (.bl true) H) : rIsi K [.ref a, .ty "list"] H Q := ⟨.ref a, .ty "list", .type "list", .type "list", true, rfl, .ty _, .base (.lst h), by rfl, k⟩
theorem isi_T {K : PySem.W.Frag} {xs : List V} (h : H a = some (.tup xs)) (k : Q (.bl true) H) : rIsi K [.ref a, .ty "tuple"] H Q := ⟨.ref a, .ty "tuple", .type "tuple", .type "tuple", true, rfl, .ty _, .base (.tup h), by rfl, k⟩
end
section
variable {f g : Str} {v x : V} {r r' : List (Str × V)} {a1 a2 a3 a4 a5 a6 : Str × V}
theorem pf_nil : putF f v [] = [(f, v)] := rfl
theorem pf_hit : putF f v ((f, x) :: r) = (f, v) :: r := by simp [putF]
theorem pf_miss (h : g ≠ f) (k : putF f v r = r') : putF f v ((g, x) :: r) = (g, x) :: r' := by simp [putF, h, k]
theorem few0 : ([] : List (Str × V)).length < 1000 := by simp
theorem few1 : [a1].length < 1000 := by simp
theorem few2 : [a1, a2].length < 1000 := by simp
theorem few3 : [a1, a2, a3].length < 1000 := by simp
theorem few4 : [a1, a2, a3, a4].length < 1000 := by simp
theorem few5 : [a1, a2, a3, a4, a5].length < 1000 := by simp
theorem few6 : [a1, a2, a3, a4, a5, a6].length < 1000 := by simp
end
theorem mul64 {i j : Int} (h : -18446744073709551616 < i ∧ i < 18446744073709551616) (k : -18446744073709551616 < j ∧ j < 18446744073709551616) : IntMulOk i j :=
  (mulx_ok (a := 64) (b := 64) (by have : (2 : Nat) ^ 64 = 18446744073709551616 := by decide
                                   omega) (by have : (2 : Nat) ^ 64 = 18446744073709551616 := by decide
                                              omega) (by decide)).ok
theorem ne_of_none' {H : Hp} {a p : Addr} {o : HO} (hp : H p = none) (h : H a = some o) : a ≠ p := ne_of_none h hp
theorem r_ty {K : PySem.W.Frag} {H : Hp} {p : Addr} {xs : List V} {B : Prop} (h : H p = some (.lst xs)) (k : B) : tyV K "list" (.ref p) H ∧ B := ⟨ty_list h, k⟩
/-! built-ins by names of their own -/
def rListOf (K : PySem.W.Frag) : List V → Hp → VK → Prop := fun xs H Q => ∃ p ys, xs = [.ref p] ∧ (SqL K H p ys ∨ SqT K H p ys) ∧ ∀ l, H l = none → Q (.ref l) (upd H l (.lst ys))
def rTupOf (K : PySem.W.Frag) : List V → Hp → VK → Prop := fun xs H Q => ∃ p ys, xs = [.ref p] ∧ ((SqL K H p ys ∧ ∀ l, H l = none → Q (.ref l) (upd H l (.tup ys))) ∨ (SqT K H p ys ∧ Q (.ref p) H))
def rMax2 : List V → Hp → VK → Prop := fun xs H Q => ∃ i j, xs = [.int i, .int j] ∧ Q (.int (if j > i then j else i)) H
def rMin2 : List V → Hp → VK → Prop := fun xs H Q => ∃ i j, xs = [.int i, .int j] ∧ Q (.int (if j < i then j else i)) H
def rIns : V → List V → Hp → VK → Prop := fun x vs H Q => ∃ (l : Addr) (xs : List V) (i : Int) (y : V), x = .ref l ∧ vs = [.int i, y] ∧ H l = some (.lst xs) ∧ xs.length < sizeLine ∧ 0 ≤ i ∧ i < 2 ^ 63 ∧ Q .non (upd H l (.lst (xs.take i.toNat ++ [y] ++ xs.drop i.toNat)))
section
variable {X : Cx} {K : PySem.W.Frag} {H : Hp} {Q : VK} {p : Addr} {vs : List V} {v : V} {i j : Int}
theorem cListOf : CallR X (.type "list") (rListOf X.K) := call_list_of
theorem cTupOf : CallR X (.type "tuple") (rTupOf X.K) := call_tuple_of
theorem cMax2 (hc : X.calm = true) : CallR X (.builtin "max") rMax2 := call_max2 hc
theorem cMin2 (hc : X.calm = true) : CallR X (.builtin "min") rMin2 := call_min2 hc
theorem mIns : MtR X "list.insert" rIns := mt_insert
theorem w_listL (h : SqL K H p vs) (k : ∀ l, H l = none → Q (.ref l) (upd H l (.lst vs))) : rListOf K [.ref p] H Q := ⟨p, vs, rfl, .inl h, k⟩
theorem w_listT (h : SqT K H p vs) (k : ∀ l, H l = none → Q (.ref l) (upd H l (.lst vs))) : rListOf K [.ref p] H Q := ⟨p, vs, rfl, .inr h, k⟩
theorem w_tupL (h : SqL K H p vs) (k : ∀ l, H l = none → Q (.ref l) (upd H l (.tup vs))) : rTupOf K [.ref p] H Q := ⟨p, vs, rfl, .inl ⟨h, k⟩⟩
theorem w_tupT (h : SqT K H p vs) (k : Q (.ref p) H) : rTupOf K [.ref p] H Q := ⟨p, vs, rfl, .inr ⟨h, k⟩⟩
theorem w_max (k : Q (.int (if j > i then j else i)) H) : rMax2 [.int i, .int j] H Q := ⟨i, j, rfl, k⟩
theorem w_min (k : Q (.int (if j < i then j else i)) H) : rMin2 [.int i, .int j] H Q := ⟨i, j, rfl, k⟩
theorem w_ins {n : Nat} (h : H p = some (.lst vs)) (e : i = n) (hn : n < 1000000) (hl : vs.length < 1000000) (k : Q .non (upd H p (.lst (vs.take n ++ [v] ++ vs.drop n)))) : rIns (.ref p) [.int i, v] H Q :=
  ⟨p, vs, i, v, rfl, rfl, h, Nat.lt_trans hl (by decide), by omega, by omega, by rw [e]; exact k⟩
theorem w_insI (h : H p = some (.lst vs)) (h0 : 0 ≤ i) (h1 : i < 1000000) (hl : vs.length < 1000000) (k : Q .non (upd H p (.lst (vs.take i.toNat ++ [v] ++ vs.drop i.toNat)))) : rIns (.ref p) [.int i, v] H Q :=
  ⟨p, vs, i, v, rfl, rfl, h, Nat.lt_trans hl (by decide), h0, by omega, k⟩
end
/-! one layer of a heap taken off -/
section
variable {K : PySem.W.Frag} {H : Hp} {a p : Addr} {xs : List V} {o u : HO}
theorem off_old (hp : H p = none) (h : H a = some o) : upd H p u a = some o := upd_old h hp
theorem off_far (n : a ≠ p) (h : H a = some o) : upd H p u a = some o := upd_far n h
theorem sql_off (hp : H p = none) (h : SqL K H a xs) : SqL K (upd H p u) a xs := sql_upd h hp
theorem sql_offar (n : a ≠ p) (h : SqL K H a xs) : SqL K (upd H p u) a xs := sql_far h n
theorem sqt_off (hp : H p = none) (h : SqT K H a xs) : SqT K (upd H p u) a xs := sqt_upd h hp
theorem sqt_offar (n : a ≠ p) (h : SqT K H a xs) : SqT K (upd H p u) a xs := sqt_far h n
end
/-! x is True, for a truth x -/
def aIsB : R2 := fun x y H Q => ∃ b c, x = .bl b ∧ y = .bl c ∧ Q (.bl (decide (b = c))) H
def aNotB : R2 := fun x y H Q => ∃ b c, x = .bl b ∧ y = .bl c ∧ Q (.bl (!decide (b = c))) H
section
variable {X : Cx} {K : PySem.W.Frag} {H : Hp} {Q : VK} {b c : Bool} {x y : V} {d : PyData}
theorem oIsB : OpR X (compareOp .Is) aIsB := by
  intro pins s σ H x y v u Q I rx ry h
  obtain ⟨b, c, rfl, rfl, q⟩ := h
  cases rx
  cases ry
  show wpAny _ _ ((isSame (Value.bool b) (Value.bool c)) >>= fun z => pure (Value.bool z)) _ _ s
  exact wpAny_bind (wpAny_isSame_plain (by rfl) (wpAny_pure (fin_bl I q (by cases b <;> cases c <;> rfl))))
theorem oNotB : OpR X (compareOp .IsNot) aNotB := by
  intro pins s σ H x y v u Q I rx ry h
  obtain ⟨b, c, rfl, rfl, q⟩ := h
  cases rx
  cases ry
  show wpAny _ _ ((isSame (Value.bool b) (Value.bool c)) >>= fun z => pure (Value.bool (!z))) _ _ s
  exact wpAny_bind (wpAny_isSame_plain (by rfl) (wpAny_pure (fin_bl I q (by cases b <;> cases c <;> rfl))))
theorem w_isB (k : Q (.bl (decide (b = c))) H) : aIsB (.bl b) (.bl c) H Q := ⟨b, c, rfl, rfl, k⟩
theorem w_notB (k : Q (.bl (!decide (b = c))) H) : aNotB (.bl b) (.bl c) H Q := ⟨b, c, rfl, rfl, k⟩
mutual
theorem eqv_refl : ∀ d : PyData, d.canLay0 = true → PyData.eqv d d = true
  | .none, _ => by simp [PyData.eqv]
  | .bool _, _ => by simp [PyData.eqv]
  | .int _, _ => by simp [PyData.eqv]
  | .str _, _ => by simp [PyData.eqv]
  | .list ds, h => by simp only [PyData.eqv]; exact eqvAll_refl ds (by simpa [PyData.canLay0] using h)
  | .tuple ds, h => by simp only [PyData.eqv]; exact eqvAll_refl ds (by simpa [PyData.canLay0] using h)
  | .dict _, h => by simp [PyData.canLay0] at h
theorem eqvAll_refl : ∀ ds : List PyData, PyData.canLayAll0 ds = true → PyData.eqvAll ds ds = true
  | [], _ => by simp [PyData.eqvAll]
  | d :: ds, h => by
    have h' : d.canLay0 = true ∧ PyData.canLayAll0 ds = true := by simpa [PyData.canLayAll0] using h
    simp only [PyData.eqvAll, eqv_refl d h'.1, eqvAll_refl ds h'.2, Bool.and_self]
end
/-- the same data -/
theorem v_eqR (h1 : Dp K H x d) (h2 : Dp K H y d) (hs : SeqAt.shaped d = true) (k : Q (.bl true) H) : aEq K x y H Q :=
  v_eqD h1 h2 hs hs (by rw [eqv_refl d (SeqAt.canLay_of_shaped hs)]; exact k)
theorem v_neR (h1 : Dp K H x d) (h2 : Dp K H y d) (hs : SeqAt.shaped d = true) (k : Q (.bl false) H) : aNe K x y H Q :=
  v_neD h1 h2 hs hs (by rw [eqv_refl d (SeqAt.canLay_of_shaped hs)]; exact k)
end
/-- an if whose two ways meet again -/
theorem r_wJ {c : Prop} [Decidable c] {t1 t2 : TS} {D : Ends} {σ : L2.St} {H : Hp} (W : L2.St → Hp → Prop) (hk : ∀ σ' H', W σ' H' → D.nx σ' H')
    (h1 : c → ∀ N : L2.St → Hp → Prop, (∀ σ' H', W σ' H' → N σ' H') → t1 { D with nx := N } σ H) (h2 : ¬ c → ∀ N : L2.St → Hp → Prop, (∀ σ' H', W σ' H' → N σ' H') → t2 { D with nx := N } σ H) :
    if decide c = true then t1 D σ H else t2 D σ H := r_w (fun h => h1 h D.nx hk) fun h => h2 h D.nx hk
theorem r_nwJ {c : Prop} [Decidable c] {t1 t2 : TS} {D : Ends} {σ : L2.St} {H : Hp} (W : L2.St → Hp → Prop) (hk : ∀ σ' H', W σ' H' → D.nx σ' H')
    (h1 : ¬ c → ∀ N : L2.St → Hp → Prop, (∀ σ' H', W σ' H' → N σ' H') → t1 { D with nx := N } σ H) (h2 : c → ∀ N : L2.St → Hp → Prop, (∀ σ' H', W σ' H' → N σ' H') → t2 { D with nx := N } σ H) :
    if (!decide c) = true then t1 D σ H else t2 D σ H := r_nw (fun h => h1 h D.nx hk) fun h => h2 h D.nx hk
/-! a heap without one address -/
def wo (D : Addr) (H : Hp) : Hp := fun b => if b = D then none else H b
theorem wo_at {D b : Addr} {H : Hp} {o : HO} (n : b ≠ D) (h : H b = some o) : wo D H b = some o := by unfold wo; rw [if_neg n]; exact h
theorem wo_upd {D : Addr} {H : Hp} {o : HO} : wo D (upd H D o) = wo D H := by
  funext b
  unfold wo
  by_cases h : b = D
  · rw [if_pos h, if_pos h]
  · rw [if_neg h, if_neg h, upd_ne h]
theorem wo_stp {D : Addr} {H : Hp} : Stp [] (wo D H) H := ⟨fun b o e _ => by
  unfold wo at e
  by_cases h : b = D
  · rw [if_pos h] at e; cases e
  · rw [if_neg h] at e; exact e, fun b e => by
  unfold wo
  by_cases h : b = D
  · rw [if_pos h]
  · rw [if_neg h]; exact e⟩
theorem wo_mono {D : Addr} {H H' : Hp} (S : Stp [] H H') : Stp [] (wo D H) (wo D H') := ⟨fun b o e _ => by
  unfold wo at e ⊢
  by_cases h : b = D
  · rw [if_pos h] at e; cases e
  · rw [if_neg h] at e ⊢; exact S.keep0 e, fun b e => by
  unfold wo at e ⊢
  by_cases h : b = D
  · rw [if_pos h]
  · rw [if_neg h] at e ⊢; exact S.dom b e⟩
/-- data gathered in the list at D -/
theorem dp_gather {K : PySem.W.Frag} {D : Addr} {H1 H2 : Hp} {us : List V} {ds : List PyData} {x : V} {d : PyData} {o : HO} (S : Stp [] H1 H2) (h : DpAll K (wo D H1) us ds) (k : Dp K (wo D H2) x d) : DpAll K (wo D (upd H2 D o)) (us ++ [x]) (ds ++ [d]) := by
  rw [wo_upd]
  have h2 := dp_stpAll (wo_mono S) _ _ h
  clear h
  induction us generalizing ds with
  | nil => cases h2; exact .cons k .nil
  | cons u us ih => cases h2 with | cons h1 h2 => exact .cons h1 (ih h2)
theorem st_new {M : List Addr} {H H1 : Hp} {p : Addr} {o : HO} (h : H1 p = none) (a : Stp M H H1) : Stp M H (upd H1 p o) := a.new h
theorem st_trans {M : List Addr} {H H1 H2 : Hp} (b : Stp [] H1 H2) (a : Stp M H H1) : Stp M H H2 := a.then0 b
theorem st_put {M : List Addr} {H H1 : Hp} {p : Addr} {o : HO} (h : H p = none) (a : Stp M H H1) : Stp M H (upd H1 p o) := a.putN h
theorem st_fr {H H' : Hp} {p : Addr} (h : H' p = none) (S : Stp [] H H') : H p = none := S.dom p h
theorem dpall_len {K : PySem.W.Frag} {H : Hp} : ∀ {us : List V} {ds : List PyData}, DpAll K H us ds → us.length = ds.length
  | [], _, h => by cases h; rfl
  | u :: us, _, h => by cases h with | cons h1 h2 => simp [dpall_len h2]
theorem dpall_get {K : PySem.W.Frag} {H : Hp} {us : List V} {ds : List PyData} {i : Nat} {d : PyData} (h : DpAll K H us ds) (e : ds[i]? = some d) : ∃ v, us[i]? = some v ∧ Dp K H v d := by
  induction us generalizing ds i with
  | nil => cases h; cases e
  | cons u us ih => cases h with | cons h1 h2 => cases i with
    | zero => cases e; exact ⟨u, rfl, h1⟩
    | succ i => exact ih h2 e
theorem dpall_map {K : PySem.W.Frag} {H : Hp} {β : Type} {l : List β} {f : β → V} {g : β → PyData} (h : ∀ b ∈ l, Dp K H (f b) (g b)) : DpAll K H (l.map f) (l.map g) := by
  induction l with
  | nil => exact .nil
  | cons x xs ih => exact .cons (h x (by simp)) (ih fun y hy => h y (by simp [hy]))
theorem shaped_list {ds : List PyData} (h : ∀ d ∈ ds, PyData.canLay0 d = true ∧ PyData.depth d ≤ 1) : SeqAt.shaped (.list ds) = true := by
  have h1 : PyData.canLayAll0 ds = true ∧ PyData.depthAll ds ≤ 1 := by
    induction ds with
    | nil => exact ⟨by simp [PyData.canLayAll0], by simp [PyData.depthAll]⟩
    | cons d ds ih =>
      obtain ⟨a, b⟩ := h d (by simp)
      obtain ⟨c, e⟩ := ih fun x hx => h x (by simp [hx])
      exact ⟨by simp only [PyData.canLayAll0, a, c, Bool.and_self], by simp only [PyData.depthAll]; omega⟩
  unfold SeqAt.shaped
  rw [show PyData.canLay0 (.list ds) = true by simp only [PyData.canLay0]; exact h1.1]
  exact decide_eq_true (by simp only [PyData.depth]; omega)
/-! defs with defaults -/
section
variable {P : Program} {w : World} {K : PySem.W.Frag} {mg : Str → Option Value} {base : Heap}
theorem funD_mk {x qual : Str} {st : Stmt} {f T : Addr} {oc oT : Value} {od an oU : Option Addr} {osl tsl : Array (Option Value)} {kV doc pm cdv ct : Value} {its : List Value} {n : Nat} {dvs : List V}
    (l : K.lookup f = some ⟨oc, od, .func (PySem.W.fnOf x qual (defArgs st) (defBody st) (defScope st) (.ref T) kV doc pm an cdv ct), osl⟩) (t : K.lookup T = some ⟨oT, oU, .seq its.toArray n, tsl⟩) (r : Vals dvs its) (hd : dvs ≠ [])
    (c : PySem.W.codeIn K cdv qual = true) (k : PySem.W.keepIn K (.ref f) = true) : FunD K x qual (defArgs st) (defBody st) (defScope st) dvs [] f (PySem.W.fnOf x qual (defArgs st) (defBody st) (defScope st) (.ref T) kV doc pm an cdv ct) :=
  ⟨⟨oc, od, _, kV, doc, pm, an, cdv, ct, osl, rfl, l, c, .inr ⟨hd, T, _, its, n, rfl, t, rfl, r⟩, .inl rfl⟩, k⟩
theorem funD_ok {x qual : Str} {st : Stmt} {dvs : List V} {f : Addr} {fd : FuncData} {N ps : List Str} {k : Nat} {sp : Sp} (F : FunD K x qual (defArgs st) (defBody st) (defScope st) dvs [] f fd) (S : FnScope N ps (defScope st)) (len : ∀ vs H Q E, sp vs H Q E → vs.length = ps.length)
    (hb : ∀ (cdv : Value) (A : Around) (outer : List Env) (s : Shared) (H : Hp) (vs : List V) (Q : VK) (E : XK), Room k (A.deeper (envOfC qual (defScope st) s.heap.objs.size f cdv)) → sp vs H Q E →
      ∃ t, PSs (cxOf CX0 P w K mg base N qual (defScope st) f cdv A outer s H E).nox (defBody st) t ∧ t { nx := fun _ H' => Q .non H', rt := Q } (start N vs) H) : FnOk P w K mg base CX0 (k + 1) f fd ps sp :=
  F.ok S len fun cdv A outer s H vs Q E hr h => by
    obtain ⟨t, h1, h2⟩ := hb cdv A outer s H vs Q E hr h
    exact ⟨t, h1.nox, h2⟩
end
theorem Stp.putI {M : List Addr} {H H1 : Hp} {p C d : Addr} {fs : List (Str × V)} {o : HO} (a : Stp M H H1) (h : p ∈ M) (h1 : H1 p = some (.ins C d fs)) : Stp M H (upd H1 p o) := a.putM h h1 (fun z => z)
theorem Stp.putL {M : List Addr} {H H1 : Hp} {p : Addr} {xs : List V} {o : HO} (a : Stp M H H1) (h : p ∈ M) (h1 : H1 p = some (.lst xs)) : Stp M H (upd H1 p o) := a.putM h h1 (fun z => z)
theorem v_tup1 {H : Hp} {Q : VK} {x : V} (h : ∀ p, H p = none → Q (.ref p) (upd H p (.tup [x]))) : SH.kTup Q [x] H := v_tup (by simp) h
/-- a statement of a def's body -/
def inDef (s : Stmt) (j : Nat) : Stmt := (defBody s).getD j (.Pass ⟨0, 0, 0, 0⟩)
/-- a table that tells nothing as yet -/
theorem tabN_empty {H : Hp} {P : Addr} {nm : Nat → Nat → Str} (h : H P = some (.tbl #[])) : NdefX.TabN H P nm := ⟨#[], h, by trivial, fun pos cv hc => by cases hc⟩
/-! rules with the frag by its name (in a comprehension the context is not to be seen from outside) -/
section
variable {X : Cx}
theorem opK {op : Value → Value → Sem Value} (r : PySem.W.Frag → R2) (K : PySem.W.Frag) (h : OpR X op (r X.K)) (e : X.K = K := by rfl) : OpR X op (r K) := e ▸ h
theorem ixK (r : PySem.W.Frag → R2) (K : PySem.W.Frag) (h : IxR X (r X.K)) (e : X.K = K := by rfl) : IxR X (r K) := e ▸ h
theorem crK {v : Value} (r : PySem.W.Frag → List V → Hp → VK → Prop) (K : PySem.W.Frag) (h : CallR X v (r X.K)) (e : X.K = K := by rfl) : CallR X v (r K) := e ▸ h
theorem slK (r : PySem.W.Frag → V → Option Int → Option Int → Hp → VK → Prop) (K : PySem.W.Frag) (h : SlR X (r X.K)) (e : X.K = K := by rfl) : SlR X (r K) := e ▸ h
theorem piK {tg e : Expr} (r : PySem.W.Frag → TI) (K : PySem.W.Frag) (h : PI X tg e (r X.K)) (e' : X.K = K := by rfl) : PI X tg e (r K) := e' ▸ h
theorem peK {e : Expr} (r : PySem.W.Frag → TE) (K : PySem.W.Frag) (h : PE X e (r X.K)) (e' : X.K = K := by rfl) : PE X e (r K) := e' ▸ h
end
end SH

set_option Elab.async false
set_option linter.all false
set_option maxRecDepth 100000
set_option maxHeartbeats 4000000
/-! SHF: list(reversed(xs)), a new list -/
namespace SH
open PySem PySem.Spec PyProof.Rows L2
section
variable {prog : Program} {w : World} {A : Around} {E : Value → Shared → Prop} {s : Shared}
theorem ext_lrev {R : Result → Shared → Prop} {it l : Addr} {items : Array Value} (hh : A.handled = none) (hit : s.heap.IsRevIter it l ((items.size : Int) - 1)) (hl : s.heap.IsList l items) (hne : l ≠ it) (hn : items.size ≤ sizeLine)
    (S : Addr) (c0 : Nat) (hS : s.heap.get? S = some { cls := .type "list", data := .seq #[] c0 }) (nSi : S ≠ it) (nSl : S ≠ l)
    (hR : ∀ h' tk acc c', (∀ b o, b ≠ S → b ≠ it → s.heap.get? b = some o → h'.get? b = some o) → h'.get? S = some { cls := .type "list", dict := none, data := .seq acc c', slots := #[] } →
      ItemsOf (fun i v => items[items.size - 1 - i]? = some v) acc items.size → R (.ok (.ret .none)) { s with heap := h', toks := tk }) :
    wpAny (model prog w) A.in1 (Builtin.List.listExtendWith (.ref S) (.ref it) .none)
      (fun z s' => match z with | .done u => R (.ok u) s' | .again c' => c'.quiet = true ∧ codeAny (model prog w) A c' R s') (fun e s' => R (.error e) s') s := by
  have W := (Walks.listRev (prog := prog) (w := w) (A := A.in1) hh it l hne items).toS
  have nf : S ∉ [it, l] := by simp only [List.mem_cons, List.not_mem_nil, or_false, not_or]; exact ⟨nSi, nSl⟩
  have ty : s.TypeIs (.ref it) "list_reverseiterator" := Heap.IsRevIter.typeIs (s := s) hit
  have same : Builtin.List.listSameRef (.ref S) (.ref it) = false := by simp [Builtin.List.listSameRef, nSi]
  unfold Builtin.List.listExtendWith; refine wpAny_bind (wpAny_typeOf ty ?_); rw [if_neg (by rw [same]; decide)]
  refine wpAny_bind (wpAny_pyIter_revIter (s := s) hit ?_); refine wpAny_bind (wpAny_holding ?_); unfold Builtin.List.listLengthHint
  refine wpAny_bind (wpAny_specialOf ty RT.nolen_lri ?_); show wpAny _ A.in1 (specialOf (Value.ref it) (Str.ofString "__length_hint__") >>= _) _ _ _
  refine wpAny_bind (wpAny_specialOf ty RT.hint_lri ?_); generalize hid : ("list_reverseiterator.__length_hint__" : String) = id0
  wp_delta; rw [show splitId id0 = some ("list_reverseiterator", "__length_hint__") from by subst hid; decide +kernel]; subst hid
  refine wpAny_bind (wpAny_isInstance (b := true) ty (by rw [isSubtype_type]; kernel_rfl) ?_); refine wpAny_pure ?_; rw [if_neg (by decide)]
  have z0 : ((items.size : Nat) : Int) - 1 - ((0 : Nat) : Int) = (items.size : Int) - 1 := by omega
  refine wpAny_pure ⟨plainId_quiet F.plain_extend_loop _, codeAny_extend_loopS W hn _ nf _ items.size 0 _ _ _ rfl (Nat.zero_le _) ⟨Nat.zero_le _, by rw [z0]; exact hit, hl⟩ hS (ItemsOf.nil _) fun s' acc c' hm hS' ha => ?_⟩
  rw [Moved.eq_with hm]; refine hR s'.heap s'.toks acc c' (fun b o n1 n2 e => hm.heap b o (fun hmem => ?_) e) hS' ha
  rcases List.mem_cons.mp hmem with e' | hmem
  · exact n1 e'
  · exact n2 (List.mem_singleton.mp hmem)
theorem call_list_rev {it l : Addr} {items : Array Value} {Q : Value → Shared → Prop} (hh : A.handled = none) (hit : s.heap.IsRevIter it l ((items.size : Int) - 1)) (hl : s.heap.IsList l items) (hne : l ≠ it) (hn : items.size ≤ sizeLine)
    (hQ : ∀ h' tk acc c', (∀ b o, b ≠ it → s.heap.get? b = some o → h'.get? b = some o) → h'.get? s.heap.objs.size = some { cls := .type "list", dict := none, data := .seq acc c', slots := #[] } →
      ItemsOf (fun i v => items[items.size - 1 - i]? = some v) acc items.size → Q (.ref s.heap.objs.size) { s with heap := h', toks := tk }) :
    wpAny (model prog w) A (call (.type "list") [.ref it]) Q E s := by
  refine callType_codes (Q₁ := fun ob s1 => ob = .ref s.heap.objs.size ∧ s1 = { s with heap := s.heap.push { cls := .type "list", data := .seq #[] } }) F.called_list (F.typeCall_list_1 _) F.entry_list_init (code_list_new _ ⟨rfl, rfl⟩) fun ob s1 h1 => ?_
  obtain ⟨e1, e2⟩ := h1; subst e1; subst e2
  have hS : (s.heap.push { cls := .type "list", data := .seq #[] }).get? s.heap.objs.size = some { cls := .type "list", data := .seq #[] } := by exact Heap.get?_push_size _ rfl
  obtain ⟨oi, hoi, _⟩ := id hit; obtain ⟨ol, hol, hol'⟩ := id hl
  have nSi : s.heap.objs.size ≠ it := Nat.ne_of_gt (Heap.lt_size hoi); have nSl : s.heap.objs.size ≠ l := Nat.ne_of_gt (Heap.lt_size hol)
  refine ⟨⟨_, hS, rfl⟩, F.args_list_init_2 _ _, ?_⟩
  show wpAny _ _ (do let old ← Builtin.List.listItems (.ref s.heap.objs.size); Builtin.List.listUpdate (.ref s.heap.objs.size) (fun _ => #[]); letGo old.toList.reverse; Builtin.List.listExtendWith (.ref s.heap.objs.size) (.ref it) .none) _ _ _
  refine wpAny_bind ?_; unfold Builtin.List.listItems; refine wpAny_bind (wpAny_seqItems hS rfl (wpAny_pure ?_))
  show wpAny _ _ (updateSeq s.heap.objs.size (fun _ => #[]) >>= fun _ => letGo (#[] : Array Value).toList.reverse >>= fun _ => Builtin.List.listExtendWith (.ref s.heap.objs.size) (.ref it) .none) _ _ _
  refine wpAny_bind (wpAny_updateSeq hS rfl ?_); have hS2 := Heap.get?_update_self (Obj.mapSeq (fun _ => (#[] : Array Value))) hS rfl
  have oth : ∀ b o, b ≠ s.heap.objs.size → s.heap.get? b = some o → ((s.heap.push { cls := .type "list", data := .seq #[] }).update s.heap.objs.size (Obj.mapSeq (fun _ => (#[] : Array Value)))).get? b = some o :=
    fun b o hb e => (Heap.get?_update_other _ _ (Ne.symm hb)).trans (Heap.get?_push_of_some _ e)
  refine wpAny_bind (wpAny_letGo ?_)
  refine ext_lrev (A := A.in1) (R := wants (fun r s2 => r = Value.none ∧ Q (.ref s.heap.objs.size) s2) E) (s := { s with heap := (s.heap.push { cls := .type "list", data := .seq #[] }).update s.heap.objs.size (Obj.mapSeq (fun _ => (#[] : Array Value))) }) hh (hit.at fun o e => oth it o (Ne.symm nSi) e) ?_ hne hn _ _ hS2 nSi nSl fun h' tk acc c' hk hS' ha => ?_
  · exact ⟨ol, oth l ol (Ne.symm nSl) hol, hol'⟩
  · exact ⟨rfl, hQ h' tk acc c' (fun b o n2 e => hk b o (Nat.ne_of_lt (Heap.lt_size e)) n2 (oth b o (Nat.ne_of_lt (Heap.lt_size e)) e)) hS' ha⟩
end
/-- list(reversed(xs)) -/
def kLstRev (K : PySem.W.Frag) (Q : VK) : VK := fun v H1 => ∃ (a : Addr) (xs : List V), v = .ref a ∧ SqL K H1 a xs ∧ ∀ q, H1 q = none → Q (.ref q) (upd H1 q (.lst xs.reverse))
def tLstRev (K : PySem.W.Frag) (te : TE) : TE := fun σ H Q => te σ H (kLstRev K Q)
theorem r_lrev {K : PySem.W.Frag} {te : TE} {σ : L2.St} {H : Hp} {Q : VK} (h : te σ H (kLstRev K Q)) : tLstRev K te σ H Q := h
theorem v_lrev {K : PySem.W.Frag} {H : Hp} {Q : VK} {a : Addr} {xs : List V} (h : SqL K H a xs) (k : ∀ q, H q = none → Q (.ref q) (upd H q (.lst xs.reverse))) : kLstRev K Q (.ref a) H := ⟨a, xs, rfl, h, k⟩
section
variable {X : Cx}
theorem pe_lstRev {e : Expr} {te : TE} {p p2 pos pos2 : Pos} (hg : Gl X "list") (hm : X.mg "list" = none) (hg2 : Gl X "reversed") (hm2 : X.mg "reversed" = none) (he : PE X e te) (hc : X.calm = true := by rfl)
    (hs : starEach [e] X.env = (false, eval e X.env) :: starEach [] X.env := by rfl)
    (hs2 : starEach [.Call (.Name "reversed" p2) [e] [] pos2] X.env = (false, eval (.Call (.Name "reversed" p2) [e] [] pos2) X.env) :: starEach [] X.env := by rfl) :
    PE X (.Call (.Name "list" p) [.Call (.Name "reversed" p2) [e] [] pos2] [] pos) (tLstRev X.K te) := by
  refine ⟨fun pins s σ H Q I h => ?_⟩
  refine Call_ (ld_blt I hg hm boot_list (PyProof.Rows.callWith_type1 (args_cons (Call_ (ld_blt I hg2 hm2 PyProof.Rows.boot_reversed (PyProof.Rows.callWith_type1 (args_cons (thn (he.run pins s σ H _ I h) fun u s1 ⟨v, H1, I1, r1, q1⟩ => args_nil ?_) hs) hs rfl))) hs2) hs2 rfl))
  obtain ⟨a, xs, ev, hq, q⟩ := q1; subst ev; obtain rfl : u = Value.ref a := r1; obtain ⟨its, rv, p', hz⟩ := I1.list hq
  refine call_reversed_list p'.isList (args_nil ?_)
  have I2 : Inv X pins σ H1 { s1 with heap := s1.heap.push (revObj a ((its.toArray.size : Int) - 1)) } := by exact I1.kept (t' := s1.toks) fun b o e => Heap.get?_push_of_some _ e
  obtain ⟨f0, f1, f2, f3, f4, f5⟩ := I1.fpOk (H' := H1) (b := s1.heap.objs.size) (Nat.le_refl _) (I1.hok.fresh (Nat.le_refl _)); have hl := p'.isList; obtain ⟨ol, hol, _⟩ := id hl
  have hne : a ≠ s1.heap.objs.size := by exact Nat.ne_of_lt (Heap.lt_size hol)
  have hn : its.toArray.size ≤ sizeLine := by rw [List.size_toArray, ← rv.length]; exact (by exact hz)
  refine call_list_rev (s := { s1 with heap := s1.heap.push (revObj a ((its.toArray.size : Int) - 1)) }) (I1.ok.hd hc) ⟨_, Heap.get?_push_size _ rfl, rfl, rfl⟩ (hl.push _) hne hn fun h' tk acc c' hk hS' hi => ?_
  have z : s1.heap.objs.size ≤ (s1.heap.push (revObj a ((its.toArray.size : Int) - 1))).objs.size := by simp [Heap.push]
  have k1 : ∀ b o, s1.heap.get? b = some o → h'.get? b = some o := fun b o e => hk b o (Nat.ne_of_lt (Heap.lt_size e)) (by exact Heap.get?_push_of_some _ e)
  refine ⟨.ref _, upd H1 (s1.heap.push (revObj a ((its.toArray.size : Int) - 1))).objs.size (.lst xs.reverse), I1.laid (t' := tk) k1 z (show ObjOk X.prog X.w _ _ _ (.lst xs.reverse) from ⟨by rw [List.length_reverse]; exact hz, acc.toList, c', RT.vals_rev rv hi, ?_⟩), rfl, q _ (I1.hok.fresh z)⟩
  rw [Array.toArray_toList]; exact (by exact hS')
end
theorem cutL_from_len {α : Type} (xs : List α) (i : Nat) (hi : Option Int) : (cutL xs (some (i : Int)) hi).length ≤ xs.length - i := by
  unfold cutL
  rw [HT.sIx_nat, List.length_take, List.length_drop]
  omega
theorem r_ckw2 {r : List V → List V → Hp → VK → Prop} {t tk : TA} {σ : L2.St} {H : Hp} {Q : VK} (h : t σ H fun vs H1 => tk σ H1 fun zs H2 => r vs zs H2 Q) : tCKw r t tk σ H Q := h
end SH

set_option Elab.async false
set_option linter.all false
set_option maxRecDepth 100000
set_option maxHeartbeats 4000000
/-! SHG: max(xs, default=d), ints -/
namespace SH
open PySem PySem.Spec PyProof.Rows L2
def rMaxDef (K : PySem.W.Frag) : List V → List V → Hp → VK → Prop := fun vs zs H Q => ∃ (a : Addr) (ns : List Int) (d : Int), vs = [V.ref a] ∧ zs = [V.int d] ∧ SqL K H a (ns.map V.int) ∧ (ns = [] → Q (.int d) H) ∧ ∀ m, m ∈ ns → (∀ y, y ∈ ns → y ≤ m) → Q (.int m) H
theorem foldl_max : ∀ (r : List Int) (n : Int), r.foldl max n ∈ n :: r ∧ ∀ y ∈ n :: r, y ≤ r.foldl max n
  | [], n => ⟨by simp, by simp⟩
  | k :: r, n => by
    obtain ⟨h1, h2⟩ := foldl_max r (max n k)
    rw [List.foldl_cons]
    constructor
    · rcases List.mem_cons.mp h1 with e | e
      · rw [e]
        by_cases z : n ≤ k
        · rw [Int.max_eq_right z]; simp
        · rw [Int.max_eq_left (by omega)]; simp
      · simp [e]
    · intro y hy
      have hm := h2 (max n k) (by simp)
      rcases List.mem_cons.mp hy with e | hy
      · omega
      · rcases List.mem_cons.mp hy with e | hy
        · omega
        · exact h2 y (by simp [hy])
theorem depth_ints : ∀ ns : List Int, PyData.depthAll (ns.map PyData.int) = 0
  | [] => by simp [PyData.depthAll]
  | n :: r => by simp [PyData.depthAll, PyData.depth, depth_ints r]
theorem dp_ints {K : PySem.W.Frag} {H : Hp} : ∀ ns : List Int, DpAll K H (ns.map V.int) (ns.map PyData.int)
  | [] => .nil
  | n :: r => .cons (.int n) (dp_ints r)
section
variable {X : Cx}
theorem cr_maxDef (hc : X.calm = true) (hu : X.A.units + 64 < cLine) : CallRK X (.builtin "max") [Str.ofString "default"] (rMaxDef X.K) := by
  intro pins s σ H vs zs us ws Q I r rz h
  obtain ⟨a, ns, d, rfl, rfl, hs, h0, h1⟩ := h
  obtain rfl := Vals.ref1 r
  obtain ⟨w1, rfl, e1⟩ := vals1 rz
  obtain ⟨t, rfl⟩ := e1
  obtain ⟨its, rv, hl, hz⟩ := I.list hs
  obtain ⟨as, hr⟩ := Dp.readsAll I (ns.map PyData.int) _ its (dp_ints ns) rv
  have al : PySem.W.AlikeAll (ns.map PyData.int) := ⟨fun x hx y hy => by
    obtain ⟨i, _, rfl⟩ := List.mem_map.mp hx
    obtain ⟨j, _, rfl⟩ := List.mem_map.mp hy
    rfl, fun x hx => by
    obtain ⟨i, _, rfl⟩ := List.mem_map.mp hx
    intro z; cases z⟩
  refine PySem.W.max_list_default (xs := ns.map PyData.int) (I.ok.hd hc) hl.isList (by simpa using hr) al (by rw [depth_ints]; omega) (fun e h' tk hk => ⟨.int d, H, I.kept hk, ⟨t, rfl⟩, h0 (by simpa using e)⟩) fun y ys i v h' tk bs e hv hR hk => ?_
  cases ns with
  | nil => cases e
  | cons n r =>
    rw [List.map_cons] at e
    cases e
    rw [PySem.W.maxD_ints] at hR
    obtain ⟨m1, m2⟩ := foldl_max r n
    generalize r.foldl max n = m at hR m1 m2
    cases hR
    exact ⟨.int m, H, I.kept hk, ⟨_, rfl⟩, h1 m m1 m2⟩
end
theorem r_ckw {r : List V → List V → Hp → VK → Prop} {t tk : TA} {σ : L2.St} {H : Hp} {Q : VK} (h : t σ H fun vs H1 => tk σ H1 fun zs H2 => r vs zs H2 Q) : tCKw r t tk σ H Q := h
end SH

set_option Elab.async false
set_option linter.all false
set_option maxRecDepth 100000
set_option maxHeartbeats 4000000
/-! SHI: xs[i] op= e, dicts with tuples as keys, int(truth) -/
namespace SH
open PySem PySem.Spec PyProof.Rows L2
section
variable {K : PySem.W.Frag} {σ : L2.St} {H : Hp} {Q : VK} {D : Ends} {to ti te td ty tv : TE} {tget : V → V → Hp → VK → Prop} {tip : TIp} {tset : TSet} {P : Hp → Prop} {d b : Addr} {kvs : List (List Key × V)} {ks : List Key} {v x y : V}
/-- a, b = x, y -/
def kPar2 (i j : Nat) (σ : L2.St) (P : L2.St → Hp → Prop) : List V → Hp → Prop := fun vs H1 => ∃ v w, vs = [v, w] ∧ P ((σ.set i (some v)).set j (some w)) H1
theorem r_par {i j : Nat} {ta : TA} (h : ta σ H (kPar2 i j σ D.nx)) : tPar i j ta D σ H := h
theorem v_par {i j : Nat} {w : V} {σ1 σ2 : L2.St} {R : L2.St → Hp → Prop} (e1 : σ.set i (some v) = σ1) (e2 : σ1.set j (some w) = σ2) (h : R σ2 H) : kPar2 i j σ R [v, w] H := ⟨v, w, rfl, by rw [e1, e2]; exact h⟩
def kPar3 (i j l : Nat) (σ : L2.St) (P : L2.St → Hp → Prop) : List V → Hp → Prop := fun vs H1 => ∃ u v w, vs = [u, v, w] ∧ P (((σ.set i (some u)).set j (some v)).set l (some w)) H1
theorem r_par3 {i j l : Nat} {ta : TA} (h : ta σ H (kPar3 i j l σ D.nx)) : tPar3 i j l ta D σ H := h
theorem v_par3 {i j l : Nat} {u w : V} {σ1 σ2 σ3 : L2.St} {R : L2.St → Hp → Prop} (e1 : σ.set i (some u) = σ1) (e2 : σ1.set j (some v) = σ2) (e3 : σ2.set l (some w) = σ3) (h : R σ3 H) : kPar3 i j l σ R [u, v, w] H := ⟨u, v, w, rfl, by rw [e1, e2, e3]; exact h⟩
theorem r_augS (h : to σ H fun o H1 => ti σ H1 fun i H2 => tget o i H2 fun x H3 => te σ H3 fun y H4 => tip x y H4 fun z H5 => tset o i z H5 fun H6 => D.nx σ H6) : tAugS to ti te tget tip tset D σ H := h
theorem r_dnewT (h : ∀ p, H p = none → Q (.ref p) (upd H p (.dT []))) : tDNewT σ H Q := h
theorem r_dnewK (h : ∀ p, H p = none → Q (.ref p) (upd H p (.dK []))) : tDNewK σ H Q := h
def kDPut (x y v : V) (H3 : Hp) (P : Hp → Prop) : Prop := ∃ a H4, x = .ref a ∧ DPut H3 a y v H4 ∧ P H4
theorem r_dput (h : tv σ H fun v H1 => td σ H1 fun x H2 => ty σ H2 fun y H3 => kDPut x y v H3 (D.nx σ)) : sDPut td ty tv D σ H := h
theorem v_dputT (hd : H d = some (.dT kvs)) (hk : H b = some (.tup (ks.map kV))) (hl : kvs.length < 1000000) (k : P (upd H d (.dT (putK kvs ks v)))) : kDPut (.ref d) (.ref b) v H P := ⟨d, _, rfl, DPut.t hd hk (Nat.lt_trans hl (by decide)), k⟩
def kDGet1 (ty : TE) (σ : L2.St) (Q : VK) : VK := fun x H1 => ∃ a, x = .ref a ∧ IsD H1 a ∧ ty σ H1 fun y H2 => ∃ o, DGet H2 a y o ∧ Q (o.getD .non) H2
theorem r_dget1 (h : td σ H (kDGet1 ty σ Q)) : tDGet1 td ty σ H Q := h
theorem v_dget1 (hd : H d = some (.dT kvs)) (h : ty σ H fun y H2 => ∃ o, DGet H2 d y o ∧ Q (o.getD .non) H2) : kDGet1 ty σ Q (.ref d) H := ⟨d, rfl, .inr ⟨kvs, .inl hd⟩, h⟩
theorem v_dgetT {R : Option V → Prop} (hd : H d = some (.dT kvs)) (hk : H b = some (.tup (ks.map kV))) (q : R (valV kvs ks)) : ∃ o, DGet H d (.ref b) o ∧ R o := ⟨_, DGet.t hd hk, q⟩
def kDGet (x y : V) (H2 : Hp) (Q : VK) : Prop := ∃ a v, x = .ref a ∧ DGet H2 a y (some v) ∧ Q v H2
theorem r_dgetI (h : td σ H fun x H1 => ty σ H1 fun y H2 => kDGet x y H2 Q) : tDGet td ty σ H Q := h
theorem v_dgetI (hd : H d = some (.dT kvs)) (hk : H b = some (.tup (ks.map kV))) (e : valV kvs ks = some v) (q : Q v H) : kDGet (.ref d) (.ref b) H Q := ⟨d, v, rfl, by rw [← e]; exact DGet.t hd hk, q⟩
def kDIn (y x : V) (H2 : Hp) (Q : VK) : Prop := ∃ a o, x = .ref a ∧ DGet H2 a y o ∧ Q (.bl o.isSome) H2
def kDNi (y x : V) (H2 : Hp) (Q : VK) : Prop := ∃ a o, x = .ref a ∧ DGet H2 a y o ∧ Q (.bl (!o.isSome)) H2
theorem r_din (h : ty σ H fun y H1 => td σ H1 fun x H2 => kDIn y x H2 Q) : tDIn ty td σ H Q := h
theorem r_dnotin (h : ty σ H fun y H1 => td σ H1 fun x H2 => kDNi y x H2 Q) : tDNotIn ty td σ H Q := h
theorem v_din (hd : H d = some (.dT kvs)) (hk : H b = some (.tup (ks.map kV))) (q : Q (.bl (valV kvs ks).isSome) H) : kDIn (.ref b) (.ref d) H Q := ⟨d, _, rfl, DGet.t hd hk, q⟩
theorem v_dnotin (hd : H d = some (.dT kvs)) (hk : H b = some (.tup (ks.map kV))) (q : Q (.bl (!(valV kvs ks).isSome)) H) : kDNi (.ref b) (.ref d) H Q := ⟨d, _, rfl, DGet.t hd hk, q⟩
end
/-- int(truth) or int(int) -/
def rInt1 : List V → Hp → VK → Prop := fun xs H Q => (∃ i, xs = [.int i] ∧ Q (.int i) H) ∨ ∃ k, xs = [.bl k] ∧ Q (.int (if k then 1 else 0)) H
section
variable {X : Cx} {H : Hp} {Q : VK} {i : Int} {b : Bool}
theorem cInt1 : CallR X (.type "int") rInt1 := call_int1
theorem w_intI (k : Q (.int i) H) : rInt1 [.int i] H Q := .inl ⟨i, rfl, k⟩
theorem w_intB (k : Q (.int (b.toNat : Nat)) H) : rInt1 [.bl b] H Q := .inr ⟨b, rfl, by cases b <;> exact k⟩
end
/-! a dict of answers -/
def pk (a b : Nat) : List Key := [.inl (a : Int), .inl (b : Int)]
theorem pk_map {a b : Nat} : (pk a b).map kV = [.int (a : Nat), .int (b : Nat)] := rfl
theorem pk_inj {a b c d : Nat} : pk a b = pk c d ↔ a = c ∧ b = d := by
  unfold pk
  constructor
  · intro h
    injection h with h1 h2
    injection h2 with h2 _
    injection h1 with h1
    injection h2 with h2
    exact ⟨by omega, by omega⟩
  · rintro ⟨rfl, rfl⟩; rfl
/-- what is known behind so many answers -/
def kn (es : List (T3 Nat Nat Bool)) : List (List Key × V) := es.foldl (fun acc e => putK acc (pk e.a e.b) (.bl e.c)) []
theorem kn_app {es : List (T3 Nat Nat Bool)} {e : T3 Nat Nat Bool} : kn (es ++ [e]) = putK (kn es) (pk e.a e.b) (.bl e.c) := by simp [kn]
theorem kn_len (es : List (T3 Nat Nat Bool)) : (kn es).length ≤ es.length := by
  have : ∀ (es : List (T3 Nat Nat Bool)) (acc : List (List Key × V)), (es.foldl (fun acc e => putK acc (pk e.a e.b) (.bl e.c)) acc).length ≤ acc.length + es.length := by
    intro es
    induction es with
    | nil => intro acc; simp
    | cons e es ih => intro acc; have := ih (putK acc (pk e.a e.b) (.bl e.c)); have := length_putK acc (pk e.a e.b) (.bl e.c); simp only [List.foldl_cons, List.length_cons]; omega
  simpa [kn] using this es []
theorem kn_val {es : List (T3 Nat Nat Bool)} {f : Nat → Nat → Bool} (h : ∀ e ∈ es, e.c = f e.a e.b) (a b : Nat) [Decidable (∃ e ∈ es, e.a = a ∧ e.b = b)] : valV (kn es) (pk a b) = if (∃ e ∈ es, e.a = a ∧ e.b = b) then some (.bl (f a b)) else none := by
  have key : ∀ (es : List (T3 Nat Nat Bool)), (∀ e ∈ es, e.c = f e.a e.b) → ((∃ e ∈ es, e.a = a ∧ e.b = b) → valV (kn es) (pk a b) = some (.bl (f a b))) ∧ ((¬ ∃ e ∈ es, e.a = a ∧ e.b = b) → valV (kn es) (pk a b) = none) := by
    intro es h
    obtain ⟨n, hn⟩ : ∃ n, n = es.length := ⟨_, rfl⟩
    induction n generalizing es with
    | zero =>
      have : es = [] := List.length_eq_zero_iff.mp hn.symm
      subst this
      exact ⟨fun ⟨e, he, _⟩ => by simp at he, fun _ => rfl⟩
    | succ n ih =>
      obtain ⟨fs, e, rfl⟩ : ∃ fs e, es = fs ++ [e] := ⟨es.dropLast, es.getLast (by intro z; subst z; simp at hn), (List.dropLast_concat_getLast _).symm⟩
      obtain ⟨i1, i2⟩ := ih fs (fun x hx => h x (by simp [hx])) (by simp at hn; omega)
      rw [kn_app, valV_put]
      have he := h e (by simp)
      by_cases z : pk a b = pk e.a e.b
      · obtain ⟨z1, z2⟩ := pk_inj.mp z
        subst z1; subst z2
        simp only [if_true]
        exact ⟨fun _ => by rw [he], fun n => (n ⟨e, by simp, rfl, rfl⟩).elim⟩
      · rw [if_neg z]
        have z' : ¬ (e.a = a ∧ e.b = b) := fun ⟨p, q⟩ => z (pk_inj.mpr ⟨p.symm, q.symm⟩)
        refine ⟨fun ⟨x, hx, q⟩ => i1 ?_, fun n => i2 fun ⟨x, hx, q⟩ => n ⟨x, by simp [hx], q⟩⟩
        rcases List.mem_append.mp hx with hx | hx
        · exact ⟨x, hx, q⟩
        · rw [List.mem_singleton] at hx; subst hx; exact (z' q).elim
  by_cases c : ∃ e ∈ es, e.a = a ∧ e.b = b
  · rw [if_pos c]; exact (key es h).1 c
  · rw [if_neg c]; exact (key es h).2 c
theorem kn_get {es : List (T3 Nat Nat Bool)} {f : Nat → Nat → Bool} (h : ∀ e ∈ es, e.c = f e.a e.b) {a b : Nat} (hm : ∃ e ∈ es, e.a = a ∧ e.b = b) : valV (kn es) (pk a b) = some (.bl (f a b)) := by
  classical
  rw [kn_val h, if_pos hm]
theorem kn_none {es : List (T3 Nat Nat Bool)} {f : Nat → Nat → Bool} (h : ∀ e ∈ es, e.c = f e.a e.b) {a b : Nat} (hm : ¬ ∃ e ∈ es, e.a = a ∧ e.b = b) : valV (kn es) (pk a b) = none := by
  classical
  rw [kn_val h, if_neg hm]
end SH

set_option Elab.async false
set_option linter.all false
set_option maxRecDepth 100000
set_option maxHeartbeats 4000000
/-! SHJ: (k, p) >= (k', q); t[:2] -/
namespace SH
open PySem PySem.Spec PySem.W PyProof.Rows L2
theorem dataLt_pair {k p k' p' : Int} : dataLt (.tuple [.int k, .int p]) (.tuple [.int k', .int p']) = decide (k < k' ∨ (k = k' ∧ p < p')) := by
  unfold dataLt
  simp only [keyToks, keyToksAll, List.cons_append, List.nil_append]
  rw [lex_self (O := itemOrd)]
  by_cases e : k = k'
  · subst e
    rw [lex_self (O := itemOrd), lex_self (O := itemOrd)]
    by_cases e2 : p = p'
    · subst e2
      rw [lex_self (O := itemOrd), lex_self (O := itemOrd)]
      simp [PyProof.Rows.lexLt]
    · rw [lex_diff (O := itemOrd) (by simpa using e2)]
      show decide (p < p') = _
      exact decide_eq_decide.mpr (by omega)
  · rw [lex_diff (O := itemOrd) (by simpa using e)]
    show decide (k < k') = _
    exact decide_eq_decide.mpr (by omega)
def aGeT (K : PySem.W.Frag) : R2 := fun x y H Q => ∃ a b k p k' p', x = .ref a ∧ y = .ref b ∧ SqT K H a [.int k, .int p] ∧ SqT K H b [.int k', .int p'] ∧ Q (.bl (decide (¬ (k < k' ∨ (k = k' ∧ p < p'))))) H
theorem oGeT {X : Cx} (hu : X.A.units + 64 < cLine) : OpR X (compareOp .GtE) (aGeT X.K) := by
  intro pins s σ H x y v u Q I rx ry h
  obtain ⟨a, b, k, p, k', p', rfl, rfl, h1, h2, q⟩ := h
  obtain ⟨as, r1⟩ := Dp.reads I (.tuple [.int k, .int p]) _ v (.tup h1 (.cons (.int k) (.cons (.int p) .nil))) rx
  obtain ⟨bs, r2⟩ := Dp.reads I (.tuple [.int k', .int p']) _ u (.tup h2 (.cons (.int k') (.cons (.int p') .nil))) ry
  refine ge_data r1 r2 rfl (fun z => by cases z) ?_ ⟨.bl _, H, I, rfl, ?_⟩
  · have : (PyData.tuple [.int k, .int p]).depth ≤ 64 := by show 1 ≤ 64; decide
    omega
  · rw [dataLt_pair]
    have e : (!decide (k < k' ∨ (k = k' ∧ p < p'))) = decide (¬ (k < k' ∨ (k = k' ∧ p < p'))) := decide_not.symm
    rw [e]
    exact q
theorem v_geT {K : PySem.W.Frag} {H : Hp} {Q : VK} {a b : Addr} {k p k' p' : Int} (h1 : SqT K H a [.int k, .int p]) (h2 : SqT K H b [.int k', .int p']) (q : Q (.bl (decide (¬ (k < k' ∨ (k = k' ∧ p < p'))))) H) : aGeT K (.ref a) (.ref b) H Q := ⟨a, b, k, p, k', p', rfl, rfl, h1, h2, q⟩
def aGtT (K : PySem.W.Frag) : R2 := fun x y H Q => ∃ a b k p k' p', x = .ref a ∧ y = .ref b ∧ SqT K H a [.int k, .int p] ∧ SqT K H b [.int k', .int p'] ∧ Q (.bl (decide (k' < k ∨ (k' = k ∧ p' < p)))) H
theorem oGtT {X : Cx} (hu : X.A.units + 64 < cLine) : OpR X (compareOp .Gt) (aGtT X.K) := by
  intro pins s σ H x y v u Q I rx ry h
  obtain ⟨a, b, k, p, k', p', rfl, rfl, h1, h2, q⟩ := h
  obtain ⟨as, r1⟩ := Dp.reads I (.tuple [.int k, .int p]) _ v (.tup h1 (.cons (.int k) (.cons (.int p) .nil))) rx
  obtain ⟨bs, r2⟩ := Dp.reads I (.tuple [.int k', .int p']) _ u (.tup h2 (.cons (.int k') (.cons (.int p') .nil))) ry
  refine gt_data r1 r2 rfl (fun z => by cases z) ?_ ⟨.bl _, H, I, rfl, ?_⟩
  · have : (PyData.tuple [.int k, .int p]).depth ≤ 64 := by show 1 ≤ 64; decide
    omega
  · rw [dataLt_pair]
    exact q
theorem v_gtT {K : PySem.W.Frag} {H : Hp} {Q : VK} {a b : Addr} {k p k' p' : Int} (h1 : SqT K H a [.int k, .int p]) (h2 : SqT K H b [.int k', .int p']) (q : Q (.bl (decide (k' < k ∨ (k' = k ∧ p' < p)))) H) : aGtT K (.ref a) (.ref b) H Q := ⟨a, b, k, p, k', p', rfl, rfl, h1, h2, q⟩
/-- t[:2] of three -/
theorem v_slT2 {K : PySem.W.Frag} {H : Hp} {Q : VK} {a : Addr} {x y z : V} (h : SqT K H a [x, y, z]) (q : ∀ p, H p = none → Q (.ref p) (upd H p (.tup [x, y]))) : rSlT K (.ref a) none (some 2) H Q :=
  ⟨a, _, rfl, h, by rintro ⟨_, h⟩; exact absurd (show (2 : Nat) = 3 from h) (by decide), q⟩
end SH

set_option Elab.async false
set_option linter.all false
set_option maxRecDepth 100000
set_option maxHeartbeats 4000000
/-! SHK: d.update(d2), keys that are tuples; a method whose class is known at the run alone -/
namespace SH
open PySem PySem.Spec PyProof.Rows L2
/-- d.update(d2) -/
def mergK (kvs more : List (List Key × V)) : List (List Key × V) := more.foldl (fun acc p => putK acc p.1 p.2) kvs
theorem mergK_len : ∀ (more kvs : List (List Key × V)), (mergK kvs more).length ≤ kvs.length + more.length
  | [], kvs => by simp [mergK]
  | p :: ps, kvs => by
    have h1 := mergK_len ps (putK kvs p.1 p.2)
    have h2 := length_putK kvs p.1 p.2
    show (mergK (putK kvs p.1 p.2) ps).length ≤ _
    rw [List.length_cons]; omega
theorem mergK_val : ∀ (more kvs : List (List Key × V)) (k : List Key), (∃ p ∈ more, p.1 = k ∧ valV (mergK kvs more) k = some p.2) ∨ ((∀ p ∈ more, p.1 ≠ k) ∧ valV (mergK kvs more) k = valV kvs k)
  | [], kvs, k => .inr ⟨by simp, rfl⟩
  | p :: ps, kvs, k => by
    show (∃ q ∈ p :: ps, q.1 = k ∧ valV (mergK (putK kvs p.1 p.2) ps) k = some q.2) ∨ ((∀ q ∈ p :: ps, q.1 ≠ k) ∧ valV (mergK (putK kvs p.1 p.2) ps) k = valV kvs k)
    rcases mergK_val ps (putK kvs p.1 p.2) k with ⟨q, hq, e1, e2⟩ | ⟨h1, h2⟩
    · exact .inl ⟨q, List.mem_cons_of_mem _ hq, e1, e2⟩
    · rw [valV_put] at h2
      by_cases e : k = p.1
      · rw [if_pos e] at h2
        exact .inl ⟨p, List.mem_cons_self .., e.symm, h2⟩
      · rw [if_neg e] at h2
        refine .inr ⟨fun q hq => ?_, h2⟩
        rcases List.mem_cons.mp hq with rfl | hq
        · exact fun z => e z.symm
        · exact h1 q hq
theorem mem_putK {kvs : List (List Key × V)} {k : List Key} {v : V} {p : List Key × V} (h : p ∈ putK kvs k v) : p = (k, v) ∨ p ∈ kvs := by
  unfold putK at h
  split at h
  · obtain ⟨q, hq, e⟩ := List.mem_map.mp h
    by_cases z : q.1 = k
    · rw [if_pos z] at e
      exact .inl (by rw [← e, z])
    · rw [if_neg z] at e
      exact .inr (by rw [← e]; exact hq)
  · rcases List.mem_append.mp h with h | h
    · exact .inr h
    · exact .inl (List.mem_singleton.mp h)
theorem putK_same {kvs : List (List Key × V)} {k : List Key} {v : V} : (k, v) ∈ putK kvs k v := by
  unfold putK
  split
  · rename_i h
    obtain ⟨q, hq, e⟩ := List.any_eq_true.mp h
    exact List.mem_map.mpr ⟨q, hq, by rw [if_pos (of_decide_eq_true e), of_decide_eq_true e]⟩
  · exact List.mem_append_right _ (List.mem_singleton.mpr rfl)
theorem putK_other {kvs : List (List Key × V)} {k : List Key} {v : V} {p : List Key × V} (h : p ∈ kvs) (n : p.1 ≠ k) : p ∈ putK kvs k v := by
  unfold putK
  split
  · exact List.mem_map.mpr ⟨p, h, by rw [if_neg n]⟩
  · exact List.mem_append_left _ h
theorem KT_all {H : Hp} : ∀ {more : List (List Key × V)} {ps : List (List Key × Addr × Value)} {kvs : List (List Key × V)} {xs : List (List Key × Addr × Value)}, KT H kvs xs → KT H more ps → KT H (mergK kvs more) (storedAllH xs ps)
  | _, _, kvs, xs, h, .nil => h
  | _, _, kvs, xs, h, .cons (a := p) (b := q) (l₁ := more) (l₂ := ps) hq t => by
    obtain ⟨e1, e2, e3⟩ := hq
    show KT H (mergK (putK kvs p.1 p.2) more) (storedAllH (storedH xs q.1 q.2.1 q.2.2) ps)
    exact KT_all (by rw [← e1]; exact h.put p.1 e2 e3) t
def rUpdT : V → List V → Hp → VK → Prop := fun x xs H Q => ∃ (a b : Addr) (kvs more : List (List Key × V)), x = .ref a ∧ xs = [.ref b] ∧ H a = some (.dT kvs) ∧ H b = some (.dT more) ∧ a ≠ b ∧ kvs ≠ [] ∧ kvs.length + more.length ≤ 1000000 ∧ Q .non (upd H a (.dT (mergK kvs more)))
theorem mt_updT {X : Cx} (hu : X.A.units + 1 < cLine) : MtR X "dict.update" rUpdT := by
  intro pins s σ H x xs v us Q I rx rxs h
  obtain ⟨a, b, kvs, more, rfl, rfl, ha, hb, hab, hne, hl, q⟩ := h
  cases rx
  obtain rfl := Vals.ref1 rxs
  obtain ⟨z, hd, xs', rel, dd⟩ := dt_of I.hok ha
  obtain ⟨z2, hd2, ps, rel2, dd2⟩ := dt_of I.hok hb
  have e1 := Paired.length rel
  have e2 := Paired.length rel2
  have hz : xs'.length + ps.length ≤ sizeLine := by rw [← e1, ← e2]; exact Nat.le_trans hl (by decide)
  refine call_update_dictH (knd := tupleKind (mixKind X.prog X.w)) (tupleKind_room_in1 hu) hab hd2 dd dd2 (.inl fun e => hne ?_) hz fun h' dd' _ hs => ?_
  · rw [e] at e1
    exact List.length_eq_zero_iff.mp e1
  · obtain ⟨o, es, ep, hq, h2, h3, h4, _, h5⟩ := dd'
    have hml : (mergK kvs more).length ≤ sizeLine := Nat.le_trans (mergK_len more kvs) (Nat.le_trans hl (by decide))
    have I2 : Inv X pins σ (upd H a (.dT (mergK kvs more))) { s with heap := h' } :=
      d_write (t' := s.toks) I (by rw [ha]; exact True.intro) hs ⟨o, hq⟩ ⟨hml, hd, _, (KT_all rel rel2).keeps (fun c ys ec => (by rw [upd_ne (ne_of ec ha (fun z => nomatch z))]; exact ec)), o, es, ep, hq, h2, h3, h4, h5⟩
    exact ⟨.non, _, I2, rfl, q⟩
theorem w_upd {H : Hp} {Q : VK} {a b : Addr} {kvs more : List (List Key × V)} (ha : H a = some (.dT kvs)) (hb : H b = some (.dT more)) (hab : a ≠ b) (hne : kvs ≠ []) (hl : kvs.length + more.length ≤ 1000000) (q : Q .non (upd H a (.dT (mergK kvs more)))) : rUpdT (.ref a) [.ref b] H Q :=
  ⟨a, b, kvs, more, rfl, rfl, ha, hb, hab, hne, hl, q⟩
theorem ty_dT {K : PySem.W.Frag} {H : Hp} {a : Addr} {kvs : List (List Key × V)} (ha : H a = some (.dT kvs)) : tyV K "dict" (.ref a) H := .inr (.inr (.inl ⟨rfl, .inr ⟨kvs, ha⟩⟩))
/-- either rule will do -/
theorem peOr {X : Cx} {e : Expr} {t u : TE} (h : PE X e t) (k : PE X e u) : PE X e (fun σ H Q => t σ H Q ∨ u σ H Q) := ⟨fun pins s σ H Q I q => q.elim (h.run pins s σ H Q I) (k.run pins s σ H Q I)⟩
/-- either rule will do, by name -/
def tOrE (t u : TE) : TE := fun σ H Q => t σ H Q ∨ u σ H Q
theorem peOrE {X : Cx} {e : Expr} {t u : TE} (h : PE X e t) (k : PE X e u) : PE X e (tOrE t u) := peOr h k
theorem r_orL {t u : TE} {σ : L2.St} {H : Hp} {Q : VK} (h : t σ H Q) : tOrE t u σ H Q := .inl h
theorem r_orR {t u : TE} {σ : L2.St} {H : Hp} {Q : VK} (h : u σ H Q) : tOrE t u σ H Q := .inr h
/-- an if by two tests, whose ways meet again -/
theorem r_waJ {c : Prop} [Decidable c] {te : TT} {t1 t2 : TS} {D : Ends} {σ : L2.St} {H : Hp} (W : L2.St → Hp → Prop) (hk : ∀ σ' H', W σ' H' → D.nx σ' H')
    (h1 : c → ∀ N : L2.St → Hp → Prop, (∀ σ' H', W σ' H' → N σ' H') → te σ H fun b H1 => if b = true then t1 { D with nx := N } σ H1 else t2 { D with nx := N } σ H1) (h2 : ¬ c → ∀ N : L2.St → Hp → Prop, (∀ σ' H', W σ' H' → N σ' H') → t2 { D with nx := N } σ H) :
    if decide c = true then te σ H (fun b H1 => if b = true then t1 D σ H1 else t2 D σ H1) else if false = true then t1 D σ H else t2 D σ H := r_w (fun h => h1 h D.nx hk) fun h => r_F (h2 h D.nx hk)
theorem r_naJ {c : Prop} [Decidable c] {te : TT} {t1 t2 : TS} {D : Ends} {σ : L2.St} {H : Hp} (W : L2.St → Hp → Prop) (hk : ∀ σ' H', W σ' H' → D.nx σ' H')
    (h1 : ¬ c → ∀ N : L2.St → Hp → Prop, (∀ σ' H', W σ' H' → N σ' H') → te σ H fun b H1 => if b = true then t1 { D with nx := N } σ H1 else t2 { D with nx := N } σ H1) (h2 : c → ∀ N : L2.St → Hp → Prop, (∀ σ' H', W σ' H' → N σ' H') → t2 { D with nx := N } σ H) :
    if (!decide c) = true then te σ H (fun b H1 => if b = true then t1 D σ H1 else t2 D σ H1) else if false = true then t1 D σ H else t2 D σ H := r_nw (fun h => h1 h D.nx hk) fun h => r_F (h2 h D.nx hk)
theorem inV_nats {p : Nat} {xs : List Nat} : inV (.int (p : Nat)) (xs.map fun n : Nat => V.int n) = decide (p ∈ xs) := by
  unfold inV
  rw [List.any_map]
  induction xs with
  | nil => simp
  | cons x xs ih =>
    rw [List.any_cons, ih]
    by_cases e : p = x
    · subst e; simp [eqV]
    · have e2 : ¬ ((x : Int) = (p : Int)) := by omega
      simp [eqV, e, e2]
theorem flat_nats {xs : List Nat} : (xs.map fun n : Nat => V.int n).all flatV = true := by
  rw [List.all_map]
  exact List.all_eq_true.mpr fun _ _ => rfl
section
variable {K : PySem.W.Frag} {H : Hp} {Q : VK} {a : Addr} {xs : List Nat} {p : Nat}
theorem v_inN (h : SqL K H a (xs.map fun n : Nat => V.int n)) (k : Q (.bl (decide (p ∈ xs))) H) : rIn K false (.int (p : Nat)) (.ref a) H Q := ⟨a, _, rfl, .inl h, rfl, flat_nats, by rw [inV_nats]; exact k⟩
theorem v_niN (h : SqL K H a (xs.map fun n : Nat => V.int n)) (k : Q (.bl (!decide (p ∈ xs))) H) : rIn K true (.int (p : Nat)) (.ref a) H Q := ⟨a, _, rfl, .inl h, rfl, flat_nats, by rw [inV_nats]; exact k⟩
end
/-! dicts of numbers -/
theorem v_dputK {H : Hp} {P : Hp → Prop} {d : Addr} {kvs : List (Key × V)} {i : Int} {v : V} (hd : H d = some (.dK kvs)) (hl : kvs.length < 1000000) (k : P (upd H d (.dK (putK kvs (.inl i) v)))) : kDPut (.ref d) (.int i) v H P := ⟨d, _, rfl, DPut.k (k := .inl i) hd (Nat.lt_trans hl (by decide)), k⟩
theorem v_dgetK {H : Hp} {Q : VK} {d : Addr} {kvs : List (Key × V)} {i : Int} {v : V} (hd : H d = some (.dK kvs)) (e : valV kvs (.inl i) = some v) (q : Q v H) : kDGet (.ref d) (.int i) H Q := ⟨d, v, rfl, by rw [← e]; exact DGet.k (k := .inl i) hd, q⟩
/-! isinstance of an own class -/
structure IsiC (K : PySem.W.Frag) (C : Addr) : Prop where
  ca : PySem.W.findIn K (.ref C) "__class__" = some (some (.builtin "object.__class__"))
  cn : PySem.W.specialIn K (.builtin "object.__class__") "__get__" = some (some (.builtin "getset_descriptor.__get__"))
  ct : PySem.W.takesIn K (.builtin "object.__class__") = some true
  cm : PySem.W.mroIn K C (.type "object") = some true
theorem isi_ins {K : PySem.W.Frag} {H : Hp} {Q : VK} {a C D dx : Addr} {fs : List (Str × V)} {b : Bool} (ho : H a = some (.ins C dx fs)) (cl : Cls K C) (i : IsiC K C) (kt : PySem.W.kitOne K (.ref C) (.ref D) = some b) (k : Q (.bl b) H) : rIsi K [.ref a, .ref D] H Q :=
  v_isi (.own D) (.base (.ins ho cl i.ca i.cn i.ct i.cm)) kt k
end SH

set_option Elab.async false
set_option linter.all false
set_option maxRecDepth 100000
set_option maxHeartbeats 4000000
/-! SHN: C(e, .., k = v): an instance made with keywords -/
namespace SH
open PySem PySem.Spec PyProof.Rows L2
structure CalCK (P : Program) (w : World) (K : PySem.W.Frag) (mg : Str → Option Value) (base : Heap) (CX : CXT) (k : Nat) (x : Str) (C : Addr) (n : Nat) (ks : List Str) (gV : List V → List V → List V) (sp : Sp) : Prop where
  ex : ∃ (f : Addr) (fd : FuncData) (ps : List Str) (g : List Value → List Value → List Value), mg x = some (.ref C) ∧ L2.Mk K C f ∧ KBn K fd ps (n + 1) ks g gV ∧ FnOk P w K mg base CX k f fd ps sp
section
variable {X : Cx} {CX : CXT} {k j n : Nat} {C : Addr} {sp : Sp} {gV : List V → List V → List V} {ks : List Str} {E : XK} {x : Str} {p pos : Pos} {e : Expr} {es : List Expr} {kws : List Keyword} {t tk : TA}
theorem pe_makeKF (c : CalCK X.prog X.w X.K X.mg X.base CX j x C n ks gV sp) (hr : Room k X.A) (hg : Gl X x) (hx : Passes CX X E) (ha : PA X (e :: es) t) (hkw : PK X kws tk) (hk : j + 1 ≤ k := by decide)
    (hall : (backToKw pos (keywordEach kws X.env)).all (·.1.isSome) = true := by rfl) (hks : (backToKw pos (keywordEach kws X.env)).filterMap (·.1) = ks := by rfl)
    (hdb : (x == ("__debug__" : Str)) = false := by decide) (he : starEach (e :: es) X.env = (false, eval e X.env) :: starEach es X.env := by rfl)
    (hpl : ((backTo pos (starEach (e :: es) X.env)).any (·.1) || (backToKw pos (keywordEach kws X.env)).any (·.1.isNone)) = false := by rfl) :
    PE X (.Call (.Name x p) (e :: es) kws pos) (tMakeN C n ks.length sp gV E t tk) := by
  obtain ⟨f, fd, ps, g, h1, h2, h3, h5⟩ := c.ex
  exact pe_makeN h2 h5 (hr.mono hk) hg h1 h3 hx ha hkw hall hks hdb he hpl
def kMakeN (C : Addr) (n m : Nat) (sp : Sp) (gV : List V → List V → List V) (E : XK) (Q : VK) (vs zs : List V) (H2 : Hp) : Prop := vs.length = n ∧ zs.length = m ∧
  ∀ x dx, H2 x = none → H2 dx = none → dx ≠ x → sp (gV (.ref x :: vs) zs) (upd (upd H2 dx (.own x)) x (.ins C dx [])) (fun v H3 => v = .non ∧ Q (.ref x) H3) E
theorem r_makeN {C : Addr} {n m : Nat} {σ : L2.St} {H : Hp} {Q : VK} (h : t σ H fun vs H1 => tk σ H1 fun zs H2 => kMakeN C n m sp gV E Q vs zs H2) : tMakeN C n m sp gV E t tk σ H Q := h
end
/-! a name of one's own that holds a def of the module -/
section
variable {X : Cx} {k j i : Nat} {f : Addr} {sp : Sp} {x : Str} {p pos : Pos} {e : Expr} {es : List Expr} {t : TA}
theorem pe_callLF (c : Held X.prog X.w X.K X.mg X.base j f sp) (hr : Room k X.A) (hN : X.N[i]? = some x) (hv : Vis X.env.scope x) (ha : PA X (e :: es) t) (hk : j ≤ k := by decide)
    (hdb : (x == ("__debug__" : Str)) = false := by decide) (hcd : (x == ("__classdict__" : Str)) = false := by decide)
    (he : starEach (e :: es) X.env = (false, eval e X.env) :: starEach es X.env := by rfl) (hpl : (backTo pos (starEach es X.env)).any (·.1) = false := by rfl) : PE X (.Call (.Name x p) (e :: es) [] pos) (tCallL i f sp [] (fun _ _ _ => False) t) := by
  obtain ⟨fd, ps, F, h1, h2⟩ := c.ex
  exact pe_callL F (hr.mono hk) hN hv h1 h2 .nil (fun _ _ _ _ _ _ _ z => z.elim) ha hdb hcd he hpl
theorem r_callL {σ : L2.St} {H : Hp} {Q : VK} {E : XK} (hs : σ[i]? = some (some (.ref f))) (k : t σ H fun vs H1 => sp (vs ++ []) H1 Q E) : tCallL i f sp [] E t σ H Q := ⟨hs, k⟩
end
end SH

set_option Elab.async false
set_option linter.all false
set_option maxRecDepth 100000
set_option maxHeartbeats 4000000
/-! SHT: set(xs), xs a list of ints -/
namespace SH
open PySem PySem.Spec PyProof.Rows L2
section
variable {P : Program} {w : World} {A : Around} {E : Value → Shared → Prop} {s : Shared}
abbrev set0O (w : World) : Obj := { cls := .type "set", dict := none, data := .set #[] 0 (.fresh 0 0 (!w.params.followText "set-order")) }
set_option maxHeartbeats 8000000 in
theorem call_set_lst {l : Addr} {items : Array Value} (ns : List Int) {Q : Value → Shared → Prop} (hh : A.handled = none) (hl : s.heap.IsList l items) (hit : IntsAre items.toList ns) (hb : ns.length + 1 < scanBound)
    (k : ∀ (h' : Heap) (tk c : Nat), SetR w h' s.heap.objs.size (fun j => decide (j ∈ ns)) c → c ≤ ns.length → (∀ b o, s.heap.get? b = some o → h'.get? b = some o) → Q (.ref s.heap.objs.size) { s with heap := h', toks := tk }) :
    wpAny (model P w) A (call (.type "set") [.ref l]) Q E s := by
  have hisz : items.size = ns.length := by have q := IntsAre.length hit; rw [Array.length_toList] at q; exact q
  obtain ⟨c, tl, hmro⟩ := F.called_set.mro; have hmade := F.called_set.made; have hsub := F.called_set.sub
  refine wpAny_call (codeAny_of_tree ?_); show wpAny _ _ (callAny (.type "set") _) _ _ _
  refine wpAny_pure ⟨Code.quiet_builtin _ (by decide +kernel), codeAny_builtin F.entry_type_call ?_⟩; rw [Around.under_plain (weight_type_call_type "set" [.ref l] []) rfl]
  have h1 := F.called_set.notType; have h2 := F.called_set.canCreate; have hct := F.typeCall_set_1 (.ref l)
  (repeat (any_goals (first | assumption | wp_step)))
  refine codeAny_mono (code_set_led1 (.ref l) (E := E) (Q₁ := fun obj s1 => obj = .ref s.heap.objs.size ∧ s1 = { s with heap := s.heap.push (set0O w) }) ⟨rfl, rfl⟩) fun r s1 hr => ?_
  match r, hr with
  | .error e, hr => exact hr
  | .ok .next, hr => exact hr.elim
  | .ok .brk, hr => exact hr.elim
  | .ok .cont, hr => exact hr.elim
  | .ok (.ret obj), hr =>
    obtain ⟨e1, e2⟩ := hr; subst e1; subst e2
    have hS : (s.heap.push (set0O w)).get? s.heap.objs.size = some (set0O w) := Heap.get?_push_size _ rfl
    have hT : Shared.TypeIs { s with heap := s.heap.push (set0O w) } (.ref s.heap.objs.size) "set" := ⟨_, hS, rfl⟩
    have hli := F.called_set.init.lookup; have hbi := F.called_set.init.bind (.ref s.heap.objs.size)
    (repeat (any_goals (first | assumption | wp_step)))
    refine codeAny_mono (codeAny_call_builtin (R := wants (fun r s2 => r = .none ∧ ∃ h' tk c, s2 = { s with heap := h', toks := tk } ∧ SetR w h' s.heap.objs.size (fun j => decide (j ∈ ns)) c ∧ c ≤ ns.length ∧ (∀ b o, s.heap.get? b = some o → h'.get? b = some o)) E) F.called_set.init.plain F.entry_set_init (check_set_init_1 hT ?_)) fun r2 s2 hr2 => ?_
    · obtain ⟨⟨ocls, odict, odata, oslots⟩, hol, hcl, nl, hdl⟩ := id hl
      simp only at hcl hdl; subst hcl; subst hdl
      have hol' : (s.heap.push (set0O w)).get? l = some { cls := .type "list", dict := odict, data := .seq items nl, slots := oslots } := Heap.get?_push_of_some _ hol
      have hsls := F.sub_list_set; have hslf := F.sub_list_frozenset
      have hne : (Value.type "list" == Value.type "dict") = false := by decide
      have hl1 : (s.heap.push (set0O w)).IsList l items := ⟨_, hol', rfl, nl, rfl⟩
      unfold Builtin.«set.__init__» noKeywords; unfold Builtin.Frozenset.updateFrom
      generalize hPI : pyIter = PI
      wp_walk; subst hPI
      refine wpAny_pyIter_list hl1 ?_; refine wpAny_bind (wpAny_runValue ?_)
      have hlS : l < s.heap.objs.size := Heap.lt_size hol; have hh3 : A.in1.in1.in1.handled = none := by simp [hh]
      have hz1 : (s.heap.push (set0O w)).objs.size = s.heap.objs.size + 1 := Heap.size_push ..
      have hneI : (s.heap.push (set0O w)).objs.size ≠ l := by rw [hz1]; exact Nat.ne_of_gt (Nat.lt_succ_of_lt hlS)
      have hSf : s.heap.objs.size ∉ [(s.heap.push (set0O w)).objs.size, l] := by rw [hz1]; simp only [List.mem_cons, List.not_mem_nil, or_false, not_or]; exact ⟨Nat.ne_of_lt (Nat.lt_succ_self _), Nat.ne_of_gt hlS⟩
      have hval : ∀ (i : Nat) (v : Value), items[i]? = some v → ∃ k t, ns[i]? = some k ∧ v = .int k t := fun i v hv => by
        have hi : i < ns.length := by have := (Array.getElem?_eq_some_iff.mp hv).1; omega
        obtain ⟨t, e⟩ := PyProof.Rows.IntsAre.int_at hit i v (by rw [Array.getElem?_toList]; exact hv)
        exact ⟨ns[i], t, List.getElem?_eq_getElem hi, by rw [e, List.getD_eq_getElem?_getD, List.getElem?_eq_getElem hi] <;> rfl⟩
      refine set_update_ints ((Walks.list (prog := P) (w := w) hh3 _ l hneI.symm items).toS) s.heap.objs.size hSf ns hisz hb hval (items.size - 0) 0 _ (by omega) (Nat.zero_le _) ⟨⟨_, Heap.get?_push_size _ rfl, rfl, rfl⟩, hl1.push _⟩ ⟨0, Nat.le_refl 0, setR_new_at (Heap.get?_push_of_some _ hS)⟩ ?_
      intro s' c' hm hc' hS'
      obtain ⟨h', g2, d', tk', os'⟩ := s'
      obtain rfl : g2 = s.gens := hm.gens
      obtain rfl : d' = s.drawn := hm.drawn
      obtain rfl : os' = s.os := hm.os
      show wpAny _ _ _ _ _ _; refine wpAny_pure ?_; show wpAny _ _ (ret Value.none) _ _ _
      rw [hisz] at hc'
      refine wpAny_pure ⟨rfl, h', tk', c', rfl, hS', hc', fun b o e => hm.heap b o ?_ (Heap.get?_push_of_some _ (Heap.get?_push_of_some _ e))⟩
      have hb0 : b < s.heap.objs.size := Heap.lt_size e
      rw [hz1]; simp only [List.mem_cons, List.not_mem_nil, or_false, not_or]; exact ⟨Nat.ne_of_lt hb0, Nat.ne_of_lt (Nat.lt_succ_of_lt hb0)⟩
    · match r2, hr2 with
      | .error e, hr2 => exact hr2
      | .ok .next, hr2 => exact hr2.elim
      | .ok .brk, hr2 => exact hr2.elim
      | .ok .cont, hr2 => exact hr2.elim
      | .ok (.ret r), hr2 =>
        obtain ⟨e1, h', tk, c', e2, hS', hc', hk'⟩ := hr2
        subst e1; subst e2
        (repeat (any_goals (first | assumption | wp_step)))
        exact k _ _ _ hS' hc' hk'
end
/-- set(xs) -/
def rSetL (K : PySem.W.Frag) (w : World) : List V → Hp → VK → Prop := fun vs H Q => ∃ (a : Addr) (ns : List Int), vs = [V.ref a] ∧ SqL K H a (ns.map V.int) ∧ ns.length ≤ 1000 ∧
  ∀ (p : Addr) (c : Nat), H p = none → c ≤ ns.length → Q (.ref p) (upd H p (SetO w p (fun j => decide (j ∈ ns)) c))
theorem cr_setL {X : Cx} (hc : X.calm = true) : CallR X (.type "set") (rSetL X.K X.w) := by
  intro pins s σ H vs us Q I r h
  obtain ⟨a, ns, rfl, hq, hl, q⟩ := h
  rw [Vals.ref1 r]
  obtain ⟨its, rv, pt, hz⟩ := I.list hq
  have hi : IntsAre its.toArray.toList ns := ints_of_vals rv
  refine call_set_lst ns (I.ok.hd hc) pt.isList hi (by unfold scanBound; omega) fun h' tk c R1 hcn k => ?_
  exact ⟨.ref _, upd H s.heap.objs.size (SetO X.w s.heap.objs.size (fun j => decide (j ∈ ns)) c), I.laid (t' := tk) k (Nat.le_refl _) (setO_new R1), rfl, q _ c (I.hok.fresh (Nat.le_refl _)) hcn⟩
/-- sorted(set(xs)), xs ints -/
def kSortSet (K : PySem.W.Frag) (w : World) (Q : VK) : VK := fun v H1 => ∃ (a : Addr) (ns : List Int), v = .ref a ∧ SqL K H1 a (ns.map V.int) ∧ ns.length < 64 ∧
  ∀ (ms : List Int) (p q : Addr) (o : HO), ms.Pairwise (· < ·) → (∀ k, k ∈ ms ↔ k ∈ ns) → ms.length ≤ ns.length → H1 p = none → (upd H1 p o) q = none → Q (.ref q) (upd (upd H1 p o) q (.lst (ms.map V.int)))
end SH

set_option Elab.async false
set_option linter.all false
set_option maxRecDepth 100000
set_option maxHeartbeats 4000000
/-! SHX: defs that raise, try, what is caught -/
namespace SH
open PySem PySem.Spec PyProof.Rows L2
section
variable {X : Cx} {CX : CXT} {k j : Nat} {sp : Sp} {dvs : List V} {E : L2.St → XK} {x : Str} {p pos : Pos} {e : Expr} {es : List Expr} {t : TA}
/-- a call in a try: what is raised is wished for at the slots -/
theorem pe_callX (c : Cal X.prog X.w X.K X.mg X.base CX j x dvs sp) (hr : Room k X.A) (hg : Gl X x) (hx : ∀ σ, PassesAt CX X σ (E σ)) (ha : PA X (e :: es) t) (hk : j ≤ k := by decide)
    (hdb : (x == ("__debug__" : Str)) = false := by decide) (he : starEach (e :: es) X.env = (false, eval e X.env) :: starEach es X.env := by rfl) (hpl : (backTo pos (starEach es X.env)).any (·.1) = false := by rfl) :
    PE X (.Call (.Name x p) (e :: es) [] pos) (tCallSD sp dvs E t) := by
  obtain ⟨f, fd, ps, ds, h1, h2, h3, h4, h5⟩ := c.ex
  exact pe_callSD h5 (hr.mono hk) hg h1 h2 h3 h4 hx ha hdb he hpl
theorem r_callX {σ : L2.St} {H : Hp} {Q : VK} (h : t σ H fun vs H1 => sp (vs ++ dvs) H1 Q (E σ)) : tCallSD sp dvs E t σ H Q := h
/-- isinstance of what a suite holds, an error without a dict -/
def rIsX (K : PySem.W.Frag) (cls : Value) (d : Option Addr) (a : Addr) : List V → Hp → VK → Prop := fun xs H Q => ∃ D, cls = .ref D ∧ d = none ∧ ExcC K D ∧ rIsE K D a xs H Q
theorem call_isX {a : Addr} {oe : Obj} {cls : Value} {d : Option Addr} {pn : List (Addr × Obj)} (hz : Zc cls d oe) (hf : ∃ vs, oe.data = .fields vs) : CallR (X.suite a ((a, oe) :: pn)) (.builtin "isinstance") (rIsX X.K cls d a) := by
  intro pins s σ H xs us Q I r h
  obtain ⟨D, rfl, rfl, C, h⟩ := h
  exact call_isE C hz hf pins s σ H xs us Q I r h
theorem v_isX {K : PySem.W.Frag} {D C a : Addr} {H : Hp} {Q : VK} {b : Bool} (hc : ExcC K D) (h : PySem.W.kitOne K (.ref D) (.ref C) = some b) (k : Q (.bl b) H) : rIsX K (.ref D) none a [.ref a, .ref C] H Q :=
  ⟨D, rfl, rfl, hc, .ref C, .ref C, b, rfl, fun _ r => r, h, k⟩
theorem v_isXT {K : PySem.W.Frag} {D a : Addr} {n : String} {H : Hp} {Q : VK} {b : Bool} (hc : ExcC K D) (h : PySem.W.kitOne K (.ref D) (.type n) = some b) (k : Q (.bl b) H) : rIsX K (.ref D) none a [.ref a, .ty n] H Q :=
  ⟨D, rfl, rfl, hc, .ty n, .type n, b, rfl, fun _ r => r, h, k⟩
/-- what an except clause asks: the class is caught -/
theorem r_catch {K : PySem.W.Frag} {c cls : Value} {d : Option Addr} {i : Nat} {ts : Addr → Value → Option Addr → TS} {Wo : WX} {D : Ends} {σ : L2.St} {H : Hp} (h : PySem.W.exmOne K cls c = some true)
    (k : ∀ a, H a = none → ts a cls d { nx := fun σ' H' => D.nx (σ'.set i none) H', rt := D.rt, bk := fun σ' H' => D.bk (σ'.set i none) H', ct := fun σ' H' => D.ct (σ'.set i none) H' } (σ.set i (some (.ref a))) H) : wAs K c i ts Wo D cls d σ H :=
  ⟨true, h, fun _ => k, fun z => by cases z⟩
end
end SH

set_option Elab.async false
set_option linter.all false
set_option maxRecDepth 100000
set_option maxHeartbeats 4000000
/-! SHY: exceptions with fields: made by an own __init__, raised, caught, read; methods and makes that raise in a try -/
namespace SH
open PySem PySem.Spec PyProof.Rows L2
/-- the exception class at C, by its name x, made by an __init__ that keeps sp -/
structure CalE (P : Program) (w : World) (K : PySem.W.Frag) (mg : Str → Option Value) (base : Heap) (k : Nat) (x : Str) (C : Addr) (sp : Sp) : Prop where
  ox : OexC K C
  ex : ∃ (f : Addr) (fd : FuncData) (ps : List Str), mg x = some (.ref C) ∧ PySem.W.findIn K (.ref C) "__init__" = some (some (.ref f)) ∧ PySem.W.typeIn K (.ref f) = some (.type "function") ∧ Binds K fd ps [] ∧ FnOk P w K mg base CX0 k f fd ps sp
section
variable {X : Cx} {CX : CXT} {k j : Nat} {C : Addr} {sp : Sp} {dvs : List V} {E : L2.St → XK} {x m : Str} {p pos apos : Pos} {e o : Expr} {es : List Expr} {ta : TE} {t : TA}
theorem pmk_oexF (c : CalE X.prog X.w X.K X.mg X.base j x C sp) (hr : Room k X.A) (hg : Gl X x) (ha : PA X (e :: es) t) (hk : j + 1 ≤ k := by decide)
    (hdb : (x == ("__debug__" : Str)) = false := by decide) (he : starEach (e :: es) X.env = (false, eval e X.env) :: starEach es X.env := by rfl) (hpl : (backTo pos (starEach es X.env)).any (·.1) = false := by rfl) :
    PMk X (.Call (.Name x p) (e :: es) [] pos) (tMkO C sp [] t) := by
  obtain ⟨f, fd, ps, h1, h2, h3, h4, h5⟩ := c.ex
  exact pmk_oex c.ox h2 h3 h5 (hr.mono hk) h4 .nil pass0 hg h1 ha hdb he hpl
def tMethSD (C : Addr) (m : Str) (sp : Sp) (dvs : List V) (E : L2.St → XK) (ta : TE) (t : TA) : TE := fun σ H Q => ta σ H fun x H1 => ∃ a dx fs, x = .ref a ∧ H1 a = some (.ins C dx fs) ∧ fs.lookup m = none ∧ t σ H1 fun vs H2 => sp (x :: (vs ++ dvs)) H2 Q (E σ)
theorem pe_methX {pl : Sem Bool} (he : PE X o ta) (c : CalM X.prog X.w X.K X.mg X.base CX j C m dvs sp) (hr : Room k X.A) (hx : ∀ σ, PassesAt CX X σ (E σ)) (ha : PA X (e :: es) t) (hk : j ≤ k := by decide)
    (hst : starEach (e :: es) X.env = (false, eval e X.env) :: starEach es X.env := by rfl) (hpl : (backTo pos (starEach es X.env)).any (·.1) = false := by rfl)
    (ht : eval (.Call (.Attribute o m apos) (e :: es) [] pos) X.env = (do
      let ov ← eval o X.env; standAt apos.atName
      let (f, first) ← holding [ov] (getMethod ov m pl); callWith pos f first (backTo pos (starEach (e :: es) X.env)) (backToKw pos (keywordEach [] X.env))) := by rfl) :
    PE X (.Call (.Attribute o m apos) (e :: es) [] pos) (tMethSD C m sp dvs E ta t) := by
  obtain ⟨f, fd, ps, ds, h1, h3, h4, h5⟩ := c.ex
  refine ⟨fun pins s σ H Q I h => PySem.W.methodCall_KW (pl := pl) (thn (he.run pins s σ H _ I h) fun u s1 ⟨x, H1, I1, rx, a, dx, fs, ex, ea, l, q⟩ => ?_) ht⟩
  subst ex; obtain rfl : u = Value.ref a := rx
  refine getmeth_ok I1 ea c.cl h1 l (PySem.W.callWith_K (first := [.ref a]) (h₀ := X.base) I.ok.mod.kin h1.kp (thn (ha.run pos pins s1 σ H1 _ I1 q) fun us s2 ⟨vs, H2, I2, r, q2⟩ => ⟨I2.kIn, ?_⟩) hst hpl)
  exact run_fnSD (us := .ref a :: us) (vs := .ref a :: vs) h5 (hr.mono hk) h3 h4 (hx σ) I2 (.cons rfl r) q2
theorem pe_methX0 {pl : Sem Bool} (he : PE X o ta) (c : CalM X.prog X.w X.K X.mg X.base CX j C m dvs sp) (hr : Room k X.A) (hx : ∀ σ, PassesAt CX X σ (E σ)) (hk : j ≤ k := by decide)
    (ht : eval (.Call (.Attribute o m apos) [] [] pos) X.env = (do
      let ov ← eval o X.env; standAt apos.atName
      let (f, first) ← holding [ov] (getMethod ov m pl); callWith pos f first (backTo pos (starEach [] X.env)) (backToKw pos (keywordEach [] X.env))) := by rfl) :
    PE X (.Call (.Attribute o m apos) [] [] pos) (tMethSD C m sp dvs E ta tNil) := by
  obtain ⟨f, fd, ps, ds, h1, h3, h4, h5⟩ := c.ex
  refine ⟨fun pins s σ H Q I h => PySem.W.methodCall_KW (pl := pl) (thn (he.run pins s σ H _ I h) fun u s1 ⟨x, H1, I1, rx, a, dx, fs, ex, ea, l, q⟩ => ?_) ht⟩
  subst ex; obtain rfl : u = Value.ref a := rx
  exact getmeth_ok I1 ea c.cl h1 l (PySem.W.callWith_K0 (first := [.ref a]) I1.kIn h1.kp (run_fnSD (us := [.ref a]) (vs := [.ref a]) h5 (hr.mono hk) h3 h4 (hx σ) I1 (.cons rfl .nil) q))
def tMakeSD (C : Addr) (sp : Sp) (dvs : List V) (E : L2.St → XK) (t : TA) : TE := fun σ H Q => t σ H fun vs H1 => ∀ x dx, H1 x = none → H1 dx = none → dx ≠ x → sp (.ref x :: (vs ++ dvs)) (upd (upd H1 dx (.own x)) x (.ins C dx [])) (fun v H2 => v = .non ∧ Q (.ref x) H2) (E σ)
theorem run_makeSD {f : Addr} {fd : FuncData} {ps : List Str} {ds : List Value} {pins : List (Addr × Obj)} {σ : L2.St} {H : Hp} {s : Shared} {Q : VK} {us : List Value} {vs : List V} (M : L2.Mk X.K C f) (F : FnOk X.prog X.w X.K X.mg X.base CX k f fd ps sp) (hr : Room (k + 1) X.A) (hb : Binds X.K fd ps ds) (hd : Vals dvs ds)
    (hx : PassesAt CX X σ (E σ)) (I : Inv X pins σ H s) (r : Vals vs us) (h : ∀ x dx, H x = none → H dx = none → dx ≠ x → sp (.ref x :: (vs ++ dvs)) (upd (upd H dx (.own x)) x (.ins C dx [])) (fun v H2 => v = .non ∧ Q (.ref x) H2) (E σ)) :
    wpAny (model X.prog X.w) X.A (call (.ref C) us) (EP X pins σ Q) X.xe s := by
  have hq := h (s.heap.objs.size + 1) s.heap.objs.size (I.hok.fresh (Nat.le_succ _)) (I.hok.fresh (Nat.le_refl _)) (Nat.ne_of_lt (Nat.lt_succ_self _)); have I2 := Inv.made (C := C) I
  have r2 : Vals (V.ref (s.heap.objs.size + 1) :: (vs ++ dvs)) (Value.ref (s.heap.objs.size + 1) :: (us ++ ds)) := .cons rfl (r.append hd); have hl : (Value.ref (s.heap.objs.size + 1) :: us ++ ds).length = ps.length := by have e := r2.length; rw [F.len _ _ _ _ hq] at e; exact e.symm
  refine wpAny_call (make_map (f := f) I.kIn M.makes M.init (beq_iff_eq.mp M.fn) (codeAny_mono (F.run _ X.stack _ _ ⟨Value.ref (s.heap.objs.size + 1) :: us, []⟩ (Value.ref (s.heap.objs.size + 1) :: (us ++ ds)) _ _ (E σ) (hr.make C us []) (I2.env0.make C us []) (hb _ (Value.ref (s.heap.objs.size + 1) :: us) I2.kIn hl) r2 hq) fun r s' hq' => ?_))
  match r, hq' with
  | .error e, hq' => exact hx pins _ _ e s' I2 hq'
  | .ok (.ret u), hq' => obtain ⟨v, H', I3, rv, ev, q3⟩ := I2.after hq'; subst ev; exact ⟨rv, ⟨V.ref (s.heap.objs.size + 1), H', I3, rfl, q3⟩⟩
  | .ok .next, hq' => exact False.elim hq'
  | .ok .brk, hq' => exact False.elim hq'
  | .ok .cont, hq' => exact False.elim hq'
theorem pe_makeX (c : CalC X.prog X.w X.K X.mg X.base CX j x C dvs sp) (hr : Room k X.A) (hg : Gl X x) (hx : ∀ σ, PassesAt CX X σ (E σ)) (ha : PA X (e :: es) t) (hk : j + 1 ≤ k := by decide)
    (hdb : (x == ("__debug__" : Str)) = false := by decide) (he : starEach (e :: es) X.env = (false, eval e X.env) :: starEach es X.env := by rfl) (hpl : (backTo pos (starEach es X.env)).any (·.1) = false := by rfl) :
    PE X (.Call (.Name x p) (e :: es) [] pos) (tMakeSD C sp dvs E t) := by
  obtain ⟨f, fd, ps, ds, h1, h2, h3, h4, h5⟩ := c.ex
  refine ⟨fun pins s σ H Q I h => wpAny_Call_Name_kw (ld_glob I hg h1 (PySem.W.callWith_K (h₀ := X.base) I.ok.mod.kin h2.kp (thn (ha.run pos pins s σ H _ I h) fun us s1 ⟨vs, H1, I1, r, q⟩ => ⟨I1.kIn, ?_⟩) he hpl) hdb)⟩
  exact run_makeSD h2 h5 (hr.mono hk) h3 h4 (hx σ) I1 r q
end
section
variable {K : PySem.W.Frag} {σ : L2.St} {H : Hp} {Q : VK} {C : Addr} {f : Str} {v : V}
/-- what is asked of the own __init__ of a class with one field -/
def sp1 (f : Str) (C : Addr) : Sp := fun vs H Q _ => ∃ (a : Addr) (v : V), vs = [.ref a, v] ∧ H a = some (exo a C none) ∧ ∀ dx, H dx = none → dx ≠ a → Q .non (upd (upd H dx (exd dx [(f, v)])) a (exo a C (some dx)))
def kMkO (C : Addr) (sp : Sp) (dvs : List V) (R : XK) : List V → Hp → Prop := fun vs H1 => vs.length ≤ 1000 ∧ ∀ a, H1 a = none → sp (.ref a :: (vs ++ dvs)) (upd H1 a (exo a C none))
  (fun v H2 => v = .non ∧ ∃ (d : Addr) (fs : List (Str × V)), H2 a = some (exo a C (some d)) ∧ H2 d = some (exd d fs) ∧ H1 d = none ∧ R (.ref C) (some d) (upd (del H2 a) d (.xd fs))) (fun _ _ _ => False)
theorem r_mkO {sp : Sp} {dvs : List V} {t : TA} {R : XK} (h : t σ H (kMkO C sp dvs R)) : tMkO C sp dvs t σ H R := h
theorem v_raise1 {R : XK} (q : ∀ d, H d = none → R (.ref C) (some d) (upd H d (.xd [(f, v)]))) : kMkO C (sp1 f C) [] R [v] H := by
  refine ⟨by simp, fun a ha => ⟨a, v, rfl, upd_same, fun dx hdx hne => ⟨rfl, dx, _, upd_same, by rw [upd_ne hne]; exact upd_same, (upd_free hdx).1, ?_⟩⟩⟩
  have hd := (upd_free hdx).1
  have e : upd (del (upd (upd (upd H a (exo a C none)) dx (exd dx [(f, v)])) a (exo a C (some dx))) a) dx (.xd [(f, v)]) = upd H dx (.xd [(f, v)]) := by
    funext b
    by_cases c1 : b = dx
    · rw [c1, upd_same, upd_same]
    · rw [upd_ne c1, upd_ne c1]
      by_cases c2 : b = a
      · rw [c2, del_same, ha]
      · rw [del_ne c2, upd_ne c2, upd_ne c1, upd_ne c2]
  rw [e]
  exact q dx hd
end
section
variable {σ : L2.St} {H : Hp} {Q : VK} {C a dx : Addr} {m : Str} {sp : Sp} {dvs : List V} {ta : TE} {t : TA} {fs : List (Str × V)} {vs : List V}
def kMethX (C : Addr) (m : Str) (sp : Sp) (dvs : List V) (E : XK) (t : TA) (σ : L2.St) (Q : VK) : VK := fun x H1 => ∃ a dx fs, x = .ref a ∧ H1 a = some (.ins C dx fs) ∧ fs.lookup m = none ∧ t σ H1 fun vs H2 => sp (x :: (vs ++ dvs)) H2 Q E
theorem r_methX {E : L2.St → XK} (h : ta σ H (kMethX C m sp dvs (E σ) t σ Q)) : tMethSD C m sp dvs E ta t σ H Q := h
theorem v_methX {E : XK} (h : H a = some (.ins C dx fs)) (l : fs.lookup m = none) (k : t σ H fun vs H2 => sp (.ref a :: (vs ++ dvs)) H2 Q E) : kMethX C m sp dvs E t σ Q (.ref a) H := ⟨a, dx, fs, rfl, h, l, k⟩
def kMakeX (C : Addr) (sp : Sp) (dvs : List V) (E : XK) (Q : VK) : List V → Hp → Prop := fun vs H1 => ∀ x dx, H1 x = none → H1 dx = none → dx ≠ x → sp (.ref x :: (vs ++ dvs)) (upd (upd H1 dx (.own x)) x (.ins C dx [])) (fun v H2 => v = .non ∧ Q (.ref x) H2) E
theorem r_makeX {E : L2.St → XK} (h : t σ H (kMakeX C sp dvs (E σ) Q)) : tMakeSD C sp dvs E t σ H Q := h
theorem v_makeX {E : XK} (k : ∀ x dx, H x = none → H dx = none → dx ≠ x → sp (.ref x :: (vs ++ dvs)) (upd (upd H dx (.own x)) x (.ins C dx [])) (fun v H2 => v = .non ∧ Q (.ref x) H2) E) : kMakeX C sp dvs E Q vs H := k
end
/-! isinstance of what a suite holds -/
def rIsY (K : PySem.W.Frag) (cls : Value) (d : Option Addr) (a : Addr) : List V → Hp → VK → Prop := fun xs H Q => ∃ D, cls = .ref D ∧ (∀ dd, d = some dd → ∃ fs, H dd = some (.xd fs)) ∧ ExcC K D ∧ rIsE K D a xs H Q
theorem call_isY {X : Cx} {a : Addr} {oe : Obj} {cls : Value} {d : Option Addr} {pn : List (Addr × Obj)} (hz : Zc cls d oe) (hf : ∃ vs, oe.data = .fields vs) : CallR (X.suite a ((a, oe) :: pn)) (.builtin "isinstance") (rIsY X.K cls d a) := by
  intro pins s σ H xs us Q I r h
  obtain ⟨D, rfl, hdd, C, c, cv, b, rfl, hcv, e, q⟩ := h
  cases r with
  | cons rx rr =>
    cases rr with
    | cons rt rr =>
      cases rr; cases rx
      have ec := hcv _ rt; subst ec
      obtain ⟨hget, _⟩ := I.pin (a, oe) (List.mem_append.mpr (.inl List.mem_cons_self)); obtain ⟨vs, hv⟩ := hf
      have hcl : (PySem.W.clsIn X.K D).isSome = true := by
        obtain ⟨cd, hc, _⟩ := PySem.W.any_some C.hd
        rw [hc]; rfl
      have J : ∃ od, PySem.W.InstAt s.heap a oe D od := by
        cases d with
        | none => exact ⟨none, hget, hz.1, by unfold PySem.W.notCls; rw [hv] <;> rfl, by rw [hz.2]; trivial⟩
        | some dd =>
          obtain ⟨fs, hfs⟩ := hdd dd rfl
          obtain ⟨mA, hns, _⟩ := (show ObjOk X.prog X.w H s.heap dd (.xd fs) from I.hok dd _ hfs)
          obtain ⟨od, ho, hl⟩ := lookIn_ns hns
          exact ⟨some od, hget, hz.1, by unfold PySem.W.notCls; rw [hv] <;> rfl, by rw [hz.2]; exact ho⟩
      obtain ⟨od, J⟩ := J
      exact PySem.W.kia_one (PySem.W.kitx_exc (od := od) hcl C.hg C.hk C.hs C.ha C.hn C.ht C.hm) I.kIn J e (fun z => nomatch z) fun tk => ⟨.bl b, H, I.kept (t' := tk) fun _ _ z => z, rfl, q⟩
section
variable {K : PySem.W.Frag} {D C a : Addr} {n : String} {H : Hp} {Q : VK} {b : Bool} {σ : L2.St}
theorem v_isY {d : Option Addr} (hd : ∀ dd, d = some dd → ∃ fs, H dd = some (.xd fs)) (hc : ExcC K D) (h : PySem.W.kitOne K (.ref D) (.ref C) = some b) (k : Q (.bl b) H) : rIsY K (.ref D) d a [.ref a, .ref C] H Q := ⟨D, rfl, hd, hc, .ref C, .ref C, b, rfl, fun _ r => r, h, k⟩
theorem v_isYT {d : Option Addr} (hd : ∀ dd, d = some dd → ∃ fs, H dd = some (.xd fs)) (hc : ExcC K D) (h : PySem.W.kitOne K (.ref D) (.type n) = some b) (k : Q (.bl b) H) : rIsY K (.ref D) d a [.ref a, .ty n] H Q := ⟨D, rfl, hd, hc, .ty n, .type n, b, rfl, fun _ r => r, h, k⟩
theorem xfOf (c : ExcC K D) : XfC K D := ⟨c.hg, c.hk, c.hs, c.hd⟩
theorem nodict : ∀ dd : Addr, (none : Option Addr) = some dd → ∃ fs, H dd = some (.xd fs) := fun _ z => nomatch z
theorem adict {d : Addr} {fs : List (Str × V)} (h : H d = some (.xd fs)) : ∀ dd : Addr, some d = some dd → ∃ fs, H dd = some (.xd fs) := fun _ z => by cases z; exact ⟨fs, h⟩
/-- e.f in a suite -/
def kXf (a : Addr) (cls : Value) (d : Option Addr) (C : Addr) (f : Str) (Q : VK) : VK := fun x H1 => x = .ref a ∧ cls = .ref C ∧ ∃ (dd : Addr) (fs : List (Str × V)) (v : V), d = some dd ∧ H1 dd = some (.xd fs) ∧ fs.lookup f = some v ∧ Q v H1
theorem r_xf {cls : Value} {d : Option Addr} {f : Str} {te : TE} (h : te σ H (kXf a cls d C f Q)) : tXf a cls d C f te σ H Q := h
theorem v_xf {d : Addr} {f : Str} {fs : List (Str × V)} {v : V} (h : H d = some (.xd fs)) (l : fs.lookup f = some v) (k : Q v H) : kXf a (.ref C) (some d) C f Q (.ref a) H := ⟨rfl, rfl, d, fs, v, rfl, h, l, k⟩
/-- self.f = e in an exception's __init__ -/
def kOst (K : PySem.W.Frag) (f : Str) (y : V) (R : Hp → Prop) : VK := fun x H2 => ∃ a C : Addr, x = .ref a ∧ OexC K C ∧ PySem.W.findIn K (.ref C) f = some none ∧
  ((H2 a = some (exo a C none) ∧ ∀ dx, H2 dx = none → dx ≠ a → R (upd (upd H2 dx (exd dx [(f, y)])) a (exo a C (some dx)))) ∨ ∃ (dx : Addr) (fs : List (Str × V)), H2 a = some (exo a C (some dx)) ∧ H2 dx = some (exd dx fs) ∧ fs.length ≤ 900 ∧ R (upd H2 dx (exd dx ((f, y) :: fs))))
theorem r_ost {D : Ends} {f : Str} {to te : TE} (h : te σ H fun y H1 => to σ H1 (kOst K f y (D.nx σ))) : tOst K f to te D σ H := h
end
end SH

set_option Elab.async false
set_option linter.all false
set_option maxRecDepth 100000
set_option maxHeartbeats 4000000
/-! SHZ: the same for exceptions whose context is None (L2N), and defs called within an except suite -/
namespace SH
open PySem PySem.Spec PyProof.Rows L2
section
variable {P : Program} {w : World} {K : PySem.W.Frag} {mg : Str → Option Value} {base : Heap}
theorem okN {x qual : Str} {st : Stmt} {f : Addr} {fd : FuncData} {N ps : List Str} {k : Nat} {sp : Sp} (F : Fun K x qual st f fd) (S : FnScope N ps (defScope st)) (len : ∀ vs H Q E, sp vs H Q E → vs.length = ps.length)
    (hb : ∀ (cdv : Value) (A : Around) (outer : List Env) (s : Shared) (H : Hp) (vs : List V) (Q : VK) (E : XK), Room k (A.deeper (envOfC qual (defScope st) s.heap.objs.size f cdv)) → sp vs H Q E →
      ∃ t, PSs (cxOf (L2N.CX P w) P w K mg base N qual (defScope st) f cdv A outer s H E) (defBody st) t ∧ t { nx := fun _ H' => Q .non H', rt := Q } (start N vs) H) : FnOk P w K mg base (L2N.CX P w) (k + 1) f fd ps sp := by
  obtain ⟨oc, od, kV, doc, pm, an, cdv, ct, osl, rfl, lk, hcd⟩ := F.ex
  exact fn_of lk hcd S len fun A outer s H vs Q E hr h => hb cdv A outer s H vs Q E hr h
theorem okND {x qual : Str} {st : Stmt} {dvs : List V} {f : Addr} {fd : FuncData} {N ps : List Str} {k : Nat} {sp : Sp} (F : FunD K x qual (defArgs st) (defBody st) (defScope st) dvs [] f fd) (S : FnScope N ps (defScope st)) (len : ∀ vs H Q E, sp vs H Q E → vs.length = ps.length)
    (hb : ∀ (cdv : Value) (A : Around) (outer : List Env) (s : Shared) (H : Hp) (vs : List V) (Q : VK) (E : XK), Room k (A.deeper (envOfC qual (defScope st) s.heap.objs.size f cdv)) → sp vs H Q E →
      ∃ t, PSs (cxOf (L2N.CX P w) P w K mg base N qual (defScope st) f cdv A outer s H E) (defBody st) t ∧ t { nx := fun _ H' => Q .non H', rt := Q } (start N vs) H) : FnOk P w K mg base (L2N.CX P w) (k + 1) f fd ps sp :=
  F.ok S len hb
theorem passLN {X : Cx} : Passes (L2N.CX X.prog X.w) X E0 := fun _ _ _ _ _ _ _ h => by
  obtain ⟨_, _, _, _, _, _, _, _, _, _, _, _, z⟩ := h
  exact z.elim
theorem takes0N {X : Cx} : L2N.Takes X (fun _ _ _ _ => False) := fun _ _ x => by
  obtain ⟨_, _, _, _, _, _, _, _, _, _, _, _, _, _, _, _, z⟩ := x
  exact z.elim
/-- a def that is called while an exception is handled; it raises nothing -/
theorem okH {x qual : Str} {st : Stmt} {f : Addr} {fd : FuncData} {N ps : List Str} {k : Nat} {sp : Sp} (F : Fun K x qual st f fd) (S : FnScope N ps (defScope st)) (len : ∀ vs H Q E, sp vs H Q E → vs.length = ps.length)
    (hb : ∀ (cdv : Value) (A : Around) (outer : List Env) (s : Shared) (H : Hp) (vs : List V) (Q : VK) (E : XK) (p : Addr × Obj), L2H.Hot1 A p → L2H.RoomH k (A.deeper (envOfC qual (defScope st) s.heap.objs.size f cdv)) → sp vs H Q E →
      ∃ t, PSs (L2H.cxH CX0 P w K mg base N qual (defScope st) f cdv A outer s H E p) (defBody st) t ∧ t { nx := fun _ H' => Q .non H', rt := Q } (start N vs) H) : L2H.FnH P w K mg base CX0 (k + 1) f fd ps sp := by
  obtain ⟨oc, od, kV, doc, pm, an, cdv, ct, osl, rfl, lk, hcd⟩ := F.ex
  exact L2H.fn_ofH lk hcd S len fun A outer s H vs Q E p hot hr h => hb cdv A outer s H vs Q E p hot hr h
end
structure CalH (P : Program) (w : World) (K : PySem.W.Frag) (mg : Str → Option Value) (base : Heap) (k : Nat) (x : Str) (sp : Sp) : Prop where
  ex : ∃ (f : Addr) (fd : FuncData) (ps : List Str), mg x = some (.ref f) ∧ PySem.W.keepIn K (.ref f) = true ∧ Binds K fd ps [] ∧ L2H.FnH P w K mg base CX0 k f fd ps sp
section
variable {X : Cx} {CX : CXT} {k j : Nat} {C : Addr} {sp : Sp} {x : Str} {p pos : Pos} {e : Expr} {es : List Expr} {t : TA}
theorem hotc {a : Addr} {oe : Obj} {cls : Value} {d : Option Addr} {pn : List (Addr × Obj)} (hz : L2N.Zn cls d oe) (hf : ∃ vs, oe.data = .fields vs) : L2H.HotC (X.suite a ((a, oe) :: pn)) := by
  obtain ⟨vs, hv⟩ := hf
  exact ⟨(a, oe), ⟨rfl, vs, hv, hz.2.2 vs hv⟩, List.mem_cons_self⟩
theorem pe_callHF (c : CalH X.prog X.w X.K X.mg X.base j x sp) (hr : L2H.RoomH k X.A) (hc : L2H.HotC X) (hg : Gl X x) (ha : PA X (e :: es) t) (hk : j ≤ k := by decide)
    (hdb : (x == ("__debug__" : Str)) = false := by decide) (he : starEach (e :: es) X.env = (false, eval e X.env) :: starEach es X.env := by rfl) (hpl : (backTo pos (starEach es X.env)).any (·.1) = false := by rfl) :
    PE X (.Call (.Name x p) (e :: es) [] pos) (tCallS sp (fun _ => E0) t) := by
  obtain ⟨f, fd, ps, h1, h2, h3, h4⟩ := c.ex
  exact L2H.pe_callH h4 (hr.mono hk) hc hg h1 h2 h3 (fun σ pins H s e s' _ z => z.elim) ha hdb he hpl
theorem r_callS {σ : L2.St} {H : Hp} {Q : VK} {E : L2.St → XK} (h : t σ H fun vs H1 => sp vs H1 Q (E σ)) : tCallS sp E t σ H Q := h
set_option maxHeartbeats 8000000 in
theorem pmk_oexN (c : CalE X.prog X.w X.K X.mg X.base j x C sp) (hr : Room k X.A) (hg : Gl X x) (ha : PA X (e :: es) t) (hk : j + 1 ≤ k := by decide)
    (hdb : (x == ("__debug__" : Str)) = false := by decide) (he : starEach (e :: es) X.env = (false, eval e X.env) :: starEach es X.env := by rfl) (hpl : (backTo pos (starEach es X.env)).any (·.1) = false := by rfl) :
    L2N.PMk X (.Call (.Name x p) (e :: es) [] pos) (tMkO C sp [] t) := by
  obtain ⟨fI, fd, ps, hm, iC, tI, hb, F1⟩ := c.ex; have T := c.ox
  intro pins s σ H Q I h
  obtain ⟨nm, q, N, bs, bm, sn, sub, ab, col, dd, k0, k1, k2, k3, k5, hC, hbm⟩ := c.ox.cls
  refine wpAny_Call_Name_kw (ld_glob I hg hm (PySem.W.callWith_K (h₀ := X.base) I.ok.mod.kin T.kC (thn (ha.run pos pins s σ H _ I h) fun us s1 ⟨vs, H1, I1, r1, hz, q1⟩ => ⟨I1.kIn, ?_⟩) he hpl) hdb)
  show wpAny _ _ (call (.ref C) us) _ _ _; obtain ⟨hp, g, dr, tk, os⟩ := s1
  have hsz : hp.objs.size ≤ hp.objs.size + 1 := Nat.le_succ _; have hn : H1 (hp.objs.size + 1) = none := I1.hok.fresh hsz
  have hq := q1 (hp.objs.size + 1) hn; rw [List.append_nil] at hq
  have kk : ∀ b o, hp.get? b = some o → ((hp.push (PySem.W.kdv_tup us)).push (PySem.HandSPX.excO C hp.objs.size)).get? b = some o := fun b o e => by exact Heap.get?_push_of_some _ (Heap.get?_push_of_some _ e)
  have hget : ((hp.push (PySem.W.kdv_tup us)).push (PySem.HandSPX.excO C hp.objs.size)).get? (hp.objs.size + 1) = some (PySem.HandSPX.excO C hp.objs.size) := by (heap_get)
  have I2 : Inv X pins σ (upd H1 (hp.objs.size + 1) (exo (hp.objs.size + 1) C none)) ⟨(hp.push (PySem.W.kdv_tup us)).push (PySem.HandSPX.excO C hp.objs.size), g, dr, tk, os⟩ := by
    exact I1.laid (t' := tk) (a := hp.objs.size + 1) (o := exo (hp.objs.size + 1) C none) (h' := (hp.push (PySem.W.kdv_tup us)).push (PySem.HandSPX.excO C hp.objs.size)) kk hsz (exo_ok hget)
  have r2 : Vals (V.ref (hp.objs.size + 1) :: vs) (Value.ref (hp.objs.size + 1) :: us) := .cons rfl r1
  have hl : (Value.ref (hp.objs.size + 1) :: us ++ []).length = ps.length := by have e := r2.length; rw [F1.len _ _ _ _ hq] at e; rw [List.append_nil]; exact e.symm
  have hus : us.length ≤ sizeLine := by rw [← Paired.length r1, sizeLine_eq]; omega
  have b2 := hb _ (Value.ref (hp.objs.size + 1) :: us) I2.kIn hl; rw [List.append_nil] at b2
  refine wpAny_call (PySem.HandSPX.call_own F.excBase_ValueError (fun Y => PySem.HandSPX.refsVE_contains Y bm hbm) (I1.kIn _ _ hC) (PySem.W.looks_findIn I1.kIn iC) (fun self => PySem.W.bind_fn I1.kIn self tI) hus
    (codeAny_mono (F1.run _ X.stack _ _ ⟨Value.ref (hp.objs.size + 1) :: us, []⟩ (Value.ref (hp.objs.size + 1) :: us) _ _ (fun _ _ _ => False) ((hr.mono hk).make C us []) (I2.env0.make C us []) b2 r2 hq) fun r s' hq' => ?_))
  match r, hq' with
  | .error er, hq' => exact False.elim hq'
  | .ok .next, hq' => exact False.elim hq'
  | .ok .brk, hq' => exact False.elim hq'
  | .ok .cont, hq' => exact False.elim hq'
  | .ok (.ret u), hq' =>
    obtain ⟨v, H2, os2, bare2, un2, hok2, rv, ev, d, fs, ea, ed, hd1, q2⟩ := hq'; subst ev
    obtain ⟨h2, g2, d2, t2, os'⟩ := s'; obtain ⟨t0, G, J, kG, ge, hoe, na⟩ := mk_end0 (d2 := d2) (t2 := t2) I1 hsz kk un2 hok2 os2 bare2 ea ed hd1
    exact ⟨rv, ⟨hp.objs.size + 1, _, _, ⟨G, g2, d2, t2, os'⟩, _, .ref C, some d, rfl, J, kG, ge, hoe, ⟨rfl, rfl, fun vs hv => by cases hv; rfl⟩, rfl, rfl, na, rfl, bare2, raises_own T.exC T.tyC, q2⟩⟩
end
theorem r_catchM {K : PySem.W.Frag} {c cls : Value} {d : Option Addr} {ts : Addr → Value → Option Addr → TS} {r : List (Value × (Addr → Value → Option Addr → TS))} {Wo : WX} {D : Ends} {σ : L2.St} {H : Hp} (h : PySem.W.exmOne K cls c = some true)
    (k : ∀ a, H a = none → ts a cls d D σ H) : L2.wMany K Wo D ((c, ts) :: r) cls d σ H := ⟨true, h, fun _ => k, fun z => by cases z⟩
theorem r_catchM2 {K : PySem.W.Frag} {c cls : Value} {d : Option Addr} {ts : Addr → Value → Option Addr → TS} {r : List (Value × (Addr → Value → Option Addr → TS))} {Wo : WX} {D : Ends} {σ : L2.St} {H : Hp} (h : PySem.W.exmOne K cls c = some false)
    (k : L2.wMany K Wo D r cls d σ H) : L2.wMany K Wo D ((c, ts) :: r) cls d σ H := ⟨false, h, (fun z => by cases z), fun _ => k⟩
section
variable {X : Cx} {o e : Expr} {es : List Expr} {to : TE} {t : TA} {name : Str} {apos cpos : Pos} {T id : String} {r : V → List V → Hp → VK → Prop}
theorem pe_bmK (K : PySem.W.Frag) (pa : PlainAttrs T) (slot : Slot T name id) (hty : typeOf (.builtin id) = pure (.type "method_descriptor")) (hm : MtR X id r) (ho : PE X o to) (ha : PA X (e :: es) t) (hK : X.K = K := by rfl)
    (hbase : attributeBase o name X.env (eval o X.env) = eval o X.env := by rfl)
    (hfew : ((backTo cpos (starEach (e :: es) X.env)).all (fun x => !x.1) && (backToKw cpos (keywordEach [] X.env)).all (fun x => x.1.isSome)
      && decide ((e :: es).length + ([] : List Keyword).length + (if ([] : List Keyword).isEmpty then 0 else 1) < 30)) = true := by rfl)
    (hline : (apos.endLine == cpos.line) = true := by rfl) (hs : starEach (e :: es) X.env = (false, eval e X.env) :: starEach es X.env := by rfl) (hplain : (backTo cpos (starEach es X.env)).any (·.1) = false := by rfl) :
    PE X (.Call (.Attribute o name apos) (e :: es) [] cpos) (tBM K T r to t) := by
  subst hK
  exact pe_bm pa slot hty hm ho ha hbase hfew hline hs hplain
end
end SH

set_option Elab.async false
set_option linter.all false
set_option maxRecDepth 100000
set_option maxHeartbeats 8000000
/-! the step -/
local macro_rules | `(tactic| walk_at "slot") => `(tactic| (with_reducible first | exact SH.get_z | (apply SH.get_s; walk_at "slot")))
local macro_rules | `(tactic| walk_at "put") => `(tactic| (with_reducible first | exact SH.set_z | (apply SH.set_s; walk_at "put")))
local macro_rules | `(tactic| walk_at "wipe") => `(tactic| (with_reducible first | exact SH.wp_z | apply SH.wp_s (by walk_at "wipe") (by walk_at "put")))
local macro_rules | `(tactic| walk_at "begin") => `(tactic| ((apply SH.r_start (by (repeat (with_reducible first | exact SH.st_z | apply SH.st_c | apply SH.st_n)))); (try dsimp only [L2.Cx.nox, L2.Cx.wish, L2.cxOf])))
local macro_rules | `(tactic| walk_at "r0") => `(tactic| with_reducible first
  | ((apply SH.r_nx (by walk_at "put")))
  | refine SH.r_seq ?_ | refine SH.r_asg ?_ | (apply SH.r_gnw (by walk_at "wipe")) | (apply SH.r_gtw (by walk_at "wipe")) | ((apply SH.r_gname (by walk_at "put")))
  | ((apply SH.r_var (by walk_at "slot"))) | refine SH.r_c ?_ | refine SH.r_op ?_ | refine SH.r_cons ?_ | refine SH.r_nil ?_
  | refine SH.v_addI ?_ | refine SH.v_subI ?_ | refine SH.v_ltI ?_ | refine SH.v_leI ?_ | refine SH.v_gtI ?_ | refine SH.v_geI ?_ | refine SH.v_eqI ?_ | refine SH.v_neI ?_
  | refine SH.v_eqB ?_ | refine SH.v_neB ?_ | refine SH.w_isB ?_ | refine SH.w_notB ?_ | refine SH.v_isN ?_ | refine SH.v_notN ?_ | refine SH.v_ipA ?_ | refine SH.v_ipS ?_ | refine SH.v_and ?_
  | refine SH.r_ifS ?_ | refine SH.r_test ?_ | refine SH.r_bl ?_ | refine SH.r_B ?_ | refine SH.r_and ?_ | refine SH.r_or ?_ | refine SH.r_not ?_ | refine SH.r_andV ?_ | refine SH.r_orV ?_ | refine SH.r_notV ?_
  | refine SH.r_T ?_ | refine SH.r_F ?_ | refine SH.r_nT ?_ | refine SH.r_nF ?_
  | refine SH.r_ret ?_ | refine SH.r_retN ?_ | refine SH.r_drop ?_ | ((apply SH.r_aug (by walk_at "slot"))) | refine SH.r_next ?_ | refine SH.r_if ?_
  | refine SH.r_call ?_ | refine SH.r_cb ?_ | refine SH.r_tup ?_ | refine SH.r_lst ?_ | refine SH.r_part ?_ | refine SH.r_nopart ?_ | refine SH.r_int ?_ | refine SH.r_sl ?_ | refine SH.r_chain ?_
  | refine SH.r_bm ?_ | refine SH.r_bm0 ?_ | refine SH.r_un ?_ | refine SH.r_neg ?_ | refine SH.r_gcons ?_ | refine SH.r_gnil ?_ | refine SH.r_gsub ?_ | refine SH.r_brk ?_ | refine SH.r_cont ?_ | refine SH.r_yes ?_
  | refine SH.r_for ?_ | refine SH.r_lc ?_ | refine SH.r_iList ?_ | refine SH.r_iTup ?_ | refine SH.r_iRng1 ?_ | refine SH.r_iRng2 ?_ | refine SH.r_iRng3 ?_ | refine SH.r_iEnum ?_ | refine SH.r_iZip ?_ | refine SH.r_iRev ?_
  | refine SH.r_fldF ?_ | refine SH.r_sfldF ?_ | refine SH.r_sfldAugF ?_ | refine SH.r_meth ?_ | refine SH.r_make ?_ | refine SH.r_lrg1 ?_ | refine SH.r_lrg2 ?_ | refine SH.r_bits ?_ | refine SH.v_bits ?_ | refine SH.w_max ?_ | refine SH.w_min ?_
  | refine SH.r_par ?_ | refine SH.r_par3 ?_ | (apply SH.v_par (by walk_at "put") (by walk_at "put")) | (apply SH.v_par3 (by walk_at "put") (by walk_at "put") (by walk_at "put"))
  | refine SH.r_callS ?_ | refine SH.r_mkO ?_ | refine SH.r_xf ?_ | refine SH.r_ost ?_ | refine SH.r_methX ?_ | refine SH.r_makeX ?_ | refine SH.r_augS ?_ | refine SH.r_dnewT ?_ | refine SH.r_dput ?_ | refine SH.r_dget1 ?_ | refine SH.r_dgetI ?_ | refine SH.r_din ?_ | refine SH.r_dnotin ?_ | refine SH.w_intI ?_ | refine SH.w_intB ?_ | ((apply SH.v_dget1 (by assumption))))
/-! heap facts -/
local macro_rules | `(tactic| walk_at "ne") => `(tactic| with_reducible first
  | assumption | (apply Ne.symm; assumption)
  | ((apply SH.ne_of_none'); (focus (assumption; done)); (focus (walk_at "lk"))) | ((apply Ne.symm); (apply SH.ne_of_none'); (focus (assumption; done)); (focus (walk_at "lk")))
  | ((apply L2.ne_of); (focus (walk_at "lk")); (focus (walk_at "lk")); (focus (intro z; cases z; done))))
local macro_rules | `(tactic| walk_at "lk") => `(tactic| (focus
  ((repeat (with_reducible first
  | assumption | exact L2.upd_same
  | (apply SH.off_old (by assumption))
  | ((apply SH.off_far); (focus (walk_at "ne")))
  | (apply SH.Stp.keep0 (by assumption))));
        done)))
local macro_rules | `(tactic| walk_at "sq") => `(tactic| (focus
  ((repeat (with_reducible first
  | assumption | exact L2.SqL.of L2.upd_same | exact L2.SqT.of L2.upd_same | exact L2.SqL.of (by assumption) | exact L2.SqT.of (by assumption)
  | (apply SH.sql_off (by assumption)) | (apply SH.sqt_off (by assumption))
  | ((apply SH.sql_offar); (focus (walk_at "ne"))) | ((apply SH.sqt_offar); (focus (walk_at "ne")))
  | (apply SH.Stp.sql0 (by assumption)) | (apply SH.Stp.sqt0 (by assumption))));
        done)))
local macro_rules | `(tactic| walk_at "st") => `(tactic| (focus
  ((repeat (with_reducible first
  | assumption | exact SH.Stp.refl _ _
  | (apply SH.st_new (by assumption)) | (apply SH.st_trans (by assumption)) | ((apply SH.st_put); (focus (walk_at "fr")))));
        done)))
local macro_rules | `(tactic| walk_at "fr") => `(tactic| with_reducible first | assumption | ((apply SH.st_fr (by assumption)); (walk_at "st")))
local macro_rules | `(tactic| walk_at "few") => `(tactic| first | exact SH.few0 | exact SH.few1 | exact SH.few2 | exact SH.few3 | exact SH.few4 | exact SH.few5 | exact SH.few6 | (simp; done))
local macro_rules | `(tactic| walk_at "pf") => `(tactic| first | exact SH.pf_nil | exact SH.pf_hit | (apply SH.pf_miss (by decide) (by walk_at "pf")))
/-! steps with a side -/
local macro_rules | `(tactic| walk_at "r2") => `(tactic| first
  | ((with_reducible refine SH.v_mulI ?_ ?_); (focus (first | exact L2.CMul.ok (.inl ⟨by omega, by omega⟩) | exact L2.CMul.ok (.inr ⟨by omega, by omega⟩) | exact SH.mul64 ⟨by omega, by omega⟩ ⟨by omega, by omega⟩)))
  | ((with_reducible refine SH.v_divS ?_ ?_ ?_); (focus omega); (focus omega))
  | ((with_reducible refine SH.v_mod ?_ ?_); (focus omega))
  | (with_reducible refine SH.v_pow60 ?_)
  | ((with_reducible apply SH.v_lenQ); (focus (walk_at "sq")); (focus (first | exact List.length_map _ | rfl))) | ((with_reducible apply SH.v_lenU); (focus (walk_at "sq")); (focus (first | exact List.length_map _ | rfl)))
  | ((with_reducible apply SH.v_slL); (focus (walk_at "sq"))) | ((with_reducible apply SH.v_iList); (focus (walk_at "sq")))
  | ((with_reducible refine SH.v_rng2 ?_ ?_); (focus (refine ⟨by omega, by omega, by omega, by omega⟩)))
  | ((with_reducible refine SH.v_rng1 ?_ ?_); (focus (refine ⟨by omega, by omega⟩)))
  | ((with_reducible apply SH.v_fld); (focus (walk_at "lk")); (focus rfl)) | ((with_reducible apply SH.v_sfld); (focus (walk_at "lk")); (focus (walk_at "few")); (focus (walk_at "pf"))) | ((with_reducible apply SH.v_aug1); (focus (walk_at "lk")); (focus rfl)) | ((with_reducible apply SH.v_aug2); (focus (walk_at "lk")); (focus (walk_at "few")); (focus (walk_at "pf")))
  | ((with_reducible apply SH.v_enum); (focus (walk_at "sq"))) | ((with_reducible apply SH.v_rev1); (focus (walk_at "sq"))) | ((with_reducible apply SH.v_zip); (focus (walk_at "sq")); (focus (walk_at "sq"))) | ((with_reducible apply SH.v_iTup); (focus (walk_at "sq")))
  | (with_reducible refine SH.v_tup1 ?_) | (with_reducible refine SH.v_tup2 ?_) | (with_reducible refine SH.v_tup3 ?_) | (with_reducible refine SH.v_lst0 ?_) | (with_reducible refine SH.v_lst1 ?_) | (with_reducible refine SH.v_lst2 ?_) | (with_reducible refine SH.v_lst3 ?_) | (with_reducible refine SH.v_lst4 ?_)
  | ((with_reducible apply SH.r_ty); (focus (walk_at "lk")))
  | ((with_reducible apply SH.w_listL); (focus (walk_at "sq"))) | ((with_reducible apply SH.w_listT); (focus (walk_at "sq"))) | ((with_reducible apply SH.w_tupL); (focus (walk_at "sq"))) | ((with_reducible apply SH.w_tupT); (focus (walk_at "sq")))
  | ((with_reducible apply SH.r_gtup); (focus (walk_at "sq")); (focus rfl))
  | ((with_reducible apply SH.r_glst); (focus (walk_at "sq")); (focus rfl))
  | (with_reducible refine SH.r_callX ?_)
  | ((with_reducible refine SH.r_wp ?_ ?_); (focus rfl))
  | ((with_reducible apply SH.v_methX); (focus (walk_at "lk")); (focus rfl)) | ((with_reducible apply SH.v_xf); (focus (walk_at "lk")); (focus rfl)) | ((with_reducible apply SH.v_meth); (focus (walk_at "lk")); (focus rfl)) | ((with_reducible apply SH.isi_L); (focus (walk_at "lk"))) | ((with_reducible apply SH.isi_T); (focus (walk_at "lk"))) | (with_reducible refine SH.isi_bl_bool ?_) | (with_reducible refine SH.isi_bl_int ?_)
  | (with_reducible refine SH.r_ckw ?_) | (with_reducible refine SH.r_ckw2 ?_) | (with_reducible refine SH.r_lrev ?_) | ((with_reducible apply SH.v_lrev); (focus (walk_at "sq")))
  | ((with_reducible refine SH.v_isiIT ?_)) | ((with_reducible refine SH.v_isiIB ?_)) )
local macro_rules | `(tactic| walk_at "r1") => `(tactic| first | walk_at "r0" | walk_at "r2")
local macro_rules | `(tactic| walk_at "rd") => `(tactic| repeat walk_at "r1")
/-! the same, up to the making of an instance, or a call -/
local macro_rules | `(tactic| walk_at "rq") => `(tactic| repeat ((fail_if_success (with_reducible refine SH.r_make ?_)); walk_at "r1"))
local macro_rules | `(tactic| walk_at "rc") => `(tactic| repeat ((fail_if_success (with_reducible refine SH.r_call ?_)); walk_at "r1"))
/-! the same, up to an if -/
local macro_rules | `(tactic| walk_at "ri") => `(tactic| repeat ((fail_if_success (with_reducible refine SH.r_ifS ?_)); walk_at "r1"))

namespace Law
open PySem PySem.Spec PyProof.Rows L2 SH NdefX LamX
def top (i : Nat) : Stmt := PySem.Challenge.pw_sorthall_k39_whole_stopped.main.body.getD i (.Pass ⟨0, 0, 0, 0⟩)
abbrev s_stretch_from : Stmt := top 2
theorem sc_stretch_from : FnScope ["asker", "first", "end", "at", "falling"] ["asker", "first", "end"] (defScope s_stretch_from) := ⟨rfl, rfl, rfl, by decide +kernel, rfl, by decide +kernel, by decide +kernel⟩
abbrev s_stretches : Stmt := top 3
theorem sc_stretches : FnScope ["asker", "told", "first", "beyond", "falling"] ["asker"] (defScope s_stretches) := ⟨rfl, rfl, rfl, by decide +kernel, rfl, by decide +kernel, by decide +kernel⟩
abbrev s_spot_of : Stmt := top 5
theorem sc_spot_of : FnScope ["asker", "order", "place", "low", "high", "middle"] ["asker", "order", "place"] (defScope s_spot_of) := ⟨rfl, rfl, rfl, by decide +kernel, rfl, by decide +kernel, by decide +kernel⟩
abbrev s_by_putting : Stmt := top 6
theorem sc_by_putting : FnScope ["asker", "order", "place"] ["asker"] (defScope s_by_putting) := ⟨rfl, rfl, rfl, by decide +kernel, rfl, by decide +kernel, by decide +kernel⟩
abbrev s_by_walking : Stmt := top 7
theorem sc_by_walking : FnScope ["asker", "order", "place", "at"] ["asker"] (defScope s_by_walking) := ⟨rfl, rfl, rfl, by decide +kernel, rfl, by decide +kernel, by decide +kernel⟩
abbrev s_TooFar___init__ : Stmt := inClass (top 10) 0
theorem sc_TooFar___init__ : FnScope ["self", "place", "others"] ["self", "place", "others"] (defScope s_TooFar___init__) := ⟨rfl, rfl, rfl, by decide +kernel, rfl, by decide +kernel, by decide +kernel⟩
abbrev s_Spent___init__ : Stmt := inClass (top 11) 0
theorem sc_Spent___init__ : FnScope ["self", "asked"] ["self", "asked"] (defScope s_Spent___init__) := ⟨rfl, rfl, rfl, by decide +kernel, rfl, by decide +kernel, by decide +kernel⟩
abbrev s_Asker___init__ : Stmt := inClass (top 13) 0
theorem sc_Asker___init__ : FnScope ["self", "row", "rule", "most"] ["self", "row", "rule", "most"] (defScope s_Asker___init__) := ⟨rfl, rfl, rfl, by decide +kernel, rfl, by decide +kernel, by decide +kernel⟩
abbrev s_Asker_many : Stmt := inClass (top 13) 1
theorem sc_Asker_many : FnScope ["self"] ["self"] (defScope s_Asker_many) := ⟨rfl, rfl, rfl, by decide +kernel, rfl, by decide +kernel, by decide +kernel⟩
abbrev s_Asker_ahead : Stmt := inClass (top 13) 2
theorem sc_Asker_ahead : FnScope ["self", "p", "q", "later", "earlier", "said"] ["self", "p", "q"] (defScope s_Asker_ahead) := ⟨rfl, rfl, rfl, by decide +kernel, rfl, by decide +kernel, by decide +kernel⟩
abbrev s_Asker_answers : Stmt := inClass (top 13) 3
theorem sc_Asker_answers : FnScope ["self"] ["self"] (defScope s_Asker_answers) := ⟨rfl, rfl, rfl, by decide +kernel, rfl, by decide +kernel, by decide +kernel⟩
abbrev s_Asker_widen : Stmt := inClass (top 13) 4
theorem sc_Asker_widen : FnScope ["self", "more"] ["self", "more"] (defScope s_Asker_widen) := ⟨rfl, rfl, rfl, by decide +kernel, rfl, by decide +kernel, by decide +kernel⟩
abbrev s_Rule_before : Stmt := inClass (top 15) 0
theorem sc_Rule_before : FnScope ["self", "x", "y"] ["self", "x", "y"] (defScope s_Rule_before) := ⟨rfl, rfl, rfl, by decide +kernel, rfl, by decide +kernel, by decide +kernel⟩
abbrev s_AskedRule___init__ : Stmt := inClass (top 16) 0
theorem sc_AskedRule___init__ : FnScope ["self", "teller"] ["self", "teller"] (defScope s_AskedRule___init__) := ⟨rfl, rfl, rfl, by decide +kernel, rfl, by decide +kernel, by decide +kernel⟩
abbrev s_AskedRule_before : Stmt := inClass (top 16) 1
theorem sc_AskedRule_before : FnScope ["self", "x", "y", "ask"] ["self", "x", "y"] (defScope s_AskedRule_before) := ⟨rfl, rfl, rfl, by decide +kernel, rfl, by decide +kernel, by decide +kernel⟩
abbrev s_by_reach : Stmt := top 18
theorem sc_by_reach : FnScope ["asker", "reach", "order", "place", "start"] ["asker", "reach"] (defScope s_by_reach) := ⟨rfl, rfl, rfl, by decide +kernel, rfl, by decide +kernel, by decide +kernel⟩
abbrev s__law_cell_at : Stmt := top 20
theorem sc__law_cell_at : FnScope ["_law_script", "_law_k"] ["_law_script", "_law_k"] (defScope s__law_cell_at) := ⟨rfl, rfl, rfl, by decide +kernel, rfl, by decide +kernel, by decide +kernel⟩
abbrev s__law_digits : Stmt := top 21
theorem sc__law_digits : FnScope ["_law_script", "_law_k", "_law_base", "_law_spare_ones", "_law_found", "_law_cell", "_law_turn"] ["_law_script", "_law_k", "_law_base"] (defScope s__law_digits) := ⟨rfl, rfl, rfl, by decide +kernel, rfl, by decide +kernel, by decide +kernel⟩
abbrev s__law_stream : Stmt := top 22
theorem sc__law_stream : FnScope ["_law_cell", "_law_many", "_law_found", "_law_number", "_law_k"] ["_law_cell", "_law_many"] (defScope s__law_stream) := ⟨rfl, rfl, rfl, by decide +kernel, rfl, by decide +kernel, by decide +kernel⟩
abbrev s__law_blocks : Stmt := top 23
theorem sc__law_blocks : FnScope ["_law_keys_here", "_law_cell", "_law_row", "_law_number", "_law_part"] ["_law_keys_here", "_law_cell"] (defScope s__law_blocks) := ⟨rfl, rfl, rfl, by decide +kernel, rfl, by decide +kernel, by decide +kernel⟩
abbrev s__law_nearly : Stmt := top 24
theorem sc__law_nearly : FnScope ["_law_keys_here", "_law_cell", "_law_row", "_law_number", "_law_at", "_law_key"] ["_law_keys_here", "_law_cell"] (defScope s__law_nearly) := ⟨rfl, rfl, rfl, by decide +kernel, rfl, by decide +kernel, by decide +kernel⟩
abbrev s__law_keys : Stmt := top 25
theorem sc__law_keys : FnScope ["_law_script", "_law_most", "_law_mode", "_law_mix", "_law_width", "_law_keys_here", "_law_way_here", "_law_cell", "_law_number"] ["_law_script", "_law_most"] (defScope s__law_keys) := ⟨rfl, rfl, rfl, by decide +kernel, rfl, by decide +kernel, by decide +kernel⟩
abbrev s__law_whole : Stmt := top 26
theorem sc__law_whole : FnScope ["_law_found"] ["_law_found"] (defScope s__law_whole) := ⟨rfl, rfl, rfl, by decide +kernel, rfl, by decide +kernel, by decide +kernel⟩
abbrev s__law_bits : Stmt := top 27
theorem sc__law_bits : FnScope ["_law_script", "_law_mix", "_law_number"] ["_law_script", "_law_mix"] (defScope s__law_bits) := ⟨rfl, rfl, rfl, by decide +kernel, rfl, by decide +kernel, by decide +kernel⟩
abbrev s__law_teller : Stmt := top 28
theorem sc__law_teller : FnScope ["_law_log", "_law_bits_here", "_law_teller_here"] ["_law_log", "_law_bits_here"] (defScope s__law_teller) := ⟨rfl, rfl, rfl, by decide +kernel, rfl, by decide +kernel, by decide +kernel⟩
abbrev s__law_way : Stmt := top 29
theorem sc__law_way : FnScope ["_law_way_here", "_law_asker"] ["_law_way_here", "_law_asker"] (defScope s__law_way) := ⟨rfl, rfl, rfl, by decide +kernel, rfl, by decide +kernel, by decide +kernel⟩
abbrev s__law_told : Stmt := top 30
theorem sc__law_told : FnScope ["_law_way_here", "_law_asker", "_law_told_here", "e"] ["_law_way_here", "_law_asker"] (defScope s__law_told) := ⟨rfl, rfl, rfl, by decide +kernel, rfl, by decide +kernel, by decide +kernel⟩
abbrev s__law_each_once : Stmt := top 31
theorem sc__law_each_once : FnScope ["_law_told_here", "_law_many", "_law_place"] ["_law_told_here", "_law_many"] (defScope s__law_each_once) := ⟨rfl, rfl, rfl, by decide +kernel, rfl, by decide +kernel, by decide +kernel⟩
abbrev s__law_bound : Stmt := top 32
theorem sc__law_bound : FnScope ["_law_way_here", "_law_log", "_law_many", "_law_k", "_law_one"] ["_law_way_here", "_law_log", "_law_many"] (defScope s__law_bound) := ⟨rfl, rfl, rfl, by decide +kernel, rfl, by decide +kernel, by decide +kernel⟩
abbrev s_law : Stmt := top 33
theorem sc_law : FnScope ["_law_script", "_law_keys_here", "_law_row", "_law_way_here", "_law_bits_here", "_law_free", "_law_word", "_law_told_here", "_law_total", "_law_most", "_law_log", "_law_asker", "_law_again", "_law_made", "_law_k", "_law_key"] ["_law_script"] (defScope s_law) := ⟨rfl, rfl, rfl, by decide +kernel, rfl, by decide +kernel, by decide +kernel⟩
abbrev s__law_teller___law_teller_here : Stmt := inDef (top 28) 0
theorem sc__law_teller___law_teller_here : NScope ["_law_x", "_law_y", "_law_bits_here", "_law_log", "_law_said"] ["_law_x", "_law_y"] ["_law_bits_here", "_law_log"] (C8.fnScope s__law_teller___law_teller_here) := nscope_by (by decide +kernel)
structure Ad where
  HallError : Addr
  TooFar : Addr
  Spent : Addr
  Asker : Addr
  Rule : Addr
  AskedRule : Addr
  P : Addr
structure Txt (K : PySem.W.Frag) (mg : Str → Option Value) (A : Ad) : Prop where
  z_ValueError : mg "ValueError" = Option.none
  z_len : mg "len" = Option.none
  z_range : mg "range" = Option.none
  z_sorted : mg "sorted" = Option.none
  z_min : mg "min" = Option.none
  z_list : mg "list" = Option.none
  z_max : mg "max" = Option.none
  z_isinstance : mg "isinstance" = Option.none
  z_int : mg "int" = Option.none
  z_sum : mg "sum" = Option.none
  z_reversed : mg "reversed" = Option.none
  z_bool : mg "bool" = Option.none
  z_enumerate : mg "enumerate" = Option.none
  g_HallError : mg "HallError" = some (.ref A.HallError)
  g_TooFar : mg "TooFar" = some (.ref A.TooFar)
  g_Spent : mg "Spent" = some (.ref A.Spent)
  ox_Spent : L2.OexC K A.Spent
  na_Spent_asked : PySem.W.findIn K (.ref A.Spent) "asked" = some none
  kp_Spent : PySem.W.keepIn K (.ref A.Spent) = true
  sb_Spent : PySem.W.subIn K (.ref A.Spent) (.type "BaseException") = some true
  ty_Spent : PySem.W.typeIn K (.ref A.Spent) = some (.type "type")
  ec_Spent : L2.ExcC K A.Spent
  g_Asker : mg "Asker" = some (.ref A.Asker)
  cl_Asker : Cls K A.Asker
  na_Asker_row : NoAttr K A.Asker "row"
  na_Asker_rule : NoAttr K A.Asker "rule"
  na_Asker_most : NoAttr K A.Asker "most"
  na_Asker_asked : NoAttr K A.Asker "asked"
  na_Asker_log : NoAttr K A.Asker "log"
  g_Rule : mg "Rule" = some (.ref A.Rule)
  cl_Rule : Cls K A.Rule
  g_AskedRule : mg "AskedRule" = some (.ref A.AskedRule)
  cl_AskedRule : Cls K A.AskedRule
  na_AskedRule_teller : NoAttr K A.AskedRule "teller"
  exm_Spent_Spent : PySem.W.exmOne K (.ref A.Spent) (.ref A.Spent) = some true
/-! ### papers -/
/-- nats in a list of the heap -/
abbrev nv (ps : List Nat) : List V := ps.map fun n : Nat => V.int n
def Pap (ps : List Nat) : Prop := ps.Perm (List.range ps.length)
theorem Pap.lt {ps : List Nat} (h : Pap ps) {p : Nat} (hp : p ∈ ps) : p < ps.length := List.mem_range.mp (h.mem_iff.mp hp)
theorem Pap.mem {ps : List Nat} (h : Pap ps) {p : Nat} (hp : p < ps.length) : p ∈ ps := h.mem_iff.mpr (List.mem_range.mpr hp)
theorem Pap.nodup {ps : List Nat} (h : Pap ps) : ps.Nodup := h.nodup_iff.mpr List.nodup_range
theorem pap_range (n : Nat) : Pap (List.range n) := by unfold Pap; rw [List.length_range]
/-- the paper back -/
def inv (ps : List Nat) : List Nat := (List.range ps.length).map fun i => ps.idxOf i
theorem inv_len (ps : List Nat) : (inv ps).length = ps.length := by simp [inv]
theorem inv_at {ps : List Nat} {i : Nat} (h : i < ps.length) : (inv ps)[i]? = some (ps.idxOf i) := by simp [inv, h]
theorem Pap.idx {ps : List Nat} (h : Pap ps) {i : Nat} (hi : i < ps.length) : ps.idxOf i < ps.length ∧ ps[ps.idxOf i]? = some i := by
  have hm := h.mem hi
  have hl := List.idxOf_lt_length_of_mem hm
  exact ⟨hl, by rw [List.getElem?_eq_getElem hl]; simp⟩
theorem Pap.idx_at {ps : List Nat} (h : Pap ps) {a p : Nat} (e : ps[a]? = some p) : ps.idxOf p = a := by
  obtain ⟨ha, e⟩ := List.getElem?_eq_some_iff.mp e
  rw [← e]
  exact List.Nodup.idxOf_getElem h.nodup a ha
/-- told[ps[a]] = a all through -/
theorem Pap.inv_of {ps told : List Nat} (h : Pap ps) (hl : told.length = ps.length) (ht : ∀ (a p : Nat), ps[a]? = some p → told[p]? = some a) : told = inv ps := by
  refine List.ext_getElem? fun i => ?_
  by_cases hi : i < ps.length
  · rw [inv_at hi]
    exact ht _ _ (h.idx hi).2
  · rw [List.getElem?_eq_none (by omega), List.getElem?_eq_none (by rw [inv_len]; omega)]
theorem Pap.inv {ps : List Nat} (h : Pap ps) : Pap (inv ps) := by
  unfold Pap
  rw [inv_len]
  refine (List.perm_ext_iff_of_nodup ?_ List.nodup_range).mpr fun a => ?_
  · unfold Law.inv
    refine List.pairwise_map.mpr (List.Pairwise.imp_of_mem ?_ List.nodup_range)
    intro x y hx hy hne e
    have ex := (h.idx (List.mem_range.mp hx)).2
    have ey := (h.idx (List.mem_range.mp hy)).2
    rw [e] at ex
    exact hne (Option.some.inj (ex.symm.trans ey))
  · unfold Law.inv
    rw [List.mem_map, List.mem_range]
    constructor
    · rintro ⟨i, hi, rfl⟩; exact (h.idx (List.mem_range.mp hi)).1
    · intro ha
      refine ⟨ps[a], List.mem_range.mpr (h.lt (List.getElem_mem ha)), h.idx_at (by simp [ha])⟩
/-- what is laid -/
def lay {α : Type} (d : α) (row : List α) (ps : List Nat) : List α := ps.map fun p => row.getD p d
theorem lay_len {α : Type} {d : α} {row : List α} {ps : List Nat} : (lay d row ps).length = ps.length := by simp [lay]
theorem lay_map {α β : Type} (f : α → β) (d : α) (row : List α) (ps : List Nat) : lay (f d) (row.map f) ps = (lay d row ps).map f := by
  unfold lay
  rw [List.map_map]
  refine List.map_congr_left fun p _ => ?_
  simp [List.getD_eq_getElem?_getD, Option.getD_map]
/-- laid by a paper and then by another one -/
theorem lay_lay {α : Type} {d : α} {row : List α} {ps qs : List Nat} (h : ∀ q ∈ qs, q < ps.length) : lay d (lay d row ps) qs = lay d row (lay 0 ps qs) := by
  unfold lay
  rw [List.map_map]
  refine List.map_congr_left fun q hq => ?_
  have := h q hq
  simp [this]
theorem lay_stay {α : Type} {d : α} {row : List α} : lay d row (List.range row.length) = row := by
  refine List.ext_getElem? fun i => ?_
  by_cases hi : i < row.length
  · simp [lay, hi]
  · rw [List.getElem?_eq_none (by rw [lay_len, List.length_range]; omega), List.getElem?_eq_none (by omega)]
theorem Pap.lay_inv {ps : List Nat} (h : Pap ps) : lay 0 ps (Law.inv ps) = List.range ps.length := by
  unfold lay Law.inv
  rw [List.map_map]
  refine (List.map_congr_left (g := id) fun i hi => ?_).trans (List.map_id _)
  have := (h.idx (List.mem_range.mp hi)).2
  simp [List.getD_eq_getElem?_getD, this]
theorem Pap.inv_lay {ps : List Nat} (h : Pap ps) : lay 0 (Law.inv ps) ps = List.range ps.length := by
  refine List.ext_getElem? fun i => ?_
  by_cases hi : i < ps.length
  · have e : ps[i]? = some ps[i] := List.getElem?_eq_getElem hi
    have e2 := inv_at (h.lt (List.getElem_mem hi))
    rw [h.idx_at e] at e2
    simp [lay, hi, List.getD_eq_getElem?_getD, e2]
  · rw [List.getElem?_eq_none (by rw [lay_len]; omega), List.getElem?_eq_none (by rw [List.length_range]; omega)]
theorem Pap.lay {ps qs : List Nat} (h : Pap ps) (k : Pap qs) (e : ps.length = qs.length) : Pap (lay 0 ps qs) := by
  unfold Pap
  rw [lay_len]
  have h1 : (Law.lay 0 ps qs).Perm (Law.lay 0 ps (List.range qs.length)) := List.Perm.map _ k
  rw [← e, lay_stay] at h1
  rw [← e]
  exact h1.trans h
/-- the back of two behind one another -/
theorem Pap.inv_two {ps qs : List Nat} (h : Pap ps) (k : Pap qs) (e : ps.length = qs.length) : Law.inv (Law.lay 0 ps qs) = Law.lay 0 (Law.inv qs) (Law.inv ps) := by
  have hb := h.lay k e
  refine (hb.inv_of (by rw [lay_len, inv_len, lay_len]; exact e) fun a p hp => ?_).symm
  have ha : a < qs.length := by
    have := (List.getElem?_eq_some_iff.mp hp).1
    rwa [lay_len] at this
  have hq : qs[a]? = some qs[a] := List.getElem?_eq_getElem ha
  have hlt := k.lt (List.getElem_mem ha)
  have hp2 : ps[qs[a]]? = some p := by
    simp only [Law.lay, List.getElem?_map, hq, Option.map_some, List.getD_eq_getElem?_getD] at hp
    rw [List.getElem?_eq_getElem (by omega)] at hp ⊢
    exact hp
  have hpl : p < ps.length := h.lt (List.mem_of_getElem? hp2)
  simp only [Law.lay, List.getElem?_map, inv_at hpl, Option.map_some, h.idx_at hp2, List.getD_eq_getElem?_getD, inv_at hlt, k.idx_at hq, Option.getD_some]
/-- put in anywhere -/
theorem Pap.insert {ps : List Nat} (h : Pap ps) (i : Nat) : Pap (ps.take i ++ [ps.length] ++ ps.drop i) := by
  unfold Pap
  have hl : (ps.take i ++ [ps.length] ++ ps.drop i).length = ps.length + 1 := by
    simp only [List.length_append, List.length_take, List.length_drop, List.length_singleton]; omega
  rw [hl, List.range_succ]
  have : (ps.take i ++ [ps.length] ++ ps.drop i).Perm (ps ++ [ps.length]) := by
    have h1 : (ps.take i ++ [ps.length] ++ ps.drop i).Perm (ps.take i ++ (ps.drop i ++ [ps.length])) := by
      rw [List.append_assoc]
      exact List.Perm.append_left _ List.perm_append_comm
    rw [← List.append_assoc, List.take_append_drop] at h1
    exact h1
  exact this.trans (List.Perm.append_right _ h)
theorem lay_succ {α : Type} {d : α} {row : List α} {qs : List Nat} {j q : Nat} (h : qs[j]? = some q) : lay d row (qs.take (j + 1)) = lay d row (qs.take j) ++ [row.getD q d] := by
  unfold lay
  rw [List.take_succ, h]
  simp
theorem nv_at {ps : List Nat} {q : Nat} (h : q < ps.length) : (nv ps)[q]? = some (.int (ps.getD q 0)) := by simp [nv, h]
theorem nv_app {ps : List Nat} {q : Nat} : nv (ps ++ [q]) = nv ps ++ [.int q] := by simp [nv]
/-! ### the program's papers -/
abbrev ni (ps : List Nat) : List Int := ps.map fun n : Nat => (n : Int)
theorem nv_ni (ps : List Nat) : nv ps = (ni ps).map V.int := by unfold nv ni; rw [List.map_map]; rfl
def PapI (ns : List Int) : Prop := ns.Perm (ni (List.range ns.length))
instance (ns : List Int) : Decidable (PapI ns) := inferInstanceAs (Decidable (List.Perm _ _))
theorem Pap.i {ps : List Nat} (h : Pap ps) : PapI (ni ps) := by
  unfold PapI
  rw [List.length_map]
  exact List.Perm.map _ h
theorem PapI.nat {ns : List Int} (h : PapI ns) : ∃ ps, Pap ps ∧ ns = ni ps := by
  have hn : ∀ n ∈ ns, 0 ≤ n := fun n hn => by
    have := h.mem_iff.mp hn
    obtain ⟨m, _, rfl⟩ := List.mem_map.mp this
    omega
  have e : ns = ni (ns.map Int.toNat) := by
    unfold ni
    rw [List.map_map]
    refine (List.map_id ns).symm.trans (List.map_congr_left fun n z => ?_)
    have := hn n z
    show n = ((n.toNat : Nat) : Int)
    omega
  refine ⟨ns.map Int.toNat, ?_, e⟩
  unfold Pap
  rw [List.length_map]
  have := List.Perm.map Int.toNat h
  rw [show List.map Int.toNat (ni (List.range ns.length)) = List.range ns.length by unfold ni; rw [List.map_map]; exact (List.map_congr_left fun n _ => by simp).trans (List.map_id _)] at this
  exact this
theorem sorted_pap {ns ns' : List Int} (hp : ns'.Perm ns) (hs : ns'.Pairwise (· ≤ ·)) : (ns' = ni (List.range ns.length)) ↔ PapI ns := by
  constructor
  · intro e; rw [e] at hp; exact hp.symm
  · intro h
    refine List.Perm.eq_of_pairwise (le := (· ≤ ·)) (fun a b _ _ h1 h2 => Int.le_antisymm h1 h2) hs ?_ (hp.trans h)
    refine List.pairwise_map.mpr (List.Pairwise.imp (fun {a b} h => ?_) List.pairwise_lt_range)
    omega
theorem r_J {t : TS} {D : Ends} {σ : L2.St} {H : Hp} (P : L2.St → Hp → Prop) (hk : ∀ σ' H', P σ' H' → D.nx σ' H') (h : ∀ N : L2.St → Hp → Prop, (∀ σ' H', P σ' H' → N σ' H') → t { D with nx := N } σ H) : t D σ H := h D.nx hk
/-! ### the function that the rule asks: by the first numbers, or by bits -/
def bitY (bits : List Int) (n : Nat) (b : Bool) : Bool := if bits = [] then b else decide (getE bits (n % bits.length) % 2 = 1)
def sp__law_teller___law_teller_here (K : PySem.W.Frag) (A : Ad) : List V → Sp := fun ws vs H Q _ => ∃ (l bq x y : Addr) (evs : List V) (bits : List Int) (kx ky : Int) (px py : Nat), vs = [.ref x, .ref y] ∧ (ws = [.ref bq, .ref l] ∧ H l = some (.lst evs) ∧ H bq = some (.lst (bits.map V.int)) ∧ evs.length ≤ 100000 ∧ H x = some (.tup [.int kx, .int px]) ∧ H y = some (.tup [.int ky, .int py])) ∧
  ∀ t H', Stp [l] H H' → H' l = some (.lst (evs ++ [.ref t])) → H' t = some (.tup [.int px, .int py, .bl (bitY bits evs.length (decide (kx < ky)))]) → Q (.bl (bitY bits evs.length (decide (kx < ky)))) H'
abbrev Clo1 (H : Hp) (f : Addr) (ws : List V) (cl : List (Str × Addr)) (c' : Addr) : Prop := SH.Clo H f s__law_teller___law_teller_here "_law_teller_here" "_law_teller.<locals>._law_teller_here" ["_law_bits_here", "_law_log"] ws cl c'
abbrev telAt : Addr → Hp → Prop := fun f H => ∃ ws cl c', SH.Clo H f s__law_teller___law_teller_here "_law_teller_here" "_law_teller.<locals>._law_teller_here" ["_law_bits_here", "_law_log"] ws cl c'
abbrev telSp (K : PySem.W.Frag) (A : Ad) : Addr → Sp := fun f vs H Q E => ∃ ws cl c', SH.Clo H f s__law_teller___law_teller_here "_law_teller_here" "_law_teller.<locals>._law_teller_here" ["_law_bits_here", "_law_log"] ws cl c' ∧ sp__law_teller___law_teller_here K A ws vs H Q E
theorem cok__law_teller___law_teller_here {P : Program} {w : World} {K : PySem.W.Frag} {mg : Str → Option Value} {base : Heap} {A : Ad} (T : Txt K mg A) : SH.COk P w K mg base CX0 1 s__law_teller___law_teller_here "_law_teller_here" "_law_teller.<locals>._law_teller_here" ["_law_x", "_law_y"] ["_law_bits_here", "_law_log"] (sp__law_teller___law_teller_here K A) := by
  refine SH.cok_of sc__law_teller___law_teller_here (fun _ _ _ _ _ us hl => match us, hl with | [_, _], _ => rfl) (fun ws vs H Q E h => by obtain ⟨_, _, _, _, _, _, _, _, _, _, rfl, _⟩ := h; rfl) (fun A' outer s f cl c' H H0 vs ws Q Q0 E hr h hw lo fin => ?_)
  obtain ⟨l, bq, x, y, evs, bits, kx, ky, px, py, rfl, ⟨rfl, hl, hb, hle, hx, hy⟩, k⟩ := h
  refine ⟨_, (pss_cons (ps_set (i := 4) sc__law_teller___law_teller_here.nd rfl (Or.inl rfl) (pe_cmpR (SH.oLt hr.units0) (pe_ix SH.ixA (pv 0) pe_int (fun _ _ => rfl)) (pe_ix SH.ixA (pv 1) pe_int (fun _ _ => rfl)) (nomark _)))
        (pss_cons (ps_if (pt_cmpR (SH.oNe hr.units) (pv 2) (pe_lst pa_nil) (nomark _)) (pss_one (ps_set (i := 4) sc__law_teller___law_teller_here.nd rfl (Or.inl rfl) (pe_cmpR (SH.oEq hr.units) (pe_op SH.oMod (pe_ix SH.ixA (pv 2) (pe_op SH.oMod (pe_callB SH.cLen (by rfl) T.z_len (by decide +kernel) (pa_cons (pv 3) pa_nil)) (pe_callB SH.cLen (by rfl) T.z_len (by decide +kernel) (pa_cons (pv 2) pa_nil))) (fun _ _ => rfl)) pe_int) pe_int (nomark _)))) pss_nil)
        (pss_cons (ps_expr (pe_bm PySem.F.plainAttrs_list PySem.F.slot_list_append PySem.F.type_list_append mt_append (pv 3) (pa_cons (pe_tup (pa_cons (pe_ix SH.ixA (pv 0) pe_int (fun _ _ => rfl)) (pa_cons (pe_ix SH.ixA (pv 1) pe_int (fun _ _ => rfl)) (pa_cons (pv 4) pa_nil)))) pa_nil)))
        (pss_one (ps_ret (pv 4)))))), ?_⟩
  show (_ : TS) _ [some (.ref x), some (.ref y), some (.ref bq), some (.ref l), none] H0
  dsimp only [NdefX.ncx]
  have hl0 := lo _ _ hl True.intro
  have hb0 := lo _ _ hb True.intro
  have hx0 := lo _ _ hx True.intro
  have hy0 := lo _ _ hy True.intro
  walk_at "rd"
  refine v_ixTn (n := 0) (SqT.of hx0) rfl rfl ?_
  walk_at "rd"
  refine v_ixTn (n := 0) (SqT.of hy0) rfl rfl ?_
  walk_at "ri"
  refine r_J (fun σ' H' => Stp [] H0 H' ∧ σ' = [some (.ref x), some (.ref y), some (.ref bq), some (.ref l), some (.bl (bitY bits evs.length (decide (kx < ky))))]) ?_ fun N hN => ?_
  rotate_left
  · walk_at "rd"
    intro z hz
    have S1 := (Stp.refl [] H0).new (o := .lst []) hz
    have hz1 := upd_same (H := H0) (a := z) (o := .lst [])
    have hl1 := S1.keep0 hl0
    have hb1 := S1.keep0 hb0
    generalize upd H0 z (.lst []) = H1 at S1 hz1 hl1 hb1 ⊢
    refine v_neE (α := List Int) (is_lst (SqL.of hb1) isl_ints) (is_lst (SqL.of hz1) isl_nil) ?_
    by_cases hbs : bits = []
    · rw [@decide_eq_true _ (Enc.dec _ _) hbs]
      walk_at "rd"
      exact hN _ _ ⟨S1, by unfold bitY; rw [if_pos hbs]⟩
    · rw [@decide_eq_false _ (Enc.dec _ _) hbs]
      have hbl : 0 < bits.length := List.length_pos_iff.mpr hbs
      walk_at "rd"
      rw [show ((evs.length : Nat) : Int) % ((bits.length : Nat) : Int) = ((evs.length % bits.length : Nat) : Int) from (Int.natCast_emod _ _).symm]
      refine v_ixE (n := evs.length % bits.length) (SqL.of hb1) rfl (Nat.mod_lt _ hbl) ?_
      walk_at "rd"
      exact hN _ _ ⟨S1, by unfold bitY; rw [if_neg hbs]⟩
  rintro σ' H1 ⟨S1, rfl⟩
  dsimp only
  have hl1 := S1.keep0 hl0
  have hx1 := S1.keep0 hx0
  have hy1 := S1.keep0 hy0
  generalize bitY bits evs.length (decide (kx < ky)) = said at k ⊢
  walk_at "rd"
  refine v_ixTn (n := 1) (SqT.of hx1) rfl rfl ?_
  walk_at "rd"
  refine v_ixTn (n := 1) (SqT.of hy1) rfl rfl ?_
  walk_at "rd"
  intro t ht
  walk_at "rd"
  have ntl : t ≠ l := (ne_of_none hl1 ht).symm
  refine v_app (upd_old hl1 ht) (by omega) ?_
  walk_at "rd"
  refine fin _ [l] _ ((S1.mono (by simp)).trans (((Stp.refl [l] H1).new ht).putL (by simp) (upd_old hl1 ht))) fun H' S hsub => ?_
  exact k t H' S (hsub l _ upd_same) (hsub t _ (upd_far ntl upd_same))
abbrev Tb (A : Ad) : List NTab := [(A.P, fun _ _ => "_law_teller.<locals>._law_teller_here")]
def sp__law_teller (K : PySem.W.Frag) (A : Ad) : Sp := fun vs H Q _ => ∃ (p0 p1 : V), vs = [p0, p1] ∧ TabsN (Tb A) H ∧ ∀ (f' : Addr) (H' : Hp) (cl : List (Str × Addr)) (c' : Addr), ExtN H H' → (∀ b, H' b = none → H b = none) → TabsN (Tb A) H' → H f' = none → SH.Clo H' f' s__law_teller___law_teller_here "_law_teller_here" "_law_teller.<locals>._law_teller_here" ["_law_bits_here", "_law_log"] [p1, p0] cl c' → Q (.ref f') H'
theorem ok__law_teller {P : Program} {w : World} {K : PySem.W.Frag} {mg : Str → Option Value} {base : Heap} {A : Ad} {f c : Addr} {dV kV doc pm ct oc : Value} {an od : Option Addr} {osl : Array (Option Value)} (lk : K.lookup f = some ⟨oc, od, .func (PySem.W.fnOf "_law_teller" "_law_teller" (defArgs s__law_teller) (defBody s__law_teller) (defScope s__law_teller) dV kV doc pm an (.ref c) ct), osl⟩) (hcd : PySem.W.codeIn K (.ref c) "_law_teller" = true) (TB : LamX.TabB base mg c A.P) :
    FnOk P w K mg base CX0 1 f (PySem.W.fnOf "_law_teller" "_law_teller" (defArgs s__law_teller) (defBody s__law_teller) (defScope s__law_teller) dV kV doc pm an (.ref c) ct) ["_law_log", "_law_bits_here"] (sp__law_teller K A) := by
  refine SH.maker (T := Tb A) (fr := ["_law_bits_here", "_law_log"]) (ps := ["_law_log", "_law_bits_here"]) (i := 2) (st := s__law_teller___law_teller_here) (ix := [1, 0]) lk hcd sc__law_teller rfl rfl TB (List.mem_singleton.mpr rfl) rfl (fun p hp _ => by rw [List.mem_singleton] at hp; rw [hp]) (fun _ _ => rfl) (by decide +kernel) (by decide +kernel) (by decide +kernel) rfl rfl (fun _ => rfl) rfl rfl (by decide) (by decide) (by decide) rfl (fun vs H Q E h => by obtain ⟨_, _, rfl, _⟩ := h; rfl) (fun vs H Q E h => ?_)
  obtain ⟨p0, p1, rfl, h1, h2⟩ := h
  exact ⟨h1, h2⟩
/-! ### asks: the later place, the earlier one, what was told -/
abbrev Ent := T3 Nat Nat Bool
/-- all entries are what the oracle tells -/
def Told (or : List Ent → Nat → Nat → Bool) : List Ent → List Ent → Prop
  | _, [] => True
  | log, e :: es => e.c = or log e.a e.b ∧ Told or (log ++ [e]) es
theorem Told.app {or : List Ent → Nat → Nat → Bool} : ∀ {log es fs : List Ent}, Told or log es → Told or (log ++ es) fs → Told or log (es ++ fs)
  | log, [], fs, _, h => by simpa using h
  | log, e :: es, fs, h, k => ⟨h.1, Told.app h.2 (by simpa using k)⟩
theorem Told.one {or : List Ent → Nat → Nat → Bool} {log : List Ent} {e : Ent} (h : e.c = or log e.a e.b) : Told or log [e] := ⟨h, True.intro⟩
/-- an oracle that doesn't look at the log -/
theorem Told.all {lt : Nat → Nat → Bool} : ∀ {log es : List Ent}, Told (fun _ => lt) log es → ∀ e ∈ es, e.c = lt e.a e.b
  | log, [], _, e, h => by cases h
  | log, e' :: es, h, e, he => by
    rcases List.mem_cons.mp he with z | he
    · rw [z]; exact h.1
    · exact Told.all h.2 e he
theorem max_v (p q : Nat) : (if (q : Int) > (p : Int) then (q : Int) else (p : Int)) = ((max p q : Nat) : Int) := by split <;> omega
theorem min_v (p q : Nat) : (if (q : Int) < (p : Int) then (q : Int) else (p : Int)) = ((min p q : Nat) : Int) := by split <;> omega
def AskF (r : Addr) (u : V) (n : Nat) (l : Addr) : List (Str × V) := [("row", .ref r), ("rule", u), ("most", .non), ("asked", .int n), ("log", .ref l)]
def sp_Spent___init__ (K : PySem.W.Frag) (A : Ad) : Sp := sp1 "asked" A.Spent
theorem ok_Spent___init__ {P : Program} {w : World} {K : PySem.W.Frag} {mg : Str → Option Value} {base : Heap} {A : Ad} {f : Addr} {fd : FuncData} (F : Fun K "__init__" "Spent.__init__" s_Spent___init__ f fd) (T : Txt K mg A)  : FnOk P w K mg base CX0 1 f fd ["self", "asked"] (sp_Spent___init__ K A) := by
  refine F.ok sc_Spent___init__ (fun vs H Q E h => by obtain ⟨_, _, rfl, _⟩ := h; rfl) (fun cdv A' outer s H vs Q E hr h => ?_)
  obtain ⟨a, v, rfl, ha, k⟩ := h
  refine ⟨_, (pss_one (L2.ps_ost (pv 0) (pv 1))), ?_⟩
  walk_at "begin"
  walk_at "rd"
  refine ⟨a, A.Spent, rfl, T.ox_Spent, T.na_Spent_asked, .inl ⟨ha, fun dx h1 h2 => ?_⟩⟩
  exact k dx h1 h2
def mV : Option Nat → V
  | none => .non
  | some n => .int (n : Nat)
def AskM (r : Addr) (u : V) (m : Option Nat) (n : Nat) (l : Addr) : List (Str × V) := [("row", .ref r), ("rule", u), ("most", mV m), ("asked", .int n), ("log", .ref l)]
def sp_AskedRule___init__ (K : PySem.W.Frag) (A : Ad) : Sp := fun vs H Q _ => ∃ (s : Addr) (f : V), vs = [.ref s, f] ∧ (∃ dx, H s = some (.ins A.AskedRule dx [])) ∧ ∀ dx, Q .non (upd H s (.ins A.AskedRule dx [("teller", f)]))
theorem ok_AskedRule___init__ {P : Program} {w : World} {K : PySem.W.Frag} {mg : Str → Option Value} {base : Heap} {A : Ad} {f : Addr} {fd : FuncData} (F : Fun K "__init__" "AskedRule.__init__" s_AskedRule___init__ f fd) (T : Txt K mg A)  : FnOk P w K mg base CX0 1 f fd ["self", "teller"] (sp_AskedRule___init__ K A) := by
  refine F.ok sc_AskedRule___init__ (fun vs H Q E h => by obtain ⟨_, _, rfl, _⟩ := h; rfl) (fun cdv A' outer s H vs Q E hr h => ?_)
  obtain ⟨s', f', rfl, ⟨dx, hs⟩, k⟩ := h
  refine ⟨_, (pss_one (SH.ps_fldF T.cl_AskedRule T.na_AskedRule_teller (pv 0) (pv 1) rfl)), ?_⟩
  walk_at "begin"
  walk_at "rd"
  exact k dx

def sp_AskedRule_before (K : PySem.W.Frag) (A : Ad) : Sp := fun vs H Q E => ∃ (u f x y d : Addr), vs = [.ref u, .ref x, .ref y] ∧ H u = some (.ins A.AskedRule d [("teller", .ref f)]) ∧ telAt f H ∧ telSp K A f [.ref x, .ref y] H Q (fun _ _ _ => False)
theorem ok_AskedRule_before {P : Program} {w : World} {K : PySem.W.Frag} {mg : Str → Option Value} {base : Heap} {A : Ad} {f : Addr} {fd : FuncData} (F : Fun K "before" "AskedRule.before" s_AskedRule_before f fd) (T : Txt K mg A) (TEL : SH.TelOk P w K mg base 1 telAt (telSp K A)) : FnOk P w K mg base CX0 2 f fd ["self", "x", "y"] (sp_AskedRule_before K A) := by
  refine F.ok sc_AskedRule_before (fun vs H Q E h => by obtain ⟨_, _, _, _, _, rfl, _⟩ := h; rfl) (fun cdv A' outer s H vs Q E hr h => ?_)
  obtain ⟨u, f', x, y, d, rfl, hu, hat, k⟩ := h
  refine ⟨_, (pss_cons (ps_set (i := 3) sc_AskedRule_before.nd rfl (Or.inl rfl) (SH.pe_fldF T.cl_AskedRule T.na_AskedRule_teller (pv 0)))
        (pss_one (ps_ret (SH.pe_callTel (i := 3) TEL hr rfl (Or.inl rfl) (pa_cons (pv 1) (pa_cons (pv 2) pa_nil)))))), ?_⟩
  walk_at "begin"
  walk_at "rd"
  refine SH.r_tel rfl hat ?_
  walk_at "rd"
  exact k

/-! ### the asker of a function that goes by keys and writes down -/
/-- a row of pairs (key, place) -/
def RowP (H : Hp) (row : List V) (ks : List Int) : Prop := row.length = ks.length ∧ ∀ (i : Nat) (v : V), row[i]? = some v → ∃ (t : Addr), v = .ref t ∧ H t = some (.tup [.int (getE ks i), .int (i : Nat)])
theorem RowP.stp {M : List Addr} {H H' : Hp} {row : List V} {ks : List Int} (h : RowP H row ks) (S : Stp M H H') : RowP H' row ks :=
  ⟨h.1, fun i v e => by obtain ⟨t, h1, h2⟩ := h.2 i v e; exact ⟨t, h1, S.tup h2⟩⟩
theorem RowP.app {H : Hp} {row : List V} {ks : List Int} {t : Addr} {k : Int} (h : RowP H row ks) (ht : H t = some (.tup [.int k, .int (row.length : Nat)])) : RowP H (row ++ [.ref t]) (ks ++ [k]) := by
  refine ⟨by simp [h.1], fun i v e => ?_⟩
  by_cases hi : i < row.length
  · rw [List.getElem?_append_left hi] at e
    obtain ⟨t', a, b⟩ := h.2 i v e
    exact ⟨t', a, by rw [getE_app (by rw [← h.1]; exact hi)]; exact b⟩
  · rw [List.getElem?_append_right (by omega)] at e
    have hz : i = row.length := by
      have := (List.getElem?_eq_some_iff.mp e).1
      simp at this; omega
    subst hz
    simp at e
    exact ⟨t, e.symm, by rw [getE_last h.1.symm]; exact ht⟩
structure Ask where
  s : Addr
  r : Addr
  l : Addr
  dx : Addr
  u : Addr
  du : Addr
  f : Addr
  tl : Addr
  cl : List (Str × Addr)
  cc : Addr
  ks : List Int
  row : List V
  pre : List Ent
  bq : Addr
  bits : List Int
  m : Option Nat
def Ask.n (I : Ask) : Nat := I.ks.length
def Ask.M (I : Ask) : List Addr := [I.s, I.l, I.tl]
def Ask.own (I : Ask) : List Addr := [I.s, I.l, I.tl, I.r, I.u, I.bq]
def Ask.lt (I : Ask) (p q : Nat) : Bool := decide (getE I.ks p < getE I.ks q)
def Ask.or (I : Ask) : List Ent → Nat → Nat → Bool := fun log p q => bitY I.bits (I.pre.length + log.length) (I.lt p q)
structure Ask.At (I : Ask) (K : PySem.W.Frag) (A : Ad) (H : Hp) (log : List Ent) : Prop where
  hs : H I.s = some (.ins A.Asker I.dx (AskM I.r (.ref I.u) I.m log.length I.l))
  hr : H I.r = some (.lst I.row)
  hl : ∃ evs, H I.l = some (.lst evs) ∧ IsL K H evs log
  hu : H I.u = some (.ins A.AskedRule I.du [("teller", .ref I.f)])
  ht : ∃ evs, H I.tl = some (.lst evs) ∧ IsL K H evs (I.pre ++ log)
  hf : Clo1 H I.f [.ref I.bq, .ref I.tl] I.cl I.cc
  hb : H I.bq = some (.lst (I.bits.map V.int))
  rk : RowP H I.row I.ks
  d1 : I.s ≠ I.u
  d2 : I.l ≠ I.r
  d3 : I.tl ≠ I.r
  d4 : I.l ≠ I.tl
  d5 : I.s ≠ I.bq ∧ I.l ≠ I.bq ∧ I.tl ≠ I.bq
  few : log.length + I.pre.length ≤ 100000
  rows : I.row.length ≤ 100000
  bd : ∀ m, I.m = some m → log.length ≤ m
theorem Ask.At.stp {I : Ask} {K : PySem.W.Frag} {A : Ad} {M : List Addr} {H H' : Hp} {log : List Ent} (h : I.At K A H log) (S : Stp M H H') (hM : ∀ m ∈ M, m ∉ I.own) : I.At K A H' log := by
  have k : ∀ b o, b ∈ I.own → H b = some o → H' b = some o := fun b o hb e => S.keep e fun z => hM b z hb
  obtain ⟨evs, h1, h2⟩ := h.hl
  obtain ⟨tvs, h3, h4⟩ := h.ht
  exact ⟨k _ _ (by simp [Ask.own]) h.hs, k _ _ (by simp [Ask.own]) h.hr, ⟨evs, k _ _ (by simp [Ask.own]) h1, isl_stpM S h2⟩, k _ _ (by simp [Ask.own]) h.hu, ⟨tvs, k _ _ (by simp [Ask.own]) h3, isl_stpM S h4⟩, h.hf.step S, k _ _ (by simp [Ask.own]) h.hb, h.rk.stp S, h.d1, h.d2, h.d3, h.d4, h.d5, h.few, h.rows, h.bd⟩
theorem Ask.At.n_row {I : Ask} {K : PySem.W.Frag} {A : Ad} {H : Hp} {log : List Ent} (h : I.At K A H log) : I.row.length = I.n := h.rk.1

/-- a way is stopped: the asks so far, es, are the first of those that it would have made, es ++ es' -/
def Stop (I : Ask) (K : PySem.W.Frag) (A : Ad) (H : Hp) (log : List Ent) (R : List Ent → Prop) (E : XK) : Prop := ∀ (H' : Hp) (d : Addr) (es es' : List Ent), R (es ++ es') → es' ≠ [] → Told I.or log (es ++ es') → I.m = some (log.length + es.length) → Stp I.M H H' → I.At K A H' (log ++ es) → H d = none → H' d = some (.xd [("asked", .int ((log.length + es.length : Nat) : Int))]) → E (.ref A.Spent) (some d) H'
theorem Stop.free {I : Ask} {K : PySem.W.Frag} {A : Ad} {H : Hp} {log : List Ent} {R : List Ent → Prop} {E : XK} (h : I.m = none) : Stop I K A H log R E := fun _ _ _ _ _ _ _ hm => by rw [h] at hm; cases hm
theorem Stop.sub {I : Ask} {K : PySem.W.Frag} {A : Ad} {H H1 : Hp} {log es1 : List Ent} {R R1 : List Ent → Prop} {E : XK} (h : Stop I K A H log R E) (S : Stp I.M H H1) (hT : Told I.or log es1) (hR : ∀ es2, R1 es2 → Told I.or (log ++ es1) es2 → ∃ es3, Told I.or (log ++ es1 ++ es2) es3 ∧ R (es1 ++ es2 ++ es3)) : Stop I K A H1 (log ++ es1) R1 E := fun H' d es es' h1 hne hT1 hm S' hA hd hx => by
  obtain ⟨es3, hT3, hR3⟩ := hR _ h1 hT1
  have e : es1 ++ (es ++ es') ++ es3 = es1 ++ es ++ (es' ++ es3) := by simp
  have el : (log ++ es1).length + es.length = log.length + (es1 ++ es).length := by simp; omega
  rw [e] at hR3
  rw [el] at hm hx
  refine h H' d (es1 ++ es) (es' ++ es3) hR3 (by simp [hne]) ?_ hm (S.trans S') (by rw [← List.append_assoc]; exact hA) (S.dom _ hd) hx
  rw [← e]
  exact Told.app (Told.app hT hT1) (by rw [← List.append_assoc]; exact hT3)
theorem Stop.ask {I : Ask} {K : PySem.W.Frag} {A : Ad} {H H1 : Hp} {log es : List Ent} {R : List Ent → Prop} {E : XK} {x y : Nat} (h : Stop I K A H log R E) (S : Stp I.M H H1) (hT : Told I.or log es) (hr : ∃ c es3, Told I.or (log ++ es) ((⟨x, y, c⟩ : Ent) :: es3) ∧ R (es ++ (⟨x, y, c⟩ : Ent) :: es3)) : Stop I K A H1 (log ++ es) (fun es2 => ∃ said, es2 = [(⟨x, y, said⟩ : Ent)]) E := by
  refine h.sub S hT fun es2 ⟨said, e⟩ hT2 => ?_
  subst e
  obtain ⟨c, es3, hT3, hR⟩ := hr
  obtain rfl : said = c := hT2.1.trans hT3.1.symm
  exact ⟨es3, hT3.2, by rw [List.append_assoc]; exact hR⟩
def sp_Asker_ahead (K : PySem.W.Frag) (A : Ad) : Sp := fun vs H Q E => ∃ (I : Ask) (log : List Ent) (p q : Nat), vs = [.ref I.s, .int p, .int q] ∧ (I.At K A H log ∧ p < I.n ∧ q < I.n ∧ p ≠ q ∧ log.length + I.pre.length < 100000) ∧
  Stop I K A H log (fun es => ∃ said, es = [⟨max p q, min p q, said⟩]) E ∧
  ∀ H' said, said = I.or log (max p q) (min p q) → Stp I.M H H' → I.At K A H' (log ++ [⟨max p q, min p q, said⟩]) → Q (.bl (decide (said = decide (q < p)))) H'
theorem ok_Asker_ahead {P : Program} {w : World} {K : PySem.W.Frag} {mg : Str → Option Value} {base : Heap} {A : Ad} {f : Addr} {fd : FuncData} (F : Fun K "ahead" "Asker.ahead" s_Asker_ahead f fd) (T : Txt K mg A) (M_AskedRule_before : SH.CalM P w K mg base CX0 2 A.AskedRule "before" [] (sp_AskedRule_before K A)) (X_Spent : SH.CalE P w K mg base 1 "Spent" A.Spent (sp_Spent___init__ K A)) : FnOk P w K mg base (L2N.CX P w) 3 f fd ["self", "p", "q"] (sp_Asker_ahead K A) := by
  refine SH.okN F sc_Asker_ahead (fun vs H Q E h => by obtain ⟨_, _, _, _, rfl, _⟩ := h; rfl) (fun cdv A' outer s H vs Q E hr h => ?_)
  obtain ⟨I, log, p, q, rfl, ⟨hA, hp, hq, hne, hlog⟩, kx, k⟩ := h
  refine ⟨_, (pss_cons (ps_if (PW.pt (pw_and (pt_cmpR SH.oNotN (SH.pe_fldF T.cl_Asker T.na_Asker_most (pv 0)) pe_non (nomark _)) (pw_and1 (pt_cmpR SH.oGe (SH.pe_fldF T.cl_Asker T.na_Asker_asked (pv 0)) (SH.pe_fldF T.cl_Asker T.na_Asker_most (pv 0)) (nomark _))))) (pss_one (L2N.ps_raise rfl (L2N.takes_of rfl rfl rfl rfl) (SH.pmk_oexN X_Spent hr (by rfl) (pa_cons (SH.pe_fldF T.cl_Asker T.na_Asker_asked (pv 0)) pa_nil)))) pss_nil)
        (pss_cons (ps_set (i := 3) sc_Asker_ahead.nd rfl (Or.inl rfl) (pe_callB (SH.cMax2 rfl) (by rfl) T.z_max (by decide +kernel) (pa_cons (pv 1) (pa_cons (pv 2) pa_nil))))
        (pss_cons (ps_set (i := 4) sc_Asker_ahead.nd rfl (Or.inl rfl) (pe_callB (SH.cMin2 rfl) (by rfl) T.z_min (by decide +kernel) (pa_cons (pv 1) (pa_cons (pv 2) pa_nil))))
        (pss_cons (ps_set (i := 5) sc_Asker_ahead.nd rfl (Or.inl rfl) (SH.pe_methF (SH.pe_fldF T.cl_Asker T.na_Asker_rule (pv 0)) M_AskedRule_before hr pass0 (pa_cons (pe_ix SH.ixA (SH.pe_fldF T.cl_Asker T.na_Asker_row (pv 0)) (pv 3) (fun _ _ => rfl)) (pa_cons (pe_ix SH.ixA (SH.pe_fldF T.cl_Asker T.na_Asker_row (pv 0)) (pv 4) (fun _ _ => rfl)) pa_nil))))
        (pss_cons (SH.ps_fldaugF T.cl_Asker T.na_Asker_asked (pv 0) pe_int SH.in_add')
        (pss_cons (ps_expr (pe_bm PySem.F.plainAttrs_list PySem.F.slot_list_append PySem.F.type_list_append mt_append (SH.pe_fldF T.cl_Asker T.na_Asker_log (pv 0)) (pa_cons (pe_tup (pa_cons (pv 3) (pa_cons (pv 4) (pa_cons (pv 5) pa_nil)))) pa_nil)))
        (pss_one (ps_ret (pe_cmpR (SH.oEq hr.units) (pv 5) (pe_cmpR (SH.oEq hr.units) (pv 1) (pv 3) (nomark _)) (nomark _)))))))))), ?_⟩
  walk_at "begin"
  have hA0 := hA
  have hn := hA.n_row
  obtain ⟨hs, hr, ⟨evs, hl, hev⟩, hu, ⟨tvs, ht, htv⟩, hf, hb, rk, d1, d2, d3, d4, d5, few, rows, bd⟩ := hA
  have nsl : I.s ≠ I.l := ne_of hs hl (by intro z; cases z)
  have nst : I.s ≠ I.tl := ne_of hs ht (by intro z; cases z)
  have nsr : I.s ≠ I.r := ne_of hs hr (by intro z; cases z)
  have nlu : I.l ≠ I.u := ne_of hl hu (by intro z; cases z)
  have ntu : I.tl ≠ I.u := ne_of ht hu (by intro z; cases z)
  unfold AskM at hs
  walk_at "ri"
  refine r_J (fun σ' H' => (I.m ≠ some log.length ∧ H' = H) ∧ σ' = [some (.ref I.s), some (.int p), some (.int q), none, none, none]) ?_ fun N hN => ?_
  rotate_left
  · walk_at "rd"
    cases hm : I.m with
    | none =>
      rw [hm] at hs
      rw [show (!decide (mV none = V.non)) = false by simp [mV], if_neg (by simp)]
      walk_at "rd"
      exact hN _ _ ⟨⟨by rw [hm]; simp, rfl⟩, rfl⟩
    | some m =>
      have hbm := bd m hm
      rw [hm] at hs
      rw [show (!decide (mV (some m) = V.non)) = true by simp [mV], if_pos rfl]
      unfold mV at hs
      walk_at "rd"
      refine r_w (fun hc => ?_) fun hc => ?_
      · obtain rfl : m = log.length := by omega
        walk_at "rd"
        refine v_raise1 fun d hd => ?_
        have S := (Stp.refl [] H).new (o := .xd [("asked", .int (log.length : Nat))]) hd
        exact kx _ d [] [⟨max p q, min p q, I.or log (max p q) (min p q)⟩] ⟨_, rfl⟩ (by simp) ⟨rfl, True.intro⟩ hm (S.mono (by simp)) (by rw [List.append_nil]; exact hA0.stp S (by simp)) hd upd_same
      · walk_at "rd"
        exact hN _ _ ⟨⟨by rw [hm]; simp; omega, rfl⟩, rfl⟩
  rintro σ' H0 ⟨⟨hm, rfl⟩, rfl⟩
  dsimp only
  walk_at "rd"
  rw [max_v, min_v]
  have hmx : max p q < I.row.length := by omega
  have hmn : min p q < I.row.length := by omega
  obtain ⟨t1, e1, ht1⟩ := rk.2 (max p q) _ (List.getElem?_eq_getElem hmx)
  obtain ⟨t2, e2, ht2⟩ := rk.2 (min p q) _ (List.getElem?_eq_getElem hmn)
  walk_at "rd"
  refine v_ixLn (n := max p q) (SqL.of hr) rfl ((List.getElem?_eq_getElem hmx).trans (congrArg some e1)) ?_
  walk_at "rd"
  refine v_ixLn (n := min p q) (SqL.of hr) rfl ((List.getElem?_eq_getElem hmn).trans (congrArg some e2)) ?_
  walk_at "rd"
  have htl := isl_len htv
  rw [List.length_append] at htl
  refine ⟨I.u, I.f, t1, t2, I.du, rfl, hu, ⟨_, _, _, hf⟩, _, _, _, hf, I.tl, I.bq, t1, t2, tvs, I.bits, _, _, _, _, rfl, ⟨rfl, ht, hb, by omega, ht1, ht2⟩, fun t3 H1 S1 hT1 ht3 => ?_⟩
  have ek : bitY I.bits tvs.length (decide (getE I.ks (max p q) < getE I.ks (min p q))) = I.or log (max p q) (min p q) := by rw [htl]; rfl
  rw [ek] at ht3 ⊢
  generalize hsaid : I.or log (max p q) (min p q) = said at ht3 ⊢
  have hs1 := S1.keep1 hs nst
  have hr1 := S1.keep1 hr d3.symm
  have hl1 := S1.keep1 hl d4
  have hu1 := S1.keep1 hu ntu.symm
  have hbq1 := S1.keep1 hb d5.2.2.symm
  walk_at "rd"
  intro tp htp
  have htp0 : H1 tp = none := (upd_free htp).1
  walk_at "rd"
  have hl2 : upd (upd H1 I.s (.ins A.Asker I.dx [("row", .ref I.r), ("rule", .ref I.u), ("most", mV I.m), ("asked", .int (log.length + 1)), ("log", .ref I.l)])) tp (.tup [.int (max p q : Nat), .int (min p q : Nat), .bl said]) I.l = some (.lst evs) := by
    rw [upd_ne (ne_of_none hl1 htp0), upd_ne nsl.symm]; exact hl1
  have hel := isl_len hev
  refine v_app hl2 (by omega) ?_
  walk_at "rd"
  have epl : decide ((p : Int) = ((max p q : Nat) : Int)) = decide (q < p) := by
    apply decide_eq_decide.mpr; omega
  rw [epl]
  have S2 : Stp I.M H1 (upd (upd (upd H1 I.s (.ins A.Asker I.dx [("row", .ref I.r), ("rule", .ref I.u), ("most", mV I.m), ("asked", .int (log.length + 1)), ("log", .ref I.l)])) tp (.tup [.int (max p q : Nat), .int (min p q : Nat), .bl said])) I.l (.lst (evs ++ [.ref tp]))) :=
    (((Stp.refl I.M H1).putM (by simp [Ask.M]) hs1 (fun z => z)).new htp).putM (by simp [Ask.M]) hl2 (fun z => z)
  have S : Stp I.M H0 _ := (S1.mono (M' := I.M) (by simp [Ask.M])).trans S2
  refine k _ said hsaid.symm S ?_
  have ntl : tp ≠ I.l := (ne_of_none hl1 htp0).symm
  have nts : tp ≠ I.s := (ne_of_none hs1 htp0).symm
  have keep : ∀ {b o}, b ≠ I.l → b ≠ I.s → H1 b = some o → upd (upd (upd H1 I.s (.ins A.Asker I.dx [("row", .ref I.r), ("rule", .ref I.u), ("most", mV I.m), ("asked", .int (log.length + 1)), ("log", .ref I.l)])) tp (.tup [.int (max p q : Nat), .int (min p q : Nat), .bl said])) I.l (.lst (evs ++ [.ref tp])) b = some o := fun {b o} h1 h2 h3 => by
    rw [upd_ne h1, upd_ne (ne_of_none h3 htp0), upd_ne h2]; exact h3
  refine ⟨?_, keep d2.symm nsr.symm hr1, ⟨evs ++ [.ref tp], upd_same, isl_app (isl_stpM S hev) (isl_cons (is_t3 (SqT.of (by rw [upd_ne ntl]; exact upd_same)) is_nat is_nat is_bl) isl_nil)⟩, keep nlu.symm d1.symm hu1,
    ⟨tvs ++ [.ref t3], keep d4.symm nst.symm hT1, ?_⟩, hf.step S, keep d5.2.1.symm d5.1.symm hbq1, rk.stp S, d1, d2, d3, d4, d5, by simp; omega, rows, fun m e => by
      have := bd m e
      have : m ≠ log.length := fun z => hm (by rw [e, z])
      simp; omega⟩
  · rw [upd_ne nsl, upd_ne nts.symm, upd_same]
    simp [AskM]
  · rw [← List.append_assoc]
    exact isl_app (isl_stpM S htv) (isl_cons (is_t3 (SqT.of (S2.tup ht3)) is_nat is_nat is_bl) isl_nil)

def Ask.wide (I : Ask) (n : Nat) : Ask := { I with m := I.m.map (· + n) }
theorem wide_some {I : Ask} {n m : Nat} (h : I.m = some m) : (I.wide n).m = some (m + n) := by unfold Ask.wide; rw [h]; rfl
theorem wide_none {I : Ask} {n : Nat} (h : I.m = none) : I.wide n = I := by unfold Ask.wide; rw [h]; cases I; dsimp only at h; subst h; rfl
def sp_Asker_widen (K : PySem.W.Frag) (A : Ad) : Sp := fun vs H Q _ => ∃ (I : Ask) (log : List Ent) (n : Nat), vs = [.ref I.s, .int n] ∧ I.At K A H log ∧ ∀ H', Stp [I.s] H H' → (I.wide n).At K A H' log → Q .non H'
theorem ok_Asker_widen {P : Program} {w : World} {K : PySem.W.Frag} {mg : Str → Option Value} {base : Heap} {A : Ad} {f : Addr} {fd : FuncData} (F : Fun K "widen" "Asker.widen" s_Asker_widen f fd) (T : Txt K mg A)  : FnOk P w K mg base CX0 1 f fd ["self", "more"] (sp_Asker_widen K A) := by
  refine F.ok sc_Asker_widen (fun vs H Q E h => by obtain ⟨_, _, _, rfl, _⟩ := h; rfl) (fun cdv A' outer s H vs Q E hr h => ?_)
  obtain ⟨I, log, n, rfl, hA, k⟩ := h
  refine ⟨_, (pss_one (ps_if (pt_cmpR SH.oNotN (SH.pe_fldF T.cl_Asker T.na_Asker_most (pv 0)) pe_non (nomark _)) (pss_one (SH.ps_fldaugF T.cl_Asker T.na_Asker_most (pv 0) (pv 1) SH.in_add')) pss_nil)), ?_⟩
  walk_at "begin"
  have hA0 := hA
  obtain ⟨hs, hr, ⟨evs, hl, hev⟩, hu, ⟨tvs, ht, htv⟩, hf, hb, rk, d1, d2, d3, d4, d5, few, rows, bd⟩ := hA
  unfold AskM at hs
  walk_at "rd"
  cases hm : I.m with
  | none =>
    rw [hm] at hs
    rw [show (!decide (mV none = V.non)) = false by simp [mV], if_neg (by simp)]
    walk_at "rd"
    refine k H (.refl _ _) ?_
    rw [wide_none hm]
    exact hA0
  | some m =>
    rw [hm] at hs
    rw [show (!decide (mV (some m) = V.non)) = true by simp [mV], if_pos rfl]
    unfold mV at hs
    walk_at "rd"
    have S : Stp [I.s] H (upd H I.s (.ins A.Asker I.dx [("row", .ref I.r), ("rule", .ref I.u), ("most", .int ((m : Int) + (n : Int))), ("asked", .int log.length), ("log", .ref I.l)])) := (Stp.refl _ _).putI (by simp) hs
    have nsl : I.s ≠ I.l := ne_of hs hl (by intro z; cases z)
    have nsr : I.s ≠ I.r := ne_of hs hr (by intro z; cases z)
    have nst : I.s ≠ I.tl := ne_of hs ht (by intro z; cases z)
    refine k _ S ⟨?_, S.keep1 hr nsr.symm, ⟨evs, S.keep1 hl nsl.symm, isl_stpM S hev⟩, S.keep1 hu d1.symm, ⟨tvs, S.keep1 ht nst.symm, isl_stpM S htv⟩, hf.step S, S.keep1 hb d5.1.symm, rk.stp S, d1, d2, d3, d4, d5, few, rows, fun m' e => ?_⟩
    · show upd H I.s _ I.s = some (.ins A.Asker I.dx (AskM I.r (.ref I.u) (I.wide n).m log.length I.l))
      rw [upd_same, wide_some hm]
      have e : mV (some (m + n)) = .int ((m : Int) + (n : Int)) := by unfold mV; congr 1
      unfold AskM
      rw [e]
    · rw [wide_some hm] at e
      cases e
      have := bd m hm
      omega
def sp_Asker_many (K : PySem.W.Frag) (A : Ad) : Sp := fun vs H Q _ => ∃ (I : Ask) (log : List Ent), vs = [.ref I.s] ∧ I.At K A H log ∧ Q (.int I.n) H
theorem ok_Asker_many {P : Program} {w : World} {K : PySem.W.Frag} {mg : Str → Option Value} {base : Heap} {A : Ad} {f : Addr} {fd : FuncData} (F : Fun K "many" "Asker.many" s_Asker_many f fd) (T : Txt K mg A)  : FnOk P w K mg base CX0 1 f fd ["self"] (sp_Asker_many K A) := by
  refine F.ok sc_Asker_many (fun vs H Q E h => by obtain ⟨_, _, rfl, _⟩ := h; rfl) (fun cdv A' outer s H vs Q E hr h => ?_)
  obtain ⟨I, log, rfl, hA, k⟩ := h
  refine ⟨_, (pss_one (ps_ret (pe_callB SH.cLen (by rfl) T.z_len (by decide +kernel) (pa_cons (SH.pe_fldF T.cl_Asker T.na_Asker_row (pv 0)) pa_nil)))), ?_⟩
  walk_at "begin"
  have hn := hA.n_row
  obtain ⟨hs, hr, _⟩ := hA
  unfold AskM at hs
  walk_at "rd"
  rw [hn]
  exact k

def sp_Asker___init__ (K : PySem.W.Frag) (A : Ad) : Sp := fun vs H Q _ => ∃ (s b : Addr) (u : V) (row : List V) (m : Option Nat), vs = [.ref s, .ref b, u, mV m] ∧ (∃ dx, H s = some (.ins A.Asker dx [])) ∧ (SqL K H b row ∧ row.length ≤ 100000) ∧
  ∀ dx r l H', H r = none → H l = none → l ≠ r → s ≠ r → s ≠ l → Stp [s] H H' → H' s = some (.ins A.Asker dx (AskM r u m 0 l)) → H' r = some (.lst row) → H' l = some (.lst []) → Q .non H'
theorem ok_Asker___init__ {P : Program} {w : World} {K : PySem.W.Frag} {mg : Str → Option Value} {base : Heap} {A : Ad} {f : Addr} {fd : FuncData} (F : FunD K "__init__" "Asker.__init__" (defArgs s_Asker___init__) (defBody s_Asker___init__) (defScope s_Asker___init__) [.non] [] f fd) (T : Txt K mg A)  : FnOk P w K mg base CX0 1 f fd ["self", "row", "rule", "most"] (sp_Asker___init__ K A) := by
  refine SH.funD_ok F sc_Asker___init__ (fun vs H Q E h => by obtain ⟨_, _, _, _, _, rfl, _⟩ := h; rfl) (fun cdv A' outer s H vs Q E hr h => ?_)
  obtain ⟨s', b, u, row, m, rfl, ⟨dx, hs⟩, ⟨hb, hl⟩, k⟩ := h
  refine ⟨_, (pss_cons (SH.ps_fldF T.cl_Asker T.na_Asker_row (pv 0) (pe_callTy SH.cListOf (by rfl) T.z_list (by decide +kernel) (pa_cons (pv 1) pa_nil)) rfl)
        (pss_cons (SH.ps_fldF T.cl_Asker T.na_Asker_rule (pv 0) (pv 2) rfl)
        (pss_cons (SH.ps_fldF T.cl_Asker T.na_Asker_most (pv 0) (pv 3) rfl)
        (pss_cons (SH.ps_fldF T.cl_Asker T.na_Asker_asked (pv 0) pe_int rfl)
        (pss_one (SH.ps_fldF T.cl_Asker T.na_Asker_log (pv 0) (pe_lst pa_nil) rfl)))))), ?_⟩
  walk_at "begin"
  walk_at "rd"
  intro r hr
  have nsr : s' ≠ r := ne_of_none hs hr
  walk_at "rd"
  intro l hl2
  have hl0 : H l = none := (upd_free (upd_free (upd_free (upd_free (upd_free hl2).1).1).1).1).1
  have nsl : s' ≠ l := ne_of_none hs hl0
  have nlr : l ≠ r := fun e => by subst e; simp [upd_ne nsr.symm, upd_same] at hl2
  walk_at "rd"
  refine k dx r l _ hr hl0 nlr nsr nsl ?_ upd_same ?_ ?_
  · exact ((((((Stp.refl [s'] H).new hr).putI (by simp) (upd_old hs hr)).putI (by simp) upd_same).putI (by simp) upd_same).putI (by simp) upd_same).new hl2 |>.putI (by simp) (upd_old upd_same hl2)
  · rw [upd_ne nsr.symm, upd_ne nlr.symm, upd_ne nsr.symm, upd_ne nsr.symm, upd_ne nsr.symm, upd_ne nsr.symm]; exact upd_same
  · rw [upd_ne nsl.symm]; exact upd_same
theorem Ask.At.fresh {I : Ask} {K : PySem.W.Frag} {A : Ad} {H : Hp} {log : List Ent} (h : I.At K A H log) {b : Addr} (hb : H b = none) : b ∉ I.M := by
  obtain ⟨evs, h2, _⟩ := h.hl
  obtain ⟨tvs, h3, _⟩ := h.ht
  simp only [Ask.M, List.mem_cons, List.not_mem_nil, or_false, not_or]
  exact ⟨(ne_of_none h.hs hb).symm, (ne_of_none h2 hb).symm, (ne_of_none h3 hb).symm⟩
theorem Ask.At.freshO {I : Ask} {K : PySem.W.Frag} {A : Ad} {H : Hp} {log : List Ent} (h : I.At K A H log) {b : Addr} (hb : H b = none) : b ∉ I.own := by
  obtain ⟨evs, h2, _⟩ := h.hl
  obtain ⟨tvs, h3, _⟩ := h.ht
  simp only [Ask.own, List.mem_cons, List.not_mem_nil, or_false, not_or]
  exact ⟨(ne_of_none h.hs hb).symm, (ne_of_none h2 hb).symm, (ne_of_none h3 hb).symm, (ne_of_none h.hr hb).symm, (ne_of_none h.hu hb).symm, (ne_of_none h.hb hb).symm⟩
/-! ### the spot of a place in an order, by halving -/
inductive Halv (ord : List Nat) (place : Nat) : Nat → Nat → List Ent → Nat → Prop
  | done (low : Nat) : Halv ord place low low [] low
  | up {low high o : Nat} {es : List Ent} {spot : Nat} (h : low < high) (ho : ord[(low + high) / 2]? = some o) (k : Halv ord place ((low + high) / 2 + 1) high es spot) : Halv ord place low high (⟨max o place, min o place, decide (place < o)⟩ :: es) spot
  | down {low high o : Nat} {es : List Ent} {spot : Nat} (h : low < high) (ho : ord[(low + high) / 2]? = some o) (k : Halv ord place low ((low + high) / 2) es spot) : Halv ord place low high (⟨max o place, min o place, !decide (place < o)⟩ :: es) spot
/-! ### each way has a full run, whatever is told; and its first ask -/
theorem Halv.total (or : List Ent → Nat → Nat → Bool) {ord : List Nat} {place : Nat} : ∀ (m low high : Nat) (log : List Ent), high - low = m → low ≤ high → high ≤ ord.length → ∃ es r, Halv ord place low high es r ∧ Told or log es := by
  intro m
  induction m using Nat.strongRecOn with
  | _ m ih =>
    intro low high log hm h1 h2
    by_cases h : low < high
    · have hmid : (low + high) / 2 < ord.length := by omega
      have ho : ord[(low + high) / 2]? = some ord[(low + high) / 2] := List.getElem?_eq_getElem hmid
      generalize ord[(low + high) / 2] = o at ho
      by_cases c : or log (max o place) (min o place) = decide (place < o)
      · obtain ⟨es, r, hk, hT⟩ := ih (high - ((low + high) / 2 + 1)) (by omega) ((low + high) / 2 + 1) high (log ++ [⟨max o place, min o place, decide (place < o)⟩]) rfl (by omega) h2
        exact ⟨_, r, .up h ho hk, c.symm, hT⟩
      · have c' : or log (max o place) (min o place) = !decide (place < o) := by
          cases e : or log (max o place) (min o place) <;> cases d : decide (place < o) <;> simp_all
        obtain ⟨es, r, hk, hT⟩ := ih ((low + high) / 2 - low) (by omega) low ((low + high) / 2) (log ++ [⟨max o place, min o place, !decide (place < o)⟩]) rfl (by omega) (by omega)
        exact ⟨_, r, .down h ho hk, c'.symm, hT⟩
    · obtain rfl : low = high := by omega
      exact ⟨[], low, .done low, True.intro⟩
theorem Halv.first {ord : List Nat} {place low high r o : Nat} {es : List Ent} (h : Halv ord place low high es r) (hlt : low < high) (ho : ord[(low + high) / 2]? = some o) : ∃ c es3, es = (⟨max o place, min o place, c⟩ : Ent) :: es3 := by
  cases h with
  | done => omega
  | up _ ho2 k => rw [ho] at ho2; cases ho2; exact ⟨_, _, rfl⟩
  | down _ ho2 k => rw [ho] at ho2; cases ho2; exact ⟨_, _, rfl⟩
def sp_spot_of (K : PySem.W.Frag) (A : Ad) : Sp := fun vs H Q E => ∃ (I : Ask) (log : List Ent) (a : Addr) (ord : List Nat) (place : Nat), vs = [.ref I.s, .ref a, .int place] ∧ (I.At K A H log ∧ SqL K H a (nv ord) ∧ a ∉ I.M ∧ place < I.n ∧ (∀ o ∈ ord, o < I.n ∧ o ≠ place) ∧ log.length + I.pre.length + ord.length < 100000) ∧
  Stop I K A H log (fun es => ∃ spot, Halv ord place 0 ord.length es spot) E ∧
  ∀ H' spot es, Told I.or log es → Halv ord place 0 ord.length es spot → Stp I.M H H' → I.At K A H' (log ++ es) → Q (.int (spot : Nat)) H'
theorem ok_spot_of {P : Program} {w : World} {K : PySem.W.Frag} {mg : Str → Option Value} {base : Heap} {A : Ad} {f : Addr} {fd : FuncData} (F : Fun K "spot_of" "spot_of" s_spot_of f fd) (T : Txt K mg A) (M_Asker_ahead : SH.CalM P w K mg base (L2N.CX P w) 3 A.Asker "ahead" [] (sp_Asker_ahead K A)) : FnOk P w K mg base (L2N.CX P w) 4 f fd ["asker", "order", "place"] (sp_spot_of K A) := by
  refine SH.okN F sc_spot_of (fun vs H Q E h => by obtain ⟨_, _, _, _, _, rfl, _⟩ := h; rfl) (fun cdv A' outer s H vs Q E hr h => ?_)
  obtain ⟨I, log, a, ord, place, rfl, ⟨hA, hS, hnM, hp, hord, hlog⟩, kx, k⟩ := h
  refine ⟨_, (pss_cons (ps_set (i := 3) sc_spot_of.nd rfl (Or.inl rfl) pe_int)
        (pss_cons (ps_set (i := 4) sc_spot_of.nd rfl (Or.inl rfl) (pe_callB SH.cLen (by rfl) T.z_len (by decide +kernel) (pa_cons (pv 1) pa_nil)))
        (pss_cons (ps_while (L2.passes_of rfl) (pt_cmpR (SH.oLt hr.units0) (pv 3) (pv 4) (nomark _)) (pss_cons (ps_set (i := 5) sc_spot_of.nd rfl (Or.inl rfl) (pe_op SH.oDiv (pe_op SH.oAdd (pv 3) (pv 4)) pe_int))
        (pss_one (ps_if (pt_val (SH.pe_methF (pv 0) M_Asker_ahead hr (L2N.passes_call (L2N.takes_of rfl rfl rfl rfl) fun _ _ _ _ h => h) (pa_cons (pe_ix SH.ixA (pv 1) (pv 5) (fun _ _ => rfl)) (pa_cons (pv 2) pa_nil)))) (pss_one (ps_set (i := 3) sc_spot_of.nd rfl (Or.inl rfl) (pe_op SH.oAdd (pv 5) pe_int))) (pss_one (ps_set (i := 4) sc_spot_of.nd rfl (Or.inl rfl) (pv 5)))))))
        (pss_one (ps_ret (pv 3)))))), ?_⟩
  walk_at "begin"
  walk_at "rd"
  refine r_while (fun m σ H' => ∃ (low high : Nat) (es : List Ent) (v5 : Option V), m = high - low ∧ low ≤ high ∧ high ≤ ord.length ∧ es.length + (high - low) ≤ ord.length ∧ (∀ rest spot, Halv ord place low high rest spot → Halv ord place 0 ord.length (es ++ rest) spot) ∧
    Told I.or log es ∧ Stp I.M H H' ∧ I.At K A H' (log ++ es) ∧ σ = [some (.ref I.s), some (.ref a), some (.int place), some (.int low), some (.int high), v5])
    ⟨_, 0, ord.length, [], _, rfl, by omega, by omega, by simp, fun rest spot h => h, True.intro, .refl _ _, by rw [List.append_nil]; exact hA, rfl⟩ ?_
  rintro m σ H1 ⟨low, high, es, v5, rfl, h1, h2, h3, hH, hT, S, hA1, rfl⟩
  walk_at "rd"
  refine r_w (fun hlt => ?_) fun hlt => ?_
  · refine r_next_turn ?_
    walk_at "rd"
    have em : ((low : Int) + high) / 2 = (((low + high) / 2 : Nat) : Int) := by omega
    rw [em]
    have hm : (low + high) / 2 < ord.length := by omega
    have ho : ord[(low + high) / 2]? = some ord[(low + high) / 2] := List.getElem?_eq_getElem hm
    obtain ⟨o1, o2⟩ := hord _ (List.getElem_mem hm)
    generalize ord[(low + high) / 2] = o at ho o1 o2
    have hs1 := hA1.hs
    have hS1 := S.sql hS hnM
    walk_at "rd"
    refine v_ixLn (n := (low + high) / 2) (v := .int o) hS1 rfl (by unfold nv; rw [List.getElem?_map, ho]; rfl) ?_
    walk_at "rd"
    refine ⟨I, _, o, place, rfl, ⟨hA1, o1, hp, o2, by rw [List.length_append]; omega⟩, kx.ask S hT (by
      obtain ⟨rest, r, hb, hT'⟩ := Halv.total I.or (place := place) _ low high (log ++ es) rfl (by omega) h2
      obtain ⟨c, es3, rfl⟩ := hb.first (by omega) ho
      exact ⟨c, es3, hT', r, hH _ _ hb⟩), fun H2 said hsaid S2 hA2 => ?_⟩
    have hT2 := Told.app hT (Told.one (e := ⟨max o place, min o place, said⟩) hsaid)
    rw [List.append_assoc] at hA2
    walk_at "rd"
    refine r_w (fun hb => ?_) fun hb => ?_
    · walk_at "rd"
      refine ⟨high - ((low + high) / 2 + 1), by omega, (low + high) / 2 + 1, high, es ++ [⟨max o place, min o place, said⟩], _, rfl, by omega, h2, by rw [List.length_append, List.length_singleton]; omega, fun rest spot h => ?_, hT2, S.trans S2, hA2, rfl⟩
      rw [List.append_assoc, hb]
      exact hH _ _ (.up (by omega) ho h)
    · walk_at "rd"
      have hb' : said = !decide (place < o) := by cases said <;> cases hd : decide (place < o) <;> simp_all
      refine ⟨(low + high) / 2 - low, by omega, low, (low + high) / 2, es ++ [⟨max o place, min o place, said⟩], _, rfl, by omega, by omega, by rw [List.length_append, List.length_singleton]; omega, fun rest spot h => ?_, hT2, S.trans S2, hA2, rfl⟩
      rw [List.append_assoc, hb']
      exact hH _ _ (.down (by omega) ho h)
  · walk_at "rd"
    have e : low = high := by omega
    subst e
    have := hH [] low (.done low)
    rw [List.append_nil] at this
    exact k _ low es hT this S hA1
/-! ### orders by keys, and what halving finds -/
/-- o stands ahead of p -/
def Ahd (ks : List Int) (o p : Nat) : Prop := getE ks o < getE ks p ∨ (getE ks o = getE ks p ∧ o < p)
instance (ks : List Int) (o p : Nat) : Decidable (Ahd ks o p) := inferInstanceAs (Decidable (_ ∨ _))
theorem ahd_told {ks : List Int} {o p : Nat} (h : o ≠ p) : (decide (getE ks (max o p) < getE ks (min o p)) = decide (p < o)) ↔ Ahd ks o p := by
  unfold Ahd
  by_cases e : p < o
  · rw [Nat.max_eq_left (by omega), Nat.min_eq_right (by omega), decide_eq_true e]
    simp only [decide_eq_true_eq]
    omega
  · rw [Nat.max_eq_right (by omega), Nat.min_eq_left (by omega), decide_eq_false e]
    simp only [decide_eq_false_iff_not]
    omega
theorem Ahd.trans {ks : List Int} {a b c : Nat} (h : Ahd ks a b) (k : Ahd ks b c) : Ahd ks a c := by unfold Ahd at *; omega
theorem Ahd.asym {ks : List Int} {a b : Nat} (h : Ahd ks a b) : ¬ Ahd ks b a := by unfold Ahd at *; omega
theorem Ahd.tot {ks : List Int} {a b : Nat} (h : a ≠ b) : Ahd ks a b ∨ Ahd ks b a := by unfold Ahd; omega
theorem not_eq_ite {a b : Bool} (h : a = !b) : ¬ a = b := by cases a <;> cases b <;> simp_all
/-- what the halving tells: all before the spot stand ahead, all others don't -/
theorem Halv.spot {ks : List Int} {ord : List Nat} {place low high spot : Nat} {es : List Ent} (h : Halv ord place low high es spot) (hT : ∀ e ∈ es, e.c = decide (getE ks e.a < getE ks e.b)) (hne : ∀ o ∈ ord, o ≠ place)
    (hm : ∀ (i j : Nat) (a b : Nat), i < j → ord[i]? = some a → ord[j]? = some b → Ahd ks b place → Ahd ks a place) (h1 : low ≤ high) (h2 : high ≤ ord.length)
    (hlo : ∀ (i a : Nat), i < low → ord[i]? = some a → Ahd ks a place) (hhi : ∀ (i a : Nat), high ≤ i → ord[i]? = some a → ¬ Ahd ks a place) :
    spot ≤ ord.length ∧ (∀ (i a : Nat), i < spot → ord[i]? = some a → Ahd ks a place) ∧ (∀ (i a : Nat), spot ≤ i → ord[i]? = some a → ¬ Ahd ks a place) := by
  induction h with
  | done low => exact ⟨by omega, hlo, hhi⟩
  | @up low high o es spot h ho k ih =>
    have hA : Ahd ks o place := (ahd_told (hne o (List.mem_of_getElem? ho))).mp (hT _ (List.mem_cons_self ..)).symm
    refine ih (fun e he => hT e (by simp [he])) (by omega) h2 (fun i a hi ha => ?_) hhi
    by_cases e : i = (low + high) / 2
    · subst e; rw [ho] at ha; cases ha; exact hA
    · exact hm i _ a o (by omega) ha ho hA
  | @down low high o es spot h ho k ih =>
    have hA : ¬ Ahd ks o place := fun z => by
      have t : (!decide (place < o)) = decide (getE ks (max o place) < getE ks (min o place)) := hT _ (List.mem_cons_self ..)
      rw [(ahd_told (hne o (List.mem_of_getElem? ho))).mpr z] at t
      revert t
      cases decide (place < o) <;> decide
    refine ih (fun e he => hT e (by simp [he])) (by omega) (by omega) hlo (fun i a hi ha => ?_)
    by_cases e : i = (low + high) / 2
    · subst e; rw [ho] at ha; cases ha; exact hA
    · exact fun z => hA (hm _ i o a (by omega) ho ha z)
theorem filter_spot {α : Type} {p : α → Bool} {l : List α} {n : Nat} (h : n ≤ l.length) (h1 : ∀ (i : Nat) (a : α), i < n → l[i]? = some a → p a = true) (h2 : ∀ (i : Nat) (a : α), n ≤ i → l[i]? = some a → p a = false) : (l.filter p).length = n := by
  have e : l = l.take n ++ l.drop n := (List.take_append_drop n l).symm
  rw [e, List.filter_append]
  have a1 : (l.take n).filter p = l.take n := List.filter_eq_self.mpr fun a ha => by
    obtain ⟨i, hi, e⟩ := List.getElem_of_mem ha
    rw [List.length_take] at hi
    exact h1 i a (by omega) (by rw [← e, List.getElem_take]; exact List.getElem?_eq_getElem (by omega))
  have a2 : (l.drop n).filter p = [] := List.filter_eq_nil_iff.mpr fun a ha => by
    obtain ⟨i, hi, e⟩ := List.getElem_of_mem ha
    rw [List.length_drop] at hi
    rw [h2 (n + i) a (by omega) (by rw [← e, List.getElem_drop]; exact List.getElem?_eq_getElem (by omega))]
    simp
  rw [a1, a2, List.append_nil, List.length_take]
  omega
theorem bits_half {d : Nat} (h : 0 < d) : Builtin.Int.intBits (d : Int) = Builtin.Int.intBits ((d / 2 : Nat) : Int) + 1 := by
  unfold Builtin.Int.intBits
  rw [if_neg (by simp; omega)]
  have e1 : ((d : Nat) : Int).natAbs = d := by omega
  have e2 : ((d / 2 : Nat) : Int).natAbs = d / 2 := by omega
  rw [e1, e2]
  by_cases h2 : d / 2 = 0
  · have : d = 1 := by omega
    subst this
    rfl
  · rw [if_neg (by simp; omega), Nat.log2_def d, if_pos (by omega)]
theorem bits_mono {a b : Nat} (h : a ≤ b) : Builtin.Int.intBits (a : Int) ≤ Builtin.Int.intBits (b : Int) := by
  induction b using Nat.strongRecOn generalizing a with
  | _ b ih =>
    by_cases ha : a = 0
    · subst ha; simp [Builtin.Int.intBits]
    · rw [bits_half (by omega : 0 < a), bits_half (by omega : 0 < b)]
      have := ih (b / 2) (by omega) (a := a / 2) (by omega)
      omega
/-- at most as many asks as the number of places has bits -/
theorem Halv.few {ord : List Nat} {place low high spot : Nat} {es : List Ent} (h : Halv ord place low high es spot) : es.length ≤ Builtin.Int.intBits ((high - low : Nat) : Int) := by
  induction h with
  | done low => simp
  | @up low high o es spot h ho k ih =>
    rw [bits_half (by omega : 0 < high - low), List.length_cons]
    have := bits_mono (show high - ((low + high) / 2 + 1) ≤ (high - low) / 2 by omega)
    omega
  | @down low high o es spot h ho k ih =>
    rw [bits_half (by omega : 0 < high - low), List.length_cons]
    have := bits_mono (show (low + high) / 2 - low ≤ (high - low) / 2 by omega)
    omega
theorem Halv.inv {ord : List Nat} {place low high spot : Nat} {e : Ent} {es : List Ent} (h : Halv ord place low high (e :: es) spot) : low < high ∧ ∃ o, ord[(low + high) / 2]? = some o ∧ e.a = max o place ∧ e.b = min o place ∧
    ((e.c = decide (place < o) ∧ Halv ord place ((low + high) / 2 + 1) high es spot) ∨ (e.c = (!decide (place < o)) ∧ Halv ord place low ((low + high) / 2) es spot)) := by
  cases h with
  | up h ho k => exact ⟨h, _, ho, rfl, rfl, .inl ⟨rfl, k⟩⟩
  | down h ho k => exact ⟨h, _, ho, rfl, rfl, .inr ⟨rfl, k⟩⟩
theorem Halv.nil {ord : List Nat} {place low high spot : Nat} (h : Halv ord place low high [] spot) : low = high ∧ spot = low := by
  cases h; exact ⟨rfl, rfl⟩
/-! ### put in, one by one: what stands so far -/
def ins (ord : List Nat) (r p : Nat) : List Nat := ord.take r ++ p :: ord.drop r
theorem ins_perm {ord : List Nat} {r p : Nat} : (ins ord r p).Perm (p :: ord) := by
  unfold ins
  exact List.perm_middle.trans (by rw [List.take_append_drop])
theorem v_insN {H : Hp} {Q : VK} {a : Addr} {ps : List Nat} {r p : Nat} (h : H a = some (.lst (nv ps))) (hr : r ≤ ps.length) (hl : ps.length < 1000000) (k : Q .non (upd H a (.lst (nv (ins ps r p))))) : rIns (.ref a) [.int (r : Nat), .int (p : Nat)] H Q := by
  refine w_ins (n := r) h rfl (by omega) (by rw [List.length_map]; exact hl) ?_
  have e : (nv ps).take r ++ [V.int (p : Nat)] ++ (nv ps).drop r = nv (ins ps r p) := by
    unfold ins nv
    rw [List.map_append, List.map_cons, List.map_take, List.map_drop, List.append_assoc]
    rfl
  rw [e]
  exact k
theorem pw_nb {R : Nat → Nat → Prop} {l : List Nat} (h : l.Pairwise R) {i u v : Nat} (hu : l[i]? = some u) (hv : l[i + 1]? = some v) : R u v := by
  obtain ⟨hi, hu⟩ := List.getElem?_eq_some_iff.mp hu
  obtain ⟨hj, hv⟩ := List.getElem?_eq_some_iff.mp hv
  have := List.pairwise_iff_getElem.mp h i (i + 1) hi hj (by omega)
  rwa [hu, hv] at this
theorem ins_at {ord : List Nat} {r p i : Nat} (hr : r ≤ ord.length) : (ins ord r p)[i]? = if i < r then ord[i]? else if i = r then some p else ord[i - 1]? := by
  unfold ins
  have hl : (ord.take r).length = r := by rw [List.length_take]; omega
  by_cases h : i < r
  · rw [if_pos h, List.getElem?_append_left (by omega), List.getElem?_take_of_lt h]
  · rw [if_neg h, List.getElem?_append_right (by omega), hl]
    by_cases e : i = r
    · subst e; rw [if_pos rfl, Nat.sub_self]; rfl
    · rw [if_neg e]
      obtain ⟨d, hd⟩ : ∃ d, i - r = d + 1 := ⟨i - r - 1, by omega⟩
      rw [hd, List.getElem?_cons_succ, List.getElem?_drop]
      congr 1
      omega
/-- put in at a spot that fits: still in order -/
theorem ins_pw {R : Nat → Nat → Prop} {ord : List Nat} {r p : Nat} (h : ord.Pairwise R) (h1 : ∀ o ∈ ord.take r, R o p) (h2 : ∀ o ∈ ord.drop r, R p o) : (ins ord r p).Pairwise R := by
  unfold ins
  rw [← List.take_append_drop r ord, List.pairwise_append] at h
  obtain ⟨a, b, c⟩ := h
  rw [List.pairwise_append]
  refine ⟨a, List.pairwise_cons.mpr ⟨h2, b⟩, fun x hx y hy => ?_⟩
  rcases List.mem_cons.mp hy with rfl | hy
  · exact h1 x hx
  · exact c x hx y hy
def Asked (log : List Ent) (ord : List Nat) : Prop := ∀ (i u v : Nat), ord[i]? = some u → ord[i + 1]? = some v → ∃ e ∈ log, e.a = max u v ∧ e.b = min u v
theorem Asked.ins {log es : List Ent} {ord : List Nat} {r p : Nat} (h : Asked log ord) (hr : r ≤ ord.length) (hlt : ∀ o ∈ ord, o < p) (h1 : 0 < r → ∃ o, ord[r - 1]? = some o ∧ ∃ c, (⟨p, o, c⟩ : Ent) ∈ es) (h2 : r < ord.length → ∃ o, ord[r]? = some o ∧ ∃ c, (⟨p, o, c⟩ : Ent) ∈ es) : Asked (log ++ es) (ins ord r p) := by
  intro i u v hu hv
  rw [ins_at hr] at hu hv
  by_cases c1 : i + 1 < r
  · rw [if_pos (by omega)] at hu
    rw [if_pos c1] at hv
    obtain ⟨e, he, q⟩ := h i u v hu hv
    exact ⟨e, List.mem_append_left _ he, q⟩
  · rw [if_neg c1] at hv
    by_cases c2 : i + 1 = r
    · rw [if_pos c2] at hv
      rw [if_pos (by omega)] at hu
      cases hv
      obtain ⟨o, ho, c, he⟩ := h1 (by omega)
      rw [show r - 1 = i by omega, hu] at ho
      cases ho
      have := hlt u (List.mem_of_getElem? hu)
      exact ⟨_, List.mem_append_right _ he, by show p = max u p; omega, by show u = min u p; omega⟩
    · rw [if_neg c2] at hv
      rw [if_neg (by omega)] at hu
      rw [Nat.add_sub_cancel] at hv
      by_cases c3 : i = r
      · rw [if_pos c3] at hu
        cases hu
        subst c3
        obtain ⟨o, ho, c, he⟩ := h2 (List.getElem?_eq_some_iff.mp hv).1
        rw [hv] at ho
        cases ho
        have := hlt v (List.mem_of_getElem? hv)
        exact ⟨_, List.mem_append_right _ he, by show p = max p v; omega, by show v = min p v; omega⟩
      · rw [if_neg c3] at hu
        obtain ⟨e, he, q⟩ := h (i - 1) u v hu (by rw [show i - 1 + 1 = i by omega]; exact hv)
        exact ⟨e, List.mem_append_left _ he, q⟩
/-- what stands so far -/
structure Sofar (ks : List Int) (p : Nat) (ord : List Nat) (log : List Ent) : Prop where
  perm : ord.Perm (List.range p)
  pw : ord.Pairwise (Ahd ks)
  ask : Asked log ord
  ent : ∀ e ∈ log, e.b < e.a ∧ e.a < p
theorem Sofar.lt {ks : List Int} {p : Nat} {ord : List Nat} {log : List Ent} (h : Sofar ks p ord log) {o : Nat} (ho : o ∈ ord) : o < p := List.mem_range.mp (h.perm.mem_iff.mp ho)
theorem Sofar.len {ks : List Int} {p : Nat} {ord : List Nat} {log : List Ent} (h : Sofar ks p ord log) : ord.length = p := by have := h.perm.length_eq; rwa [List.length_range] at this
theorem Sofar.put {ks : List Int} {p r : Nat} {ord : List Nat} {log es : List Ent} (h : Sofar ks p ord log) (hr : r ≤ ord.length) (h1 : ∀ o ∈ ord.take r, ¬ getE ks p < getE ks o) (h2 : ∀ o ∈ ord.drop r, getE ks p < getE ks o)
    (he : ∀ e ∈ es, e.a = p ∧ e.b ∈ ord) (n1 : 0 < r → ∃ o, ord[r - 1]? = some o ∧ ∃ c, (⟨p, o, c⟩ : Ent) ∈ es) (n2 : r < ord.length → ∃ o, ord[r]? = some o ∧ ∃ c, (⟨p, o, c⟩ : Ent) ∈ es) : Sofar ks (p + 1) (ins ord r p) (log ++ es) := by
  refine ⟨?_, ins_pw h.pw (fun o ho => ?_) (fun o ho => ?_), h.ask.ins hr (fun o ho => h.lt ho) n1 n2, fun e hm => ?_⟩
  · rw [List.range_succ]
    exact ins_perm.trans ((h.perm.cons p).trans (List.perm_append_singleton p _).symm)
  · have := h.lt (List.mem_of_mem_take ho)
    have := h1 o ho
    unfold Ahd
    omega
  · have := h2 o ho
    unfold Ahd
    omega
  · rcases List.mem_append.mp hm with hm | hm
    · have := h.ent e hm; omega
    · obtain ⟨q1, q2⟩ := he e hm
      have := h.lt q2
      omega
theorem sofar0 {ks : List Int} : Sofar ks 0 [] [] := ⟨.refl _, .nil, fun i u v hu => by simp at hu, by simp⟩
/-- how many stand behind the spot -/
theorem behind_spot {ks : List Int} {p r : Nat} {ord : List Nat} {log : List Ent} (h : Sofar ks p ord log) (hr : r ≤ ord.length) (h1 : ∀ o ∈ ord.take r, ¬ getE ks p < getE ks o) (h2 : ∀ o ∈ ord.drop r, getE ks p < getE ks o) : ((List.range p).filter fun o => decide (getE ks p < getE ks o)).length = ord.length - r := by
  rw [(h.perm.symm.filter _).length_eq]
  rw [← List.take_append_drop r ord, List.filter_append, List.filter_eq_nil_iff.mpr (fun o ho => by simpa using h1 o ho), List.filter_eq_self.mpr (fun o ho => by simpa using h2 o ho), List.nil_append, List.length_drop, List.take_append_drop]
/-- the asks of a place in the paper: idxOf -/
theorem idx_of {ks : List Int} {n : Nat} {ord : List Nat} (hp : ord.Perm (List.range n)) (hs : ord.Pairwise (Ahd ks)) {a b : Nat} (ha : a < n) (hb : b < n) (hne : b < a) : decide (ord.idxOf a < ord.idxOf b) = decide (getE ks a < getE ks b) := by
  have key : ∀ x, x < n → ∃ hx : ord.idxOf x < ord.length, ord[ord.idxOf x] = x := fun x hx => by
    have hm : x ∈ ord := hp.mem_iff.mpr (List.mem_range.mpr hx)
    exact ⟨List.idxOf_lt_length_of_mem hm, by simp⟩
  obtain ⟨xa, ea⟩ := key a ha
  obtain ⟨xb, eb⟩ := key b hb
  have pw := List.pairwise_iff_getElem.mp hs
  refine decide_eq_decide.mpr ⟨fun h => ?_, fun h => ?_⟩
  · have := pw _ _ xa xb h
    rw [ea, eb] at this
    unfold Ahd at this
    omega
  · apply Classical.byContradiction
    intro z
    by_cases e : ord.idxOf a = ord.idxOf b
    · have : a = b := by rw [← ea, ← eb]; congr 1
      omega
    · have := pw _ _ xb xa (by omega)
      rw [ea, eb] at this
      unfold Ahd at this
      omega
/-! ### putting in: what it asks, by keys -/
/-- the places from p on put in, each at its spot by halving -/
inductive PO (n : Nat) : Nat → List Nat → List Ent → List Nat → Prop
  | done {p : Nat} {ord : List Nat} (h : n ≤ p) : PO n p ord [] ord
  | put {p r : Nat} {ord res : List Nat} {es1 es : List Ent} (h : p < n) (k : Halv ord p 0 ord.length es1 r) (kk : PO n (p + 1) (ins ord r p) es res) : PO n p ord (es1 ++ es) res
theorem Halv.bd {ord : List Nat} {p lo hi r : Nat} {es : List Ent} (h : Halv ord p lo hi es r) : lo ≤ hi → lo ≤ r ∧ r ≤ hi ∧ es.length ≤ hi - lo := by
  induction h with
  | done low => intro _; simp
  | @up low high o es spot h ho k ih => intro _; have := ih (by omega); rw [List.length_cons]; omega
  | @down low high o es spot h ho k ih => intro _; have := ih (by omega); rw [List.length_cons]; omega
theorem Halv.ends {ord : List Nat} {p lo hi r : Nat} {es : List Ent} (h : Halv ord p lo hi es r) (hlt : ∀ o ∈ ord, o < p) : (r = lo ∨ ∃ o, ord[r - 1]? = some o ∧ (⟨p, o, false⟩ : Ent) ∈ es) ∧ (r = hi ∨ ∃ o, ord[r]? = some o ∧ (⟨p, o, true⟩ : Ent) ∈ es) := by
  induction h with
  | done low => exact ⟨.inl rfl, .inl rfl⟩
  | @up low high o es spot h ho k ih =>
    have hop := hlt _ (List.mem_of_getElem? ho)
    obtain ⟨a, b⟩ := ih
    refine ⟨.inr ?_, b.imp id fun ⟨o', h1, h2⟩ => ⟨o', h1, List.mem_cons_of_mem _ h2⟩⟩
    rcases a with a | ⟨o', h1, h2⟩
    · subst a
      refine ⟨o, by rw [Nat.add_sub_cancel]; exact ho, ?_⟩
      rw [show (⟨p, o, false⟩ : Ent) = ⟨max o p, min o p, decide (p < o)⟩ by rw [Nat.max_eq_right (by omega), Nat.min_eq_left (by omega), decide_eq_false (by omega : ¬ p < o)]]
      exact List.mem_cons_self ..
    · exact ⟨o', h1, List.mem_cons_of_mem _ h2⟩
  | @down low high o es spot h ho k ih =>
    have hop := hlt _ (List.mem_of_getElem? ho)
    obtain ⟨a, b⟩ := ih
    refine ⟨a.imp id fun ⟨o', h1, h2⟩ => ⟨o', h1, List.mem_cons_of_mem _ h2⟩, .inr ?_⟩
    rcases b with b | ⟨o', h1, h2⟩
    · subst b
      refine ⟨o, ho, ?_⟩
      rw [show (⟨p, o, true⟩ : Ent) = ⟨max o p, min o p, !decide (p < o)⟩ by rw [Nat.max_eq_right (by omega), Nat.min_eq_left (by omega), decide_eq_false (by omega : ¬ p < o)]; rfl]
      exact List.mem_cons_self ..
    · exact ⟨o', h1, List.mem_cons_of_mem _ h2⟩
theorem Halv.ent {ord : List Nat} {p lo hi r : Nat} {es : List Ent} (h : Halv ord p lo hi es r) (hlt : ∀ o ∈ ord, o < p) : ∀ e ∈ es, e.a = p ∧ e.b ∈ ord := by
  induction h with
  | done low => simp
  | @up low high o es spot h ho k ih =>
    have hop := hlt _ (List.mem_of_getElem? ho)
    intro e he
    rcases List.mem_cons.mp he with rfl | he
    · exact ⟨by show max o p = p; omega, by show min o p ∈ ord; rw [Nat.min_eq_left (by omega)]; exact List.mem_of_getElem? ho⟩
    · exact ih e he
  | @down low high o es spot h ho k ih =>
    have hop := hlt _ (List.mem_of_getElem? ho)
    intro e he
    rcases List.mem_cons.mp he with rfl | he
    · exact ⟨by show max o p = p; omega, by show min o p ∈ ord; rw [Nat.min_eq_left (by omega)]; exact List.mem_of_getElem? ho⟩
    · exact ih e he
theorem Halv.uniq {f : Nat → Nat → Bool} {ord : List Nat} {p lo hi r r' : Nat} {es es' : List Ent} (h : Halv ord p lo hi es r) (h' : Halv ord p lo hi es' r') (hT : ∀ e ∈ es, e.c = f e.a e.b) (hT' : ∀ e ∈ es', e.c = f e.a e.b) : es = es' ∧ r = r' := by
  induction h generalizing es' with
  | done low =>
    cases h' with
    | done => exact ⟨rfl, rfl⟩
    | up h _ _ => omega
    | down h _ _ => omega
  | @up low high o es spot h ho k ih =>
    have t1 := hT _ (List.mem_cons_self ..)
    cases h' with
    | done => omega
    | up h2 ho2 k2 =>
      rw [ho] at ho2; cases ho2
      obtain ⟨rfl, rfl⟩ := ih k2 (fun e he => hT e (List.mem_cons_of_mem _ he)) fun e he => hT' e (List.mem_cons_of_mem _ he)
      exact ⟨rfl, rfl⟩
    | down h2 ho2 k2 =>
      rw [ho] at ho2; cases ho2
      have t2 := hT' _ (List.mem_cons_self ..)
      dsimp only at t1 t2
      rw [← t1] at t2
      exact absurd t2 (by cases decide (p < o) <;> decide)
  | @down low high o es spot h ho k ih =>
    have t1 := hT _ (List.mem_cons_self ..)
    cases h' with
    | done => omega
    | down h2 ho2 k2 =>
      rw [ho] at ho2; cases ho2
      obtain ⟨rfl, rfl⟩ := ih k2 (fun e he => hT e (List.mem_cons_of_mem _ he)) fun e he => hT' e (List.mem_cons_of_mem _ he)
      exact ⟨rfl, rfl⟩
    | up h2 ho2 k2 =>
      rw [ho] at ho2; cases ho2
      have t2 := hT' _ (List.mem_cons_self ..)
      dsimp only at t1 t2
      rw [← t1] at t2
      exact absurd t2 (by cases decide (p < o) <;> decide)
theorem Halv.take {ks : List Int} {p r : Nat} {ord : List Nat} {log es : List Ent} (h : Sofar ks p ord log) (hw : Halv ord p 0 ord.length es r) (hT : ∀ e ∈ es, e.c = decide (getE ks e.a < getE ks e.b)) :
    (∀ o ∈ ord.take r, ¬ getE ks p < getE ks o) ∧ (∀ o ∈ ord.drop r, getE ks p < getE ks o) := by
  have hlt : ∀ o ∈ ord, o < p := fun o ho => h.lt ho
  obtain ⟨_, a, b⟩ := hw.spot hT (fun o ho => by have := hlt o ho; omega) (fun i j x y hij hx hy hA => by
    obtain ⟨hi, hx⟩ := List.getElem?_eq_some_iff.mp hx
    obtain ⟨hj, hy⟩ := List.getElem?_eq_some_iff.mp hy
    have := List.pairwise_iff_getElem.mp h.pw i j hi hj hij
    rw [hx, hy] at this
    exact this.trans hA) (Nat.zero_le _) (Nat.le_refl _) (fun i x hi => by omega) (fun i x hi hx => by have := (List.getElem?_eq_some_iff.mp hx).1; omega)
  refine ⟨fun o ho => ?_, fun o ho => ?_⟩
  · obtain ⟨i, hi, e⟩ := List.getElem_of_mem ho
    rw [List.length_take] at hi
    rw [List.getElem_take] at e
    have := a i o (by omega) (by rw [List.getElem?_eq_getElem (by omega), e])
    have := hlt o (List.mem_of_mem_take ho)
    unfold Ahd at *
    omega
  · obtain ⟨i, hi, e⟩ := List.getElem_of_mem ho
    rw [List.length_drop] at hi
    rw [List.getElem_drop] at e
    have := b (r + i) o (by omega) (by rw [List.getElem?_eq_getElem (by omega), e])
    have := hlt o (List.mem_of_mem_drop ho)
    unfold Ahd at *
    omega
theorem Sofar.put2 {ks : List Int} {p r : Nat} {ord : List Nat} {log es : List Ent} (h : Sofar ks p ord log) (hw : Halv ord p 0 ord.length es r) (hT : ∀ e ∈ es, e.c = decide (getE ks e.a < getE ks e.b)) : Sofar ks (p + 1) (ins ord r p) (log ++ es) := by
  have hlt : ∀ o ∈ ord, o < p := fun o ho => h.lt ho
  obtain ⟨h1, h2⟩ := Halv.take h hw hT
  obtain ⟨n1, n2⟩ := hw.ends hlt
  have hb := hw.bd (Nat.zero_le _)
  exact h.put hb.2.1 h1 h2 (hw.ent hlt) (fun z => by rcases n1 with n1 | ⟨o, a, b⟩; omega; exact ⟨o, a, _, b⟩) (fun z => by rcases n2 with n2 | ⟨o, a, b⟩; omega; exact ⟨o, a, _, b⟩)
theorem PO.sofar {ks : List Int} {n p : Nat} {ord res : List Nat} {log es : List Ent} (hw : PO n p ord es res) (h : Sofar ks p ord log) (hp : p ≤ n) (hT : ∀ e ∈ es, e.c = decide (getE ks e.a < getE ks e.b)) : Sofar ks n res (log ++ es) := by
  induction hw generalizing log with
  | @done p ord hh => rw [List.append_nil, show n = p by omega]; exact h
  | @put p r ord res es1 es hh k kk ih =>
    rw [← List.append_assoc]
    exact ih (h.put2 k fun e he => hT e (List.mem_append_left _ he)) (by omega) fun e he => hT e (List.mem_append_right _ he)
theorem PO.uniq {f : Nat → Nat → Bool} {n p : Nat} {ord res res' : List Nat} {es es' : List Ent} (h : PO n p ord es res) (h' : PO n p ord es' res') (hT : ∀ e ∈ es, e.c = f e.a e.b) (hT' : ∀ e ∈ es', e.c = f e.a e.b) : es = es' ∧ res = res' := by
  induction h generalizing es' with
  | @done p ord hh =>
    cases h' with
    | done => exact ⟨rfl, rfl⟩
    | put h _ _ => omega
  | @put p r ord res es1 es hh k kk ih =>
    cases h' with
    | done => omega
    | put h2 k2 kk2 =>
      obtain ⟨rfl, rfl⟩ := k.uniq k2 (fun e he => hT e (List.mem_append_left _ he)) fun e he => hT' e (List.mem_append_left _ he)
      obtain ⟨rfl, rfl⟩ := ih kk2 (fun e he => hT e (List.mem_append_right _ he)) fun e he => hT' e (List.mem_append_right _ he)
      exact ⟨rfl, rfl⟩
/-- the bits of all numbers below -/
def bsum (n : Nat) : Nat := ((List.range n).map fun k => Builtin.Int.intBits ((k : Nat) : Int)).sum
theorem bsum_succ {n : Nat} : bsum (n + 1) = bsum n + Builtin.Int.intBits ((n : Nat) : Int) := by
  unfold bsum
  rw [List.range_succ, List.map_append, List.sum_append]
  simp
theorem bsum_mono {m n : Nat} (h : m ≤ n) : bsum m ≤ bsum n := by
  induction n with
  | zero => rw [show m = 0 by omega]; exact Nat.le_refl _
  | succ n ih =>
    by_cases e : m = n + 1
    · subst e; exact Nat.le_refl _
    · have := ih (by omega); rw [bsum_succ]; omega
theorem PO.few {n p : Nat} {ord res : List Nat} {es : List Ent} (h : PO n p ord es res) (hl : ord.length = p) (hp : p ≤ n) : es.length + bsum p ≤ bsum n := by
  induction h with
  | @done p ord hh => simpa using bsum_mono hp
  | @put p r ord res es1 es hh k kk ih =>
    have h1 := k.few
    have h2 := k.bd (Nat.zero_le _)
    have h3 := ih (by rw [ins_perm.length_eq, List.length_cons, hl]) (by omega)
    rw [bsum_succ] at h3
    rw [Nat.sub_zero, hl] at h1
    rw [List.length_append]
    omega
theorem bsum_int (m : Nat) : ((List.range m).map fun k => ((Builtin.Int.intBits ((k + 1 : Nat) : Int) : Nat) : Int)).sum = (bsum (m + 1) : Nat) := by
  induction m with
  | zero => rfl
  | succ m ih =>
    rw [List.range_succ, List.map_append, List.sum_append, ih, bsum_succ (n := m + 1)]
    simp
theorem PO.total (or : List Ent → Nat → Nat → Bool) {n : Nat} : ∀ (m p : Nat) (ord : List Nat) (log : List Ent), n - p = m → ∃ es res, PO n p ord es res ∧ Told or log es := by
  intro m
  induction m with
  | zero => intro p ord log hm; exact ⟨[], ord, .done (by omega), True.intro⟩
  | succ m ih =>
    intro p ord log hm
    obtain ⟨es1, r, h1, t1⟩ := Halv.total or (ord := ord) (place := p) _ 0 ord.length log rfl (Nat.zero_le _) (Nat.le_refl _)
    obtain ⟨es2, res, h2, t2⟩ := ih (p + 1) (ins ord r p) (log ++ es1) (by omega)
    exact ⟨_, res, .put (by omega) h1 h2, Told.app t1 t2⟩
/-! ### putting in -/
def sp_by_putting (K : PySem.W.Frag) (A : Ad) : Sp := fun vs H Q E => ∃ (I : Ask) (log : List Ent), vs = [.ref I.s] ∧ (I.At K A H log ∧ I.n ≤ 200 ∧ log.length + I.pre.length < 50000) ∧
  Stop I K A H log (fun es => ∃ res, PO I.n 0 [] es res) E ∧
  ∀ H' q es res, H q = none → Told I.or log es → PO I.n 0 [] es res → es.length ≤ I.n * I.n → Stp I.M H H' → I.At K A H' (log ++ es) → H' q = some (.lst (nv res)) → Q (.ref q) H'
theorem ok_by_putting {P : Program} {w : World} {K : PySem.W.Frag} {mg : Str → Option Value} {base : Heap} {A : Ad} {f : Addr} {fd : FuncData} (F : Fun K "by_putting" "by_putting" s_by_putting f fd) (T : Txt K mg A) (M_Asker_many : SH.CalM P w K mg base CX0 1 A.Asker "many" [] (sp_Asker_many K A)) (C_spot_of : SH.Cal P w K mg base (L2N.CX P w) 4 "spot_of" [] (sp_spot_of K A)) : FnOk P w K mg base (L2N.CX P w) 5 f fd ["asker"] (sp_by_putting K A) := by
  refine SH.okN F sc_by_putting (fun vs H Q E h => by obtain ⟨_, _, rfl, _⟩ := h; rfl) (fun cdv A' outer s H vs Q E hr h => ?_)
  obtain ⟨I, log, rfl, ⟨hA, hn, hlog⟩, kx, k⟩ := h
  refine ⟨_, (pss_cons (ps_set (i := 1) sc_by_putting.nd rfl (Or.inl rfl) (pe_lst pa_nil))
        (pss_cons (ps_for (L2.passes_of rfl) rfl (pi_range1 (by rfl) T.z_range (pa_cons (SH.pe_methF0 (pv 0) M_Asker_many hr pass0) pa_nil)) (pg_name (i := 2) sc_by_putting.nd rfl (Or.inl rfl)) (pss_one (ps_expr (pe_bm PySem.F.plainAttrs_list PySem.F.slot_list_insert PySem.F.type_list_insert SH.mIns (pv 1) (pa_cons (SH.pe_callF C_spot_of hr (by rfl) (L2N.passes_call (L2N.takes_of rfl rfl rfl rfl) fun _ _ _ _ h => h) (pa_cons (pv 0) (pa_cons (pv 1) (pa_cons (pv 2) pa_nil)))) (pa_cons (pv 2) pa_nil))))))
        (pss_one (ps_ret (pv 1))))), ?_⟩
  walk_at "begin"
  walk_at "rd"
  intro D hD
  have DM := hA.fresh hD
  have DO := hA.freshO hD
  have hA1 := hA.stp ((Stp.refl [] H).new (o := .lst []) hD) (by simp)
  have hs1 := hA1.hs
  walk_at "rd"
  refine ⟨I, log, rfl, hA1, ?_⟩
  walk_at "rd"
  refine for_it walk_range (fun p σ H' => ∃ (ord : List Nat) (es : List Ent) (v2 : Option V), ord.length = p ∧ (∀ o ∈ ord, o < p) ∧ es.length ≤ p * I.n ∧ (∀ rest res, PO I.n p ord rest res → PO I.n 0 [] (es ++ rest) res) ∧ Told I.or log es ∧ Stp I.M H H' ∧ I.At K A H' (log ++ es) ∧ H' D = some (.lst (nv ord)) ∧
      σ = [some (.ref I.s), some (.ref D), v2])
    ⟨[], [], _, rfl, by simp, by simp, fun rest res h => h, True.intro, (Stp.refl _ _).new hD, by rw [List.append_nil]; exact hA1, upd_same, rfl⟩ (fun _ _ _ _ _ => True.intro) ?_ ?_
  · rintro p x σ H1 H2 hj ⟨ord, es, v2, hol, hlt, hel, hW, hT, S, hA2, hD1, rfl⟩ ⟨rfl, rfl⟩
    have hp : p < I.n := by have : p < (I.n : Int).toNat := hj; omega
    have hpn : p * I.n ≤ 40000 := Nat.le_trans (Nat.mul_le_mul (by omega : p ≤ 200) hn) (by decide)
    simp only [Int.zero_add]
    walk_at "rd"
    refine ⟨I, _, D, ord, p, rfl, ⟨hA2, SqL.of hD1, DM, hp, fun o ho => by have := hlt o ho; omega, by rw [List.length_append]; omega⟩, kx.sub S hT (fun es2 ⟨r, hh⟩ hT2 => by
      obtain ⟨es3, res, hk, hT3⟩ := PO.total I.or (n := I.n) _ (p + 1) (ins ord r p) (log ++ es ++ es2) rfl
      exact ⟨es3, hT3, res, by rw [List.append_assoc]; exact hW _ _ (.put hp hh hk)⟩), fun H3 r es2 hT2 hh S3 hA3 => ?_⟩
    have hb := hh.bd (Nat.zero_le _)
    rw [List.append_assoc] at hA3
    have hD3 := S3.keep hD1 DM
    walk_at "rd"
    refine v_insN hD3 hb.2.1 (by omega) ?_
    walk_at "rd"
    refine ⟨ins ord r p, es ++ es2, _, ?_, fun o ho => ?_, ?_, fun rest res hk => ?_, Told.app hT hT2, (S.trans S3).putN hD, hA3.stp ((Stp.refl [D] _).putL (by simp) hD3) (fun m hm => by rw [List.mem_singleton] at hm; subst hm; exact DO), upd_same, rfl⟩
    · rw [ins_perm.length_eq, List.length_cons]; omega
    · rcases List.mem_cons.mp (ins_perm.mem_iff.mp ho) with rfl | ho
      · omega
      · have := hlt o ho; omega
    · rw [List.length_append, Nat.add_mul]; omega
    · rw [List.append_assoc]
      exact hW _ _ (.put hp hh hk)
  · rintro σ H1 ⟨ord, es, v2, hol, hlt, hel, hW, hT, S, hA2, hD1, rfl⟩
    walk_at "rd"
    have e : (I.n : Int).toNat = I.n := by omega
    rw [e] at hol hel hW
    have := hW [] ord (.done (Nat.le_refl _))
    rw [List.append_nil] at this
    exact k H1 D es ord hD hT this hel S hA2 hD1
/-! ### walking back -/
/-- place asked against what stands ahead, from so far on down -/
inductive WD (ord : List Nat) (place : Nat) : Nat → List Ent → Nat → Prop
  | zero : WD ord place 0 [] 0
  | stop {at_ o : Nat} (ho : ord[at_]? = some o) : WD ord place (at_ + 1) [⟨place, o, false⟩] (at_ + 1)
  | more {at_ o r : Nat} {es : List Ent} (ho : ord[at_]? = some o) (k : WD ord place at_ es r) : WD ord place (at_ + 1) (⟨place, o, true⟩ :: es) r
theorem WD.bd {ord : List Nat} {place at_ r : Nat} {es : List Ent} (h : WD ord place at_ es r) : r ≤ at_ ∧ es.length ≤ at_ := by
  induction h with
  | zero => exact ⟨Nat.le_refl _, Nat.le_refl _⟩
  | stop ho => exact ⟨Nat.le_refl _, by simp⟩
  | more ho k ih => exact ⟨by omega, by rw [List.length_cons]; omega⟩
/-- the places from p on put in, one by one -/
inductive WO (n : Nat) : Nat → List Nat → List Ent → List Nat → Prop
  | done {p : Nat} {ord : List Nat} (h : n ≤ p) : WO n p ord [] ord
  | put {p r : Nat} {ord res : List Nat} {es1 es : List Ent} (h : p < n) (k : WD ord p ord.length es1 r) (kk : WO n (p + 1) (ins ord r p) es res) : WO n p ord (es1 ++ es) res
theorem WD.total (or : List Ent → Nat → Nat → Bool) {ord : List Nat} {place : Nat} : ∀ (at_ : Nat) (log : List Ent), at_ ≤ ord.length → ∃ es r, WD ord place at_ es r ∧ Told or log es := by
  intro at_
  induction at_ with
  | zero => intro log _; exact ⟨[], 0, .zero, True.intro⟩
  | succ at_ ih =>
    intro log h
    have ho : ord[at_]? = some ord[at_] := List.getElem?_eq_getElem (by omega)
    generalize ord[at_] = o at ho
    cases e : or log place o with
    | false => exact ⟨_, _, .stop ho, e.symm, True.intro⟩
    | true =>
      obtain ⟨es, r, hk, hT⟩ := ih (log ++ [⟨place, o, true⟩]) (by omega)
      exact ⟨_, r, .more ho hk, e.symm, hT⟩
theorem WD.first {ord : List Nat} {place at_ r o : Nat} {es : List Ent} (h : WD ord place (at_ + 1) es r) (ho : ord[at_]? = some o) : ∃ c es3, es = (⟨place, o, c⟩ : Ent) :: es3 := by
  cases h with
  | stop ho2 => rw [ho] at ho2; cases ho2; exact ⟨_, _, rfl⟩
  | more ho2 k => rw [ho] at ho2; cases ho2; exact ⟨_, _, rfl⟩
theorem WO.total (or : List Ent → Nat → Nat → Bool) {n : Nat} : ∀ (m p : Nat) (ord : List Nat) (log : List Ent), n - p = m → ∃ es res, WO n p ord es res ∧ Told or log es := by
  intro m
  induction m with
  | zero => intro p ord log hm; exact ⟨[], ord, .done (by omega), True.intro⟩
  | succ m ih =>
    intro p ord log hm
    obtain ⟨es1, r, h1, t1⟩ := WD.total or (ord := ord) (place := p) ord.length log (Nat.le_refl _)
    obtain ⟨es2, res, h2, t2⟩ := ih (p + 1) (ins ord r p) (log ++ es1) (by omega)
    exact ⟨_, res, .put (by omega) h1 h2, Told.app t1 t2⟩
def sp_by_walking (K : PySem.W.Frag) (A : Ad) : Sp := fun vs H Q E => ∃ (I : Ask) (log : List Ent), vs = [.ref I.s] ∧ (I.At K A H log ∧ I.n ≤ 200 ∧ log.length + I.pre.length < 50000) ∧
  Stop I K A H log (fun es => ∃ res, WO I.n 0 [] es res) E ∧
  ∀ H' q es res, H q = none → Told I.or log es → WO I.n 0 [] es res → es.length ≤ I.n * I.n → Stp I.M H H' → I.At K A H' (log ++ es) → H' q = some (.lst (nv res)) → Q (.ref q) H'
theorem ok_by_walking {P : Program} {w : World} {K : PySem.W.Frag} {mg : Str → Option Value} {base : Heap} {A : Ad} {f : Addr} {fd : FuncData} (F : Fun K "by_walking" "by_walking" s_by_walking f fd) (T : Txt K mg A) (M_Asker_ahead : SH.CalM P w K mg base (L2N.CX P w) 3 A.Asker "ahead" [] (sp_Asker_ahead K A)) (M_Asker_many : SH.CalM P w K mg base CX0 1 A.Asker "many" [] (sp_Asker_many K A)) : FnOk P w K mg base (L2N.CX P w) 4 f fd ["asker"] (sp_by_walking K A) := by
  refine SH.okN F sc_by_walking (fun vs H Q E h => by obtain ⟨_, _, rfl, _⟩ := h; rfl) (fun cdv A' outer s H vs Q E hr h => ?_)
  obtain ⟨I, log, rfl, ⟨hA, hn, hlog⟩, kx, k⟩ := h
  refine ⟨_, (pss_cons (ps_set (i := 1) sc_by_walking.nd rfl (Or.inl rfl) (pe_lst pa_nil))
        (pss_cons (ps_for (L2.passes_of rfl) rfl (pi_range1 (by rfl) T.z_range (pa_cons (SH.pe_methF0 (pv 0) M_Asker_many hr pass0) pa_nil)) (pg_name (i := 2) sc_by_walking.nd rfl (Or.inl rfl)) (pss_cons (ps_set (i := 3) sc_by_walking.nd rfl (Or.inl rfl) (pe_callB SH.cLen (by rfl) T.z_len (by decide +kernel) (pa_cons (pv 1) pa_nil)))
        (pss_cons (ps_while (L2.passes_of rfl) (PW.pt (pw_and (pt_cmpR SH.oGt (pv 3) pe_int (nomark _)) (pw_and1 (pt_not (pt_val (SH.pe_methF (pv 0) M_Asker_ahead hr (L2N.passes_call (L2N.takes_of rfl rfl rfl rfl) fun _ _ _ _ h => h) (pa_cons (pe_ix SH.ixA (pv 1) (pe_op SH.oSub (pv 3) pe_int) (fun _ _ => rfl)) (pa_cons (pv 2) pa_nil)))))))) (pss_one (ps_aug (i := 3) sc_by_walking.nd rfl (Or.inl rfl) pe_int SH.ip_sub')))
        (pss_one (ps_expr (pe_bm PySem.F.plainAttrs_list PySem.F.slot_list_insert PySem.F.type_list_insert SH.mIns (pv 1) (pa_cons (pv 3) (pa_cons (pv 2) pa_nil))))))))
        (pss_one (ps_ret (pv 1))))), ?_⟩
  walk_at "begin"
  walk_at "rd"
  intro D hD
  have DM := hA.fresh hD
  have DO := hA.freshO hD
  have hA1 := hA.stp ((Stp.refl [] H).new (o := .lst []) hD) (by simp)
  have hs1 := hA1.hs
  walk_at "rd"
  refine ⟨I, log, rfl, hA1, ?_⟩
  walk_at "rd"
  refine for_it walk_range (fun p σ H' => ∃ (ord : List Nat) (es : List Ent) (v2 v3 : Option V), ord.length = p ∧ (∀ o ∈ ord, o < p) ∧ es.length ≤ p * I.n ∧ (∀ rest res, WO I.n p ord rest res → WO I.n 0 [] (es ++ rest) res) ∧ Told I.or log es ∧ Stp I.M H H' ∧ I.At K A H' (log ++ es) ∧ H' D = some (.lst (nv ord)) ∧
      σ = [some (.ref I.s), some (.ref D), v2, v3])
    ⟨[], [], _, _, rfl, by simp, by simp, fun rest res h => h, True.intro, (Stp.refl _ _).new hD, by rw [List.append_nil]; exact hA1, upd_same, rfl⟩ (fun _ _ _ _ _ => True.intro) ?_ ?_
  · rintro p x σ H1 H2 hj ⟨ord, es, v2, v3, hol, hlt, hel, hW, hT, S, hA2, hD1, rfl⟩ ⟨rfl, rfl⟩
    have hp : p < I.n := by have : p < (I.n : Int).toNat := hj; omega
    have hpn : p * I.n ≤ 40000 := Nat.le_trans (Nat.mul_le_mul (by omega : p ≤ 200) hn) (by decide)
    simp only [Int.zero_add]
    walk_at "rd"
    refine r_while (fun m σ H' => ∃ (at_ : Nat) (es1 : List Ent), m = at_ ∧ at_ ≤ ord.length ∧ es1.length + at_ ≤ ord.length ∧ (∀ rest r, WD ord p at_ rest r → WD ord p ord.length (es1 ++ rest) r) ∧ Told I.or (log ++ es) es1 ∧ Stp I.M H H' ∧ I.At K A H' (log ++ es ++ es1) ∧ H' D = some (.lst (nv ord)) ∧
        σ = [some (.ref I.s), some (.ref D), some (.int p), some (.int at_)])
      ⟨_, ord.length, [], rfl, Nat.le_refl _, by simp, fun rest r h => h, True.intro, S, by rw [List.append_nil]; exact hA2, hD1, rfl⟩ ?_
    clear S hA2 hD1 H2 v2 v3
    rintro m σ H1 ⟨at_, es1, rfl, h1, h2, hD', hT1, S, hA2, hD1, rfl⟩
    have hfin : ∀ (H3 : Hp) (es2 : List Ent) (r : Nat), WD ord p ord.length es2 r → es2.length ≤ ord.length → Told I.or (log ++ es) es2 → Stp I.M H H3 → I.At K A H3 (log ++ es ++ es2) → H3 D = some (.lst (nv ord)) → 
        ∃ (ord' : List Nat) (es' : List Ent), ord'.length = p + 1 ∧ (∀ o ∈ ord', o < p + 1) ∧ es'.length ≤ (p + 1) * I.n ∧ (∀ rest res, WO I.n (p + 1) ord' rest res → WO I.n 0 [] (es' ++ rest) res) ∧ Told I.or log es' ∧ I.At K A H3 (log ++ es') ∧ ord' = ins ord r p := fun H3 es2 r hw hl2 ht2 S3 hA3 hD3 => by
      refine ⟨ins ord r p, es ++ es2, ?_, fun o ho => ?_, ?_, fun rest res hk => ?_, Told.app hT ht2, by rw [← List.append_assoc]; exact hA3, rfl⟩
      · rw [ins_perm.length_eq, List.length_cons]; omega
      · rcases List.mem_cons.mp (ins_perm.mem_iff.mp ho) with rfl | ho
        · omega
        · have := hlt o ho; omega
      · rw [List.length_append, Nat.add_mul]; omega
      · rw [List.append_assoc]
        exact hW _ _ (.put hp hw hk)
    walk_at "rd"
    refine r_w (fun hlt0 => ?_) fun hlt0 => ?_
    · obtain ⟨a1, rfl⟩ : ∃ a1, m = a1 + 1 := ⟨m - 1, by omega⟩
      have ho : ord[a1]? = some ord[a1] := List.getElem?_eq_getElem (by omega)
      have hop := hlt _ (List.mem_of_getElem? ho)
      generalize ord[a1] = o at ho hop
      have hs2 := hA2.hs
      walk_at "rd"
      refine v_ixLn (n := a1) (v := .int o) (SqL.of hD1) (by omega) (by unfold nv; rw [List.getElem?_map, ho]; rfl) ?_
      walk_at "rd"
      refine ⟨I, _, o, p, rfl, ⟨hA2, by omega, hp, by omega, by rw [List.length_append, List.length_append]; omega⟩, (by
        rw [List.append_assoc]
        refine kx.ask S (Told.app hT hT1) ?_
        obtain ⟨rest, r, hw, hT'⟩ := WD.total I.or (place := p) (a1 + 1) (log ++ (es ++ es1)) h1
        obtain ⟨c, es3, rfl⟩ := hw.first ho
        obtain ⟨es4, res, hk, hT4⟩ := WO.total I.or (n := I.n) _ (p + 1) (ins ord r p) (log ++ (es ++ es1) ++ ((⟨p, o, c⟩ : Ent) :: es3)) rfl
        rw [show max o p = p by omega, show min o p = o by omega]
        refine ⟨c, es3 ++ es4, Told.app hT' hT4, res, ?_⟩
        have := hW _ _ (.put hp (hD' _ _ hw) hk)
        simpa [List.append_assoc] using this), fun H3 b hb S3 hA3 => ?_⟩
      rw [show max o p = p by omega, show min o p = o by omega] at hb hA3
      have hT3 := Told.app hT1 (Told.one (e := ⟨p, o, b⟩) hb)
      rw [List.append_assoc] at hA3
      have hD3 := S3.keep hD1 DM
      rw [show decide (b = decide (p < o)) = !b by rw [decide_eq_false (by omega : ¬ p < o)]; cases b <;> rfl]
      cases b with
      | true =>
        walk_at "rd"
        refine r_next_turn ?_
        walk_at "rd"
        refine ⟨a1, by omega, a1, es1 ++ [⟨p, o, true⟩], rfl, by omega, by rw [List.length_append, List.length_singleton]; omega, fun rest r h => ?_, hT3, S.trans S3, hA3, hD3, ?_⟩
        · rw [List.append_assoc]; exact hD' _ _ (.more ho h)
        · rw [show ((a1 + 1 : Nat) : Int) - 1 = (a1 : Nat) by omega]
      | false =>
        walk_at "rd"
        obtain ⟨ord', es', h3, h4, h5, h6, h7, h8, rfl⟩ := hfin H3 _ _ (hD' _ _ (.stop ho)) (by rw [List.length_append, List.length_singleton]; omega) hT3 (S.trans S3) hA3 hD3
        rw [if_neg (by decide)]
        walk_at "rd"
        refine v_insN hD3 (by omega) (by omega) ?_
        walk_at "rd"
        exact ⟨_, es', _, _, h3, h4, h5, h6, h7, (S.trans S3).putN hD, h8.stp ((Stp.refl [D] _).putL (by simp) hD3) (fun m hm => by rw [List.mem_singleton] at hm; subst hm; exact DO), upd_same, rfl⟩
    · have e0 : m = 0 := by omega
      subst e0
      walk_at "rd"
      have hz := hD' [] 0 .zero
      rw [List.append_nil] at hz
      obtain ⟨ord', es', h3, h4, h5, h6, h7, h8, rfl⟩ := hfin H1 _ _ hz (by omega) hT1 S hA2 hD1
      refine v_insN hD1 (by omega) (by omega) ?_
      walk_at "rd"
      exact ⟨_, es', _, _, h3, h4, h5, h6, h7, S.putN hD, h8.stp ((Stp.refl [D] _).putL (by simp) hD1) (fun m hm => by rw [List.mem_singleton] at hm; subst hm; exact DO), upd_same, rfl⟩
  · rintro σ H1 ⟨ord, es, v2, v3, hol, hlt, hel, hW, hT, S, hA2, hD1, rfl⟩
    walk_at "rd"
    have e : (I.n : Int).toNat = I.n := by omega
    rw [e] at hol hel hW
    have := hW [] ord (.done (Nat.le_refl _))
    rw [List.append_nil] at this
    exact k H1 D es ord hD hT this hel S hA2 hD1
/-! ### what walking tells, by keys -/
/-- the asks at a place, of a true teller -/
theorem WD.true_ {ks : List Int} {ord : List Nat} {place at_ r : Nat} {es : List Ent} (h : WD ord place at_ es r) (hT : ∀ e ∈ es, e.c = decide (getE ks e.a < getE ks e.b)) :
    (∀ i o, r ≤ i → i < at_ → ord[i]? = some o → getE ks place < getE ks o) ∧ (0 < r → ∃ o, ord[r - 1]? = some o ∧ ¬ getE ks place < getE ks o) := by
  induction h with
  | zero => exact ⟨fun i o h1 h2 => by omega, fun h => by omega⟩
  | @stop at_ o ho =>
    refine ⟨fun i o' h1 h2 => by omega, fun _ => ⟨o, ho, ?_⟩⟩
    have := hT _ (List.mem_singleton.mpr rfl)
    exact of_decide_eq_false this.symm
  | @more at_ o r es ho k ih =>
    obtain ⟨a, b⟩ := ih fun e he => hT e (List.mem_cons_of_mem _ he)
    refine ⟨fun i o' h1 h2 e => ?_, b⟩
    by_cases hi : i < at_
    · exact a i o' h1 hi e
    · obtain rfl : i = at_ := by omega
      rw [ho] at e
      cases e
      exact of_decide_eq_true (hT _ (List.mem_cons_self ..)).symm
/-- the neighbours at the spot were asked about -/
theorem WD.nbs {ord : List Nat} {place at_ r : Nat} {es : List Ent} (h : WD ord place at_ es r) : (0 < r → ∃ o, ord[r - 1]? = some o ∧ (⟨place, o, false⟩ : Ent) ∈ es) ∧ (r < at_ → ∃ o, ord[r]? = some o ∧ (⟨place, o, true⟩ : Ent) ∈ es) := by
  induction h with
  | zero => exact ⟨fun h => by omega, fun h => by omega⟩
  | @stop at_ o ho => exact ⟨fun _ => ⟨o, ho, List.mem_singleton.mpr rfl⟩, fun h => by omega⟩
  | @more at_ o r es ho k ih =>
    obtain ⟨a, b⟩ := ih
    have hb := k.bd
    refine ⟨fun h => ?_, fun h => ?_⟩
    · obtain ⟨o', h1, h2⟩ := a h; exact ⟨o', h1, List.mem_cons_of_mem _ h2⟩
    · by_cases e : r < at_
      · obtain ⟨o', h1, h2⟩ := b e; exact ⟨o', h1, List.mem_cons_of_mem _ h2⟩
      · obtain rfl : r = at_ := by omega
        exact ⟨o, ho, List.mem_cons_self ..⟩
theorem WD.ent {ord : List Nat} {place at_ r : Nat} {es : List Ent} (h : WD ord place at_ es r) : ∀ e ∈ es, e.a = place ∧ e.b ∈ ord := by
  induction h with
  | zero => simp
  | @stop at_ o ho => intro e he; rw [List.mem_singleton] at he; subst he; exact ⟨rfl, List.mem_of_getElem? ho⟩
  | @more at_ o r es ho k ih => intro e he; rcases List.mem_cons.mp he with rfl | he; exact ⟨rfl, List.mem_of_getElem? ho⟩; exact ih e he
theorem WD.take {ks : List Int} {p r : Nat} {ord : List Nat} {log es : List Ent} (h : Sofar ks p ord log) (hw : WD ord p ord.length es r) (hT : ∀ e ∈ es, e.c = decide (getE ks e.a < getE ks e.b)) :
    (∀ o ∈ ord.take r, ¬ getE ks p < getE ks o) ∧ (∀ o ∈ ord.drop r, getE ks p < getE ks o) := by
  obtain ⟨a, b⟩ := hw.true_ hT
  have hb := hw.bd
  refine ⟨fun o ho => ?_, fun o ho => ?_⟩
  · obtain ⟨i, hi, e⟩ := List.getElem_of_mem ho
    rw [List.length_take] at hi
    rw [List.getElem_take] at e
    obtain ⟨z, hz, hz2⟩ := b (by omega)
    by_cases c : i = r - 1
    · subst c
      rw [List.getElem?_eq_getElem (by omega), e] at hz
      cases hz
      exact hz2
    · obtain ⟨hr1, hz'⟩ := List.getElem?_eq_some_iff.mp hz
      have := List.pairwise_iff_getElem.mp h.pw i (r - 1) (by omega) hr1 (by omega)
      rw [e, hz'] at this
      unfold Ahd at this
      omega
  · obtain ⟨i, hi, e⟩ := List.getElem_of_mem ho
    rw [List.length_drop] at hi
    rw [List.getElem_drop] at e
    exact a (r + i) o (by omega) (by omega) (by rw [List.getElem?_eq_getElem (by omega), e])
theorem Sofar.walk {ks : List Int} {p r : Nat} {ord : List Nat} {log es : List Ent} (h : Sofar ks p ord log) (hw : WD ord p ord.length es r) (hT : ∀ e ∈ es, e.c = decide (getE ks e.a < getE ks e.b)) : Sofar ks (p + 1) (ins ord r p) (log ++ es) := by
  obtain ⟨h1, h2⟩ := WD.take h hw hT
  obtain ⟨n1, n2⟩ := hw.nbs
  exact h.put hw.bd.1 h1 h2 hw.ent (fun z => by obtain ⟨o, a, b⟩ := n1 z; exact ⟨o, a, _, b⟩) (fun z => by obtain ⟨o, a, b⟩ := n2 z; exact ⟨o, a, _, b⟩)
theorem WO.sofar {ks : List Int} {n p : Nat} {ord res : List Nat} {log es : List Ent} (hw : WO n p ord es res) (h : Sofar ks p ord log) (hp : p ≤ n) (hT : ∀ e ∈ es, e.c = decide (getE ks e.a < getE ks e.b)) : Sofar ks n res (log ++ es) := by
  induction hw generalizing log with
  | @done p ord hh => rw [List.append_nil, show n = p by omega]; exact h
  | @put p r ord res es1 es hh k kk ih =>
    rw [← List.append_assoc]
    exact ih (h.walk k fun e he => hT e (List.mem_append_left _ he)) (by omega) fun e he => hT e (List.mem_append_right _ he)
/-! ### one stretch -/
def StretchEs (first end_ at_ : Nat) (fall : Bool) (es : List Ent) : Prop :=
  (first + 1 = end_ ∧ at_ = end_ ∧ fall = false ∧ es = []) ∨
  (first + 1 < end_ ∧ first + 1 < at_ ∧ at_ ≤ end_ ∧ ∃ c : Nat → Bool, es = (List.range' (first + 1) (min (at_ + 1) end_ - (first + 1))).map (fun k => ⟨k, k - 1, c k⟩) ∧ (∀ k, first < k → k < at_ → c k = fall) ∧ (at_ < end_ → c at_ ≠ fall))
theorem ents_succ {first at_ : Nat} {c : Nat → Bool} {b : Bool} (h : first < at_) : (List.range' (first + 1) (at_ + 1 - (first + 1))).map (fun k => (⟨k, k - 1, if k = at_ then b else c k⟩ : Ent)) = (List.range' (first + 1) (at_ - (first + 1))).map (fun k => (⟨k, k - 1, c k⟩ : Ent)) ++ [⟨at_, at_ - 1, b⟩] := by
  rw [show at_ + 1 - (first + 1) = (at_ - (first + 1)) + 1 by omega, List.range'_concat, List.map_append, show first + 1 + 1 * (at_ - (first + 1)) = at_ by omega]
  congr 1
  · refine List.map_congr_left fun k hk => ?_
    have := List.mem_range'_1.mp hk
    rw [if_neg (by omega)]
  · simp
theorem StretchEs.ext (or : List Ent → Nat → Nat → Bool) {first end_ : Nat} {said : Bool} : ∀ (m at_ : Nat) (c : Nat → Bool) (log : List Ent), end_ - at_ = m → first + 1 < at_ → at_ ≤ end_ → (∀ k, first < k → k < at_ → c k = said) →
    ∃ at' es3, StretchEs first end_ at' said ((List.range' (first + 1) (at_ - (first + 1))).map (fun k => (⟨k, k - 1, c k⟩ : Ent)) ++ es3) ∧ Told or log es3 ∧ (at_ < end_ → ∃ b es4, es3 = (⟨at_, at_ - 1, b⟩ : Ent) :: es4) := by
  intro m
  induction m with
  | zero =>
    intro at_ c log hm h1 h2 hc
    obtain rfl : at_ = end_ := by omega
    exact ⟨at_, [], .inr ⟨by omega, h1, h2, c, by rw [List.append_nil, show min (at_ + 1) at_ = at_ by omega], hc, fun h => by omega⟩, True.intro, fun h => by omega⟩
  | succ m ih =>
    intro at_ c log hm h1 h2 hc
    have hlt : at_ < end_ := by omega
    by_cases e : or log at_ (at_ - 1) = said
    · obtain ⟨at', es4, hS, hT, _⟩ := ih (at_ + 1) (fun k => if k = at_ then or log at_ (at_ - 1) else c k) (log ++ [⟨at_, at_ - 1, or log at_ (at_ - 1)⟩]) (by omega) (by omega) (by omega) (fun k hk1 hk2 => by
        by_cases z : k = at_
        · show (if k = at_ then _ else _) = _
          rw [if_pos z]; exact e
        · show (if k = at_ then _ else _) = _
          rw [if_neg z]; exact hc k hk1 (by omega))
      rw [ents_succ (by omega), List.append_assoc] at hS
      exact ⟨at', _, hS, ⟨rfl, hT⟩, fun _ => ⟨_, _, rfl⟩⟩
    · refine ⟨at_, [⟨at_, at_ - 1, or log at_ (at_ - 1)⟩], .inr ⟨by omega, h1, by omega, fun k => if k = at_ then or log at_ (at_ - 1) else c k, by rw [← ents_succ (by omega), show min (at_ + 1) end_ = at_ + 1 by omega], fun k hk1 hk2 => ?_, fun _ => ?_⟩, ⟨rfl, True.intro⟩, fun _ => ⟨_, _, rfl⟩⟩
      · show (if k = at_ then _ else _) = _
        rw [if_neg (by omega)]; exact hc k hk1 hk2
      · show (if at_ = at_ then _ else _) ≠ _
        rw [if_pos rfl]; exact e
theorem StretchEs.total (or : List Ent → Nat → Nat → Bool) {first end_ : Nat} (log : List Ent) (h : first < end_) : ∃ at_ fall es, StretchEs first end_ at_ fall es ∧ Told or log es ∧ (first + 1 < end_ → ∃ b es4, es = (⟨first + 1, first, b⟩ : Ent) :: es4) := by
  by_cases e : first + 1 = end_
  · exact ⟨end_, false, [], .inl ⟨e, rfl, rfl, rfl⟩, True.intro, fun h => by omega⟩
  · obtain ⟨at', es3, hS, hT, _⟩ := StretchEs.ext or (first := first) (end_ := end_) (said := or log (first + 1) first) _ (first + 2) (fun _ => or log (first + 1) first) (log ++ [⟨first + 1, first, or log (first + 1) first⟩]) rfl (by omega) (by omega) (fun _ _ _ => rfl)
    rw [show first + 2 - (first + 1) = 1 by omega] at hS
    exact ⟨at', _, _, hS, ⟨rfl, hT⟩, fun _ => ⟨_, _, rfl⟩⟩
def sp_stretch_from (K : PySem.W.Frag) (A : Ad) : Sp := fun vs H Q E => ∃ (I : Ask) (log : List Ent) (first end_ : Nat) (ev : V), vs = [.ref I.s, .int first, ev] ∧ (I.At K A H log ∧ first < end_ ∧ end_ ≤ I.n ∧ (ev = .int end_ ∨ (ev = .non ∧ end_ = I.n)) ∧ log.length + I.pre.length + (end_ - first) ≤ 100000) ∧
  Stop I K A H log (fun es => ∃ at_ fall, StretchEs first end_ at_ fall es) E ∧
  ∀ H' t at_ fall es, Told I.or log es → StretchEs first end_ at_ fall es → Stp I.M H H' → I.At K A H' (log ++ es) → H t = none → H' t = some (.tup [.int (at_ : Nat), .bl fall]) → Q (.ref t) H'
theorem ok_stretch_from {P : Program} {w : World} {K : PySem.W.Frag} {mg : Str → Option Value} {base : Heap} {A : Ad} {f : Addr} {fd : FuncData} (F : FunD K "stretch_from" "stretch_from" (defArgs s_stretch_from) (defBody s_stretch_from) (defScope s_stretch_from) [.non] [] f fd) (T : Txt K mg A) (M_Asker_ahead : SH.CalM P w K mg base (L2N.CX P w) 3 A.Asker "ahead" [] (sp_Asker_ahead K A)) (M_Asker_many : SH.CalM P w K mg base CX0 1 A.Asker "many" [] (sp_Asker_many K A)) : FnOk P w K mg base (L2N.CX P w) 4 f fd ["asker", "first", "end"] (sp_stretch_from K A) := by
  refine SH.okND F sc_stretch_from (fun vs H Q E h => by obtain ⟨_, _, _, _, _, rfl, _⟩ := h; rfl) (fun cdv A' outer s H vs Q E hr h => ?_)
  obtain ⟨I, log, first, end_, ev, rfl, ⟨hA, hfe, hen, hev, hlog⟩, kx, k⟩ := h
  refine ⟨_, (pss_cons (ps_if (pt_cmpR SH.oIsN (pv 2) pe_non (nomark _)) (pss_one (ps_set (i := 2) sc_stretch_from.nd rfl (Or.inl rfl) (SH.pe_methF0 (pv 0) M_Asker_many hr pass0))) pss_nil)
        (pss_cons (ps_set (i := 3) sc_stretch_from.nd rfl (Or.inl rfl) (pe_op SH.oAdd (pv 1) pe_int))
        (pss_cons (ps_if (pt_cmpR SH.oGe (pv 3) (pv 2) (nomark _)) (pss_one (ps_ret (pe_tup (pa_cons (pv 3) (pa_cons pe_bl pa_nil))))) pss_nil)
        (pss_cons (ps_set (i := 4) sc_stretch_from.nd rfl (Or.inl rfl) (SH.pe_methF (pv 0) M_Asker_ahead hr (L2N.passes_call (L2N.takes_of rfl rfl rfl rfl) fun _ _ _ _ h => h) (pa_cons (pv 3) (pa_cons (pv 1) pa_nil))))
        (pss_cons (ps_aug (i := 3) sc_stretch_from.nd rfl (Or.inl rfl) pe_int SH.ip_add')
        (pss_cons (ps_while (L2.passes_of rfl) (PW.pt (pw_and (pt_cmpR (SH.oLt hr.units0) (pv 3) (pv 2) (nomark _)) (pw_and1 (pt_cmpR (SH.oEq hr.units) (SH.pe_methF (pv 0) M_Asker_ahead hr (L2N.passes_call (L2N.takes_of rfl rfl rfl rfl) fun _ _ _ _ h => h) (pa_cons (pv 3) (pa_cons (pe_op SH.oSub (pv 3) pe_int) pa_nil))) (pv 4) (nomark _))))) (pss_one (ps_aug (i := 3) sc_stretch_from.nd rfl (Or.inl rfl) pe_int SH.ip_add')))
        (pss_one (ps_ret (pe_tup (pa_cons (pv 3) (pa_cons (pv 4) pa_nil))))))))))), ?_⟩
  walk_at "begin"
  walk_at "rd"
  refine r_wJ (W := fun σ H' => H' = H ∧ σ = [some (.ref I.s), some (.int first), some (.int end_), none, none]) ?_ (fun hc N hN => ?_) (fun hc N hN => ?_)
  · rintro σ H1 ⟨rfl, rfl⟩
    dsimp only
    walk_at "rd"
    refine r_w (fun hc => ?_) fun hc => ?_
    · have he : first + 1 = end_ := by omega
      walk_at "rd"
      intro t ht
      exact k _ t (first + 1) false [] True.intro (.inl ⟨he, he, rfl, rfl⟩) ((Stp.refl _ _).new ht) (by rw [List.append_nil]; exact hA.stp ((Stp.refl [] _).new ht) (by simp)) ht upd_same
    walk_at "rd"
    have hs := hA.hs
    walk_at "rd"
    refine ⟨I, log, first + 1, first, rfl, ⟨hA, by omega, by omega, by omega, by omega⟩, (by
      obtain ⟨at', fall, es, hS, hT, hb⟩ := StretchEs.total I.or (first := first) (end_ := end_) log hfe
      obtain ⟨b, es4, rfl⟩ := hb (by omega)
      have := kx.ask (es := []) (x := first + 1) (y := first) (.refl _ _) True.intro ⟨b, es4, by rw [List.append_nil]; exact hT, at', fall, hS⟩
      rw [List.append_nil] at this
      rw [show max (first + 1) first = first + 1 by omega, show min (first + 1) first = first by omega]
      exact this), fun H2 said hsaid S2 hA2 => ?_⟩
    rw [show max (first + 1) first = first + 1 by omega, show min (first + 1) first = first by omega] at hsaid hA2
    rw [show decide (said = decide (first < first + 1)) = said by simp]
    walk_at "rd"
    refine r_while (fun m σ H' => ∃ (at_ : Nat) (c : Nat → Bool), m = end_ - at_ ∧ first + 1 < at_ ∧ at_ ≤ end_ ∧ (∀ k, first < k → k < at_ → c k = said) ∧
      Told I.or log ((List.range' (first + 1) (at_ - (first + 1))).map (fun k => (⟨k, k - 1, c k⟩ : Ent))) ∧ Stp I.M H1 H' ∧ I.At K A H' (log ++ (List.range' (first + 1) (at_ - (first + 1))).map (fun k => (⟨k, k - 1, c k⟩ : Ent))) ∧
      σ = [some (.ref I.s), some (.int first), some (.int end_), some (.int at_), some (.bl said)])
      ⟨_, first + 2, fun _ => said, rfl, by omega, by omega, fun _ _ _ => rfl, ?_, S2, ?_, rfl⟩ ?_
    · rw [show first + 2 - (first + 1) = 1 by omega]
      exact Told.one hsaid
    · rw [show first + 2 - (first + 1) = 1 by omega]
      exact hA2
    rintro m σ H3 ⟨at_, c, rfl, h1, h2, hc2, hT, S3, hA3, rfl⟩
    have hs3 := hA3.hs
    walk_at "rd"
    refine r_w (fun hlt => ?_) fun hlt => ?_
    · walk_at "rd"
      have e1 : (at_ : Int) - 1 = ((at_ - 1 : Nat) : Int) := by omega
      rw [e1]
      have hl3 : (log ++ (List.range' (first + 1) (at_ - (first + 1))).map (fun k => (⟨k, k - 1, c k⟩ : Ent))).length + I.pre.length < 100000 := by
        rw [List.length_append, List.length_map, List.length_range']; omega
      refine ⟨I, _, at_, at_ - 1, rfl, ⟨hA3, by omega, by omega, by omega, hl3⟩, (by
        rw [show max at_ (at_ - 1) = at_ by omega, show min at_ (at_ - 1) = at_ - 1 by omega]
        refine kx.ask S3 hT ?_
        obtain ⟨at', es3, hS, hT', hb⟩ := StretchEs.ext I.or (first := first) (end_ := end_) _ at_ c (log ++ (List.range' (first + 1) (at_ - (first + 1))).map (fun k => (⟨k, k - 1, c k⟩ : Ent))) rfl h1 h2 hc2
        obtain ⟨b, es4, rfl⟩ := hb (by omega)
        exact ⟨b, es4, hT', at', said, hS⟩), fun H4 b hb S4 hA4 => ?_⟩
      rw [show max at_ (at_ - 1) = at_ by omega, show min at_ (at_ - 1) = at_ - 1 by omega] at hb hA4
      rw [show decide (b = decide (at_ - 1 < at_)) = b by rw [decide_eq_true (by omega : at_ - 1 < at_)]; simp]
      have hT4 := Told.app hT (Told.one (e := ⟨at_, at_ - 1, b⟩) hb)
      rw [List.append_assoc] at hA4
      rw [← ents_succ (by omega : first < at_)] at hT4 hA4
      walk_at "rd"
      refine r_w (fun hbe => ?_) fun hbe => ?_
      · refine r_next_turn ?_
        walk_at "rd"
        refine ⟨end_ - (at_ + 1), by omega, at_ + 1, fun k => if k = at_ then b else c k, rfl, by omega, by omega, fun k' hk1 hk2 => ?_, hT4, S3.trans S4, hA4, rfl⟩
        by_cases e : k' = at_
        · show (if k' = at_ then b else c k') = said
          rw [if_pos e]; exact hbe
        · show (if k' = at_ then b else c k') = said
          rw [if_neg e]; exact hc2 k' hk1 (by omega)
      · walk_at "rd"
        intro t ht
        refine k _ t at_ said _ hT4 (.inr ⟨by omega, h1, h2, fun k => if k = at_ then b else c k, by rw [show min (at_ + 1) end_ = at_ + 1 by omega], fun k' hk1 hk2 => ?_, fun _ => ?_⟩) ((S3.trans S4).new ht) (hA4.stp ((Stp.refl [] _).new ht) (by simp)) ((S3.trans S4).dom _ ht) upd_same
        · show (if k' = at_ then b else c k') = said
          rw [if_neg (by omega)]; exact hc2 k' hk1 hk2
        · show (if at_ = at_ then b else c at_) ≠ said
          rw [if_pos rfl]; exact hbe
    · walk_at "rd"
      intro t ht
      have he : at_ = end_ := by omega
      refine k _ t at_ said _ hT (.inr ⟨by omega, h1, h2, c, by rw [show min (at_ + 1) end_ = at_ by omega], hc2, fun h => by omega⟩) (S3.new ht) (hA3.stp ((Stp.refl [] _).new ht) (by simp)) (S3.dom _ ht) upd_same
  · have hs := hA.hs
    walk_at "rd"
    refine ⟨I, log, rfl, hA, ?_⟩
    walk_at "rd"
    refine hN _ _ ⟨rfl, ?_⟩
    rcases hev with h | ⟨_, h⟩
    · rw [h] at hc; cases hc
    · rw [h]
  · walk_at "rd"
    refine hN _ _ ⟨rfl, ?_⟩
    rcases hev with h | ⟨h, _⟩
    · rw [h]
    · exact (hc h).elim

/-- the stretch by an order that doesn't look at the log -/
def Shape (first end_ at_ : Nat) (fall : Bool) (c : Nat → Bool) : Prop := (first + 1 = end_ ∧ at_ = end_ ∧ fall = false) ∨ (first + 1 < end_ ∧ first + 1 < at_ ∧ at_ ≤ end_ ∧ (∀ k, first < k → k < at_ → c k = fall) ∧ (at_ < end_ → c at_ ≠ fall))
def esC (first end_ at_ : Nat) (c : Nat → Bool) : List Ent := (List.range' (first + 1) (min (at_ + 1) end_ - (first + 1))).map (fun k => ⟨k, k - 1, c k⟩)
theorem Shape.uniq {first end_ at1 at2 : Nat} {f1 f2 : Bool} {c : Nat → Bool} (h1 : Shape first end_ at1 f1 c) (h2 : Shape first end_ at2 f2 c) : at1 = at2 ∧ f1 = f2 := by
  rcases h1 with ⟨a, b, d⟩ | ⟨a, b, d, e, f⟩
  · rcases h2 with ⟨a', b', d'⟩ | ⟨a', _⟩
    · exact ⟨by omega, by rw [d, d']⟩
    · omega
  · rcases h2 with ⟨a', _⟩ | ⟨a', b', d', e', f'⟩
    · omega
    · have ef : f1 = f2 := (e (first + 1) (by omega) b).symm.trans (e' (first + 1) (by omega) b')
      subst ef
      refine ⟨?_, rfl⟩
      rcases Nat.lt_trichotomy at1 at2 with h | h | h
      · exact (f (by omega) (e' at1 (by omega) h)).elim
      · exact h
      · exact (f' (by omega) (e at2 (by omega) h)).elim
theorem stretch_told {lt : Nat → Nat → Bool} {log es : List Ent} {first end_ at_ : Nat} {fall : Bool} (h : Told (fun _ => lt) log es) (k : StretchEs first end_ at_ fall es) : Shape first end_ at_ fall (fun k => lt k (k - 1)) ∧ es = esC first end_ at_ (fun k => lt k (k - 1)) := by
  rcases k with ⟨a, b, c, d⟩ | ⟨a, b, d, c, e, f, g⟩
  · refine ⟨.inl ⟨a, b, c⟩, ?_⟩
    unfold esC
    rw [d, show min (at_ + 1) end_ - (first + 1) = 0 by omega]
    rfl
  · have hc : ∀ k, first < k → k < min (at_ + 1) end_ → c k = lt k (k - 1) := fun k h1 h2 => by
      have := h.all ⟨k, k - 1, c k⟩ (by rw [e]; exact List.mem_map.mpr ⟨k, List.mem_range'_1.mpr ⟨by omega, by omega⟩, rfl⟩)
      exact this
    refine ⟨.inr ⟨a, b, d, fun k h1 h2 => ?_, fun h1 => ?_⟩, ?_⟩
    · show lt k (k - 1) = fall
      rw [← hc k h1 (by omega)]; exact f k h1 h2
    · show lt at_ (at_ - 1) ≠ fall
      rw [← hc at_ (by omega) (by omega)]; exact g h1
    · rw [e]
      unfold esC
      refine List.map_congr_left fun k hk => ?_
      have := List.mem_range'_1.mp hk
      rw [hc k (by omega) (by omega)]
/-! ### all stretches -/
abbrev Trip := T3 Nat Nat Bool
inductive StrsEs (n : Nat) : Nat → List Trip → List Ent → Prop
  | done {first : Nat} (h : n ≤ first) : StrsEs n first [] []
  | step {first at_ : Nat} {fall : Bool} {es fs : List Ent} {ts : List Trip} (h : first < n) (he : StretchEs first n at_ fall es) (k : StrsEs n at_ ts fs) : StrsEs n first (⟨first, at_, fall⟩ :: ts) (es ++ fs)
theorem StretchEs.bd {first n at_ : Nat} {fall : Bool} {es : List Ent} (h : StretchEs first n at_ fall es) : first < at_ ∧ at_ ≤ n ∧ es.length ≤ at_ + 1 - (first + 1) := by
  rcases h with ⟨a, b, c, d⟩ | ⟨a, b, c, c', e, _⟩
  · subst d; exact ⟨by omega, by omega, by simp⟩
  · subst e; exact ⟨by omega, by omega, by simp; omega⟩
theorem StrsEs.total (or : List Ent → Nat → Nat → Bool) {n : Nat} : ∀ (m first : Nat) (log : List Ent), n - first = m → ∃ ts es, StrsEs n first ts es ∧ Told or log es := by
  intro m
  induction m using Nat.strongRecOn with
  | _ m ih =>
    intro first log hm
    by_cases h : first < n
    · obtain ⟨at_, fall, es, hS, hT, _⟩ := StretchEs.total or (first := first) (end_ := n) log h
      obtain ⟨b1, b2, _⟩ := hS.bd
      obtain ⟨ts, fs, hk, hT2⟩ := ih (n - at_) (by omega) at_ (log ++ es) rfl
      exact ⟨_, _, .step h hS hk, Told.app hT hT2⟩
    · exact ⟨[], [], .done (by omega), True.intro⟩
def IsTup (H : Hp) (v : V) : Prop := ∃ (t : Addr) (xs : List V), v = .ref t ∧ H t = some (.tup xs)
def sp_stretches (K : PySem.W.Frag) (A : Ad) : Sp := fun vs H Q E => ∃ (I : Ask) (log : List Ent), vs = [.ref I.s] ∧ (I.At K A H log ∧ log.length + I.pre.length + 2 * I.n ≤ 90000) ∧
  Stop I K A H log (fun es => ∃ ts, StrsEs I.n 0 ts es) E ∧
  ∀ H' q tvs ts es, Told I.or log es → StrsEs I.n 0 ts es → Stp I.M H H' → I.At K A H' (log ++ es) → H q = none → H' q = some (.lst tvs) → IsL K H' tvs ts → (∀ v ∈ tvs, IsTup H' v) → q ∉ I.own → Q (.ref q) H'
theorem ok_stretches {P : Program} {w : World} {K : PySem.W.Frag} {mg : Str → Option Value} {base : Heap} {A : Ad} {f : Addr} {fd : FuncData} (F : Fun K "stretches" "stretches" s_stretches f fd) (T : Txt K mg A) (M_Asker_many : SH.CalM P w K mg base CX0 1 A.Asker "many" [] (sp_Asker_many K A)) (C_stretch_from_d1 : SH.Cal P w K mg base (L2N.CX P w) 4 "stretch_from" [.non] (sp_stretch_from K A)) : FnOk P w K mg base (L2N.CX P w) 5 f fd ["asker"] (sp_stretches K A) := by
  refine SH.okN F sc_stretches (fun vs H Q E h => by obtain ⟨_, _, rfl, _⟩ := h; rfl) (fun cdv A' outer s H vs Q E hr h => ?_)
  obtain ⟨I, log, rfl, ⟨hA, hlog⟩, kx, k⟩ := h
  refine ⟨_, (pss_cons (ps_set (i := 1) sc_stretches.nd rfl (Or.inl rfl) (pe_lst pa_nil))
        (pss_cons (ps_set (i := 2) sc_stretches.nd rfl (Or.inl rfl) pe_int)
        (pss_cons (ps_while (L2.passes_of rfl) (pt_cmpR (SH.oLt hr.units0) (pv 2) (SH.pe_methF0 (pv 0) M_Asker_many hr pass0) (nomark _)) (pss_cons (ps_asg (SH.pe_callF C_stretch_from_d1 hr (by rfl) (L2N.passes_call (L2N.takes_of rfl rfl rfl rfl) fun _ _ _ _ h => h) (pa_cons (pv 0) (pa_cons (pv 2) pa_nil))) (pg_tup (by rfl) (pgs_cons (pg_name (i := 3) sc_stretches.nd rfl (Or.inl rfl)) (pgs_cons (pg_name (i := 4) sc_stretches.nd rfl (Or.inl rfl)) pgs_nil))))
        (pss_cons (ps_expr (pe_bm PySem.F.plainAttrs_list PySem.F.slot_list_append PySem.F.type_list_append mt_append (pv 1) (pa_cons (pe_tup (pa_cons (pv 2) (pa_cons (pv 3) (pa_cons (pv 4) pa_nil)))) pa_nil)))
        (pss_one (ps_set (i := 2) sc_stretches.nd rfl (Or.inl rfl) (pv 3))))))
        (pss_one (ps_ret (pv 1)))))), ?_⟩
  walk_at "begin"
  walk_at "rd"
  intro q hq
  have hqo := hA.freshO hq
  have hqM := hA.fresh hq
  walk_at "rd"
  refine r_while (fun m σ H' => ∃ (first : Nat) (ts : List Trip) (es : List Ent) (tvs : List V) (v3 v4 : Option V), m = I.n - first ∧ es.length ≤ 2 * first ∧ first ≤ I.n ∧ ts.length ≤ first ∧ (∀ rest fs, StrsEs I.n first rest fs → StrsEs I.n 0 (ts ++ rest) (es ++ fs)) ∧
    Told I.or log es ∧ Stp I.M H H' ∧ I.At K A H' (log ++ es) ∧ H' q = some (.lst tvs) ∧ IsL K H' tvs ts ∧ (∀ v ∈ tvs, IsTup H' v) ∧ σ = [some (.ref I.s), some (.ref q), some (.int first), v3, v4])
    ⟨_, 0, [], [], [], _, _, rfl, by simp, by omega, by simp, fun rest fs h => h, True.intro, (Stp.refl _ _).new hq, by rw [List.append_nil]; exact hA.stp ((Stp.refl [] H).new hq) (by simp), upd_same, isl_nil, by simp, rfl⟩ ?_
  rintro m σ H1 ⟨first, ts, es, tvs, v3, v4, rfl, hel, hfn, htl, hH, hT, S, hA1, hQ1, hI1, hU1, rfl⟩
  have hs1 := hA1.hs
  walk_at "rd"
  refine ⟨I, _, rfl, hA1, ?_⟩
  walk_at "rd"
  refine r_w (fun hlt => ?_) fun hlt => ?_
  · refine r_next_turn ?_
    walk_at "rd"
    refine ⟨I, _, first, I.n, _, rfl, ⟨hA1, by omega, Nat.le_refl _, .inr ⟨rfl, rfl⟩, by rw [List.length_append]; omega⟩, kx.sub S hT (fun es2 ⟨at_, fall, hE⟩ hT2 => by
      obtain ⟨ts2, fs, hk, hT3⟩ := StrsEs.total I.or (n := I.n) _ at_ (log ++ es ++ es2) rfl
      exact ⟨fs, hT3, _, by rw [List.append_assoc]; exact hH _ _ (.step (by omega) hE hk)⟩), fun H2 t at_ fall es2 hT2 hE2 S2 hA2 ht hR2 => ?_⟩
    obtain ⟨b1, b2, b3⟩ := hE2.bd
    have hT3 := Told.app hT hT2
    rw [List.append_assoc] at hA2
    have hQ2 := S2.keep hQ1 hqM
    have hI2 := isl_stpM S2 hI1
    have hvl := isl_len hI1
    walk_at "rd"
    intro t3 ht3
    walk_at "rd"
    have hq3 := upd_old (u := .tup [.int first, .int at_, .bl fall]) hQ2 ht3
    have ne3 : t3 ≠ q := (ne_of_none hQ2 ht3).symm
    refine v_app hq3 (by omega) ?_
    walk_at "rd"
    have S4 : Stp [q] H2 (upd (upd H2 t3 (.tup [.int first, .int at_, .bl fall])) q (.lst (tvs ++ [.ref t3]))) := ((Stp.refl [q] H2).new ht3).putL (by simp) hq3
    have hq0 : H q = none := hq
    refine ⟨I.n - at_, by omega, at_, ts ++ [⟨first, at_, fall⟩], es ++ es2, tvs ++ [.ref t3], _, _, rfl, by rw [List.length_append]; omega, b2, by simp; omega, fun rest fs h => ?_, hT3, ((S.trans S2).new ht3).putN hq0, hA2.stp S4 (by simpa using hqo), upd_same, isl_app (isl_stpM S4 hI2) (isl_cons (is_t3 (SqT.of (by rw [upd_ne ne3]; exact upd_same)) is_nat is_nat is_bl) isl_nil), fun v hv => ?_, rfl⟩
    · rw [List.append_assoc, List.append_assoc]
      exact hH _ _ (.step (by omega) hE2 h)
    · rcases List.mem_append.mp hv with hv | hv
      · obtain ⟨t', xs, rfl, h'⟩ := hU1 v hv
        exact ⟨t', xs, rfl, S4.tup (S2.tup h')⟩
      · rw [List.mem_singleton] at hv
        subst hv
        exact ⟨t3, _, rfl, by rw [upd_ne ne3]; exact upd_same⟩
  · walk_at "rd"
    have := hH [] [] (.done (by omega))
    rw [List.append_nil, List.append_nil] at this
    exact k H1 q tvs ts es hT this S hA1 hq hQ1 hI1 hU1 hqo
/-! ### by a reach of all -/
def sp_by_reach (K : PySem.W.Frag) (A : Ad) : Sp := fun vs H Q E => ∃ (I : Ask) (log : List Ent), vs = [.ref I.s, .int I.n] ∧ (I.At K A H log ∧ I.n ≤ 200 ∧ log.length + I.pre.length < 50000) ∧
  Stop I K A H log (fun es => ∃ res, PO I.n 0 [] es res) E ∧
  ∀ H' q es res, H q = none → Told I.or log es → PO I.n 0 [] es res → es.length ≤ I.n * I.n → Stp I.M H H' → I.At K A H' (log ++ es) → H' q = some (.lst (nv res)) → Q (.ref q) H'
theorem ok_by_reach {P : Program} {w : World} {K : PySem.W.Frag} {mg : Str → Option Value} {base : Heap} {A : Ad} {f : Addr} {fd : FuncData} (F : Fun K "by_reach" "by_reach" s_by_reach f fd) (T : Txt K mg A) (M_Asker_ahead : SH.CalM P w K mg base (L2N.CX P w) 3 A.Asker "ahead" [] (sp_Asker_ahead K A)) (M_Asker_many : SH.CalM P w K mg base CX0 1 A.Asker "many" [] (sp_Asker_many K A)) (C_spot_of : SH.Cal P w K mg base (L2N.CX P w) 4 "spot_of" [] (sp_spot_of K A)) : FnOk P w K mg base (L2N.CX P w) 5 f fd ["asker", "reach"] (sp_by_reach K A) := by
  refine SH.okN F sc_by_reach (fun vs H Q E h => by obtain ⟨_, _, rfl, _⟩ := h; rfl) (fun cdv A' outer s H vs Q E hr h => ?_)
  obtain ⟨I, log, rfl, ⟨hA, hn, hlog⟩, kx, k⟩ := h
  refine ⟨_, (pss_cons (ps_set (i := 2) sc_by_reach.nd rfl (Or.inl rfl) (pe_lst pa_nil))
        (pss_cons (ps_for (L2.passes_of rfl) rfl (pi_range1 (by rfl) T.z_range (pa_cons (SH.pe_methF0 (pv 0) M_Asker_many hr pass0) pa_nil)) (pg_name (i := 3) sc_by_reach.nd rfl (Or.inl rfl)) (pss_cons (ps_set (i := 4) sc_by_reach.nd rfl (Or.inl rfl) (pe_callB (SH.cMax2 rfl) (by rfl) T.z_max (by decide +kernel) (pa_cons pe_int (pa_cons (pe_op SH.oSub (pe_callB SH.cLen (by rfl) T.z_len (by decide +kernel) (pa_cons (pv 2) pa_nil)) (pv 1)) pa_nil))))
        (pss_cons (ps_if (PW.pt (pw_and (pt_cmpR SH.oGt (pv 4) pe_int (nomark _)) (pw_and1 (pt_not (pt_val (SH.pe_methF (pv 0) M_Asker_ahead hr (L2N.passes_call (L2N.takes_of rfl rfl rfl rfl) fun _ _ _ _ h => h) (pa_cons (pe_ix SH.ixA (pv 2) (pe_op SH.oSub (pv 4) pe_int) (fun _ _ => rfl)) (pa_cons (pv 3) pa_nil)))))))) (pss_one ps_never) pss_nil)
        (pss_one (ps_expr (pe_bm PySem.F.plainAttrs_list PySem.F.slot_list_insert PySem.F.type_list_insert SH.mIns (pv 2) (pa_cons (pe_op SH.oAdd (pv 4) (SH.pe_callF C_spot_of hr (by rfl) (L2N.passes_call (L2N.takes_of rfl rfl rfl rfl) fun _ _ _ _ h => h) (pa_cons (pv 0) (pa_cons (pe_slice sl_list (pv 2) (po_some (pv 4)) po_none) (pa_cons (pv 3) pa_nil))))) (pa_cons (pv 3) pa_nil))))))))
        (pss_one (ps_ret (pv 2))))), ?_⟩
  walk_at "begin"
  walk_at "rd"
  intro D hD
  have DM := hA.fresh hD
  have DO := hA.freshO hD
  have hA1 := hA.stp ((Stp.refl [] H).new (o := .lst []) hD) (by simp)
  have hs1 := hA1.hs
  walk_at "rd"
  refine ⟨I, log, rfl, hA1, ?_⟩
  walk_at "rd"
  refine for_it walk_range (fun p σ H' => ∃ (ord : List Nat) (es : List Ent) (v2 v3 : Option V), ord.length = p ∧ (∀ o ∈ ord, o < p) ∧ es.length ≤ p * I.n ∧ (∀ rest res, PO I.n p ord rest res → PO I.n 0 [] (es ++ rest) res) ∧ Told I.or log es ∧ Stp I.M H H' ∧ I.At K A H' (log ++ es) ∧ H' D = some (.lst (nv ord)) ∧
      σ = [some (.ref I.s), some (.int I.n), some (.ref D), v2, v3])
    ⟨[], [], _, _, rfl, by simp, by simp, fun rest res h => h, True.intro, (Stp.refl _ _).new hD, by rw [List.append_nil]; exact hA1, upd_same, rfl⟩ (fun _ _ _ _ _ => True.intro) ?_ ?_
  · rintro p x σ H1 H2 hj ⟨ord, es, v2, v3, hol, hlt, hel, hW, hT, S, hA2, hD1, rfl⟩ ⟨rfl, rfl⟩
    have hp : p < I.n := by have : p < (I.n : Int).toNat := hj; omega
    have hpn : p * I.n ≤ 40000 := Nat.le_trans (Nat.mul_le_mul (by omega : p ≤ 200) hn) (by decide)
    simp only [Int.zero_add]
    walk_at "rd"
    have e0 : (if (ord.length : Int) - (I.n : Int) > 0 then (ord.length : Int) - (I.n : Int) else 0) = 0 := if_neg (by omega)
    rw [e0]
    rw [if_neg (by simp), if_neg (by simp)]
    walk_at "rd"
    intro cp hcp
    rw [show cutV (nv ord) (some 0) none = nv ord by rw [cut_map]; exact congrArg _ ((cutL_from ord 0).trans (by simp))]
    have S3 := (Stp.refl [] H2).new (o := .lst (nv ord)) hcp
    have hcp3 := upd_same (H := H2) (a := cp) (o := .lst (nv ord))
    have hD3 := S3.keep0 hD1
    have hA3 := hA2.stp S3 (by simp)
    have cpM := hA2.fresh hcp
    generalize upd H2 cp (.lst (nv ord)) = H3 at S3 hcp3 hD3 hA3 ⊢
    walk_at "rd"
    refine ⟨I, _, cp, ord, p, rfl, ⟨hA3, SqL.of hcp3, cpM, hp, fun o ho => by have := hlt o ho; omega, by rw [List.length_append]; omega⟩, kx.sub (S.trans (S3.mono (by simp))) hT (fun es2 ⟨r, hh⟩ hT2 => by
      obtain ⟨es3, res, hk, hT3⟩ := PO.total I.or (n := I.n) _ (p + 1) (ins ord r p) (log ++ es ++ es2) rfl
      exact ⟨es3, hT3, res, by rw [List.append_assoc]; exact hW _ _ (.put hp hh hk)⟩), fun H4 r es2 hT2 hh S4 hA4 => ?_⟩
    have hb := hh.bd (Nat.zero_le _)
    rw [List.append_assoc] at hA4
    have hD4 := S4.keep hD3 DM
    walk_at "rd"
    rw [show (0 : Int) + ((r : Nat) : Int) = ((r : Nat) : Int) by omega]
    refine v_insN hD4 hb.2.1 (by omega) ?_
    walk_at "rd"
    refine ⟨ins ord r p, es ++ es2, _, _, ?_, fun o ho => ?_, ?_, fun rest res hk => ?_, Told.app hT hT2, ((S.trans (S3.mono (by simp))).trans S4).putN hD, hA4.stp ((Stp.refl [D] _).putL (by simp) hD4) (fun m hm => by rw [List.mem_singleton] at hm; subst hm; exact DO), upd_same, rfl⟩
    · rw [ins_perm.length_eq, List.length_cons]; omega
    · rcases List.mem_cons.mp (ins_perm.mem_iff.mp ho) with rfl | ho
      · omega
      · have := hlt o ho; omega
    · rw [List.length_append, Nat.add_mul]; omega
    · rw [List.append_assoc]
      exact hW _ _ (.put hp hh hk)
  · rintro σ H1 ⟨ord, es, v2, v3, hol, hlt, hel, hW, hT, S, hA2, hD1, rfl⟩
    walk_at "rd"
    have e : (I.n : Int).toNat = I.n := by omega
    rw [e] at hol hel hW
    have := hW [] ord (.done (Nat.le_refl _))
    rw [List.append_nil] at this
    exact k H1 D es ord hD hT this hel S hA2 hD1
theorem isl_ent {K : PySem.W.Frag} {H : Hp} {evs : List V} {log : List Ent} (hI : IsL K H evs log) {j : Nat} {x : V} (hx : evs[j]? = some x) : ∃ (e : Ent) (t : Addr), log[j]? = some e ∧ x = .ref t ∧ SqT K H t [.int (e.a : Nat), .int (e.b : Nat), .bl e.c] := by
  obtain ⟨e, he, hIe⟩ := isl_at hI hx
  obtain ⟨ea, eb, ec⟩ := e
  cases hIe with
  | @tup t xs ds hs ha =>
    refine ⟨_, t, he, rfl, ?_⟩
    cases ha with | cons h1 h2 => cases h2 with | cons h3 h4 => cases h4 with | cons h5 h6 => cases h6; cases h1; cases h3; cases h5; exact hs
def sp__law_cell_at (K : PySem.W.Frag) (A : Ad) : Sp := fun vs H Q _ => ∃ (a : Addr) (ns : List Int) (k : Nat), vs = [.ref a, .int k] ∧ SqL K H a (ns.map V.int) ∧ ∀ c : Int, Q (.int c) H
theorem ok__law_cell_at {P : Program} {w : World} {K : PySem.W.Frag} {mg : Str → Option Value} {base : Heap} {A : Ad} {f : Addr} {fd : FuncData} (F : Fun K "_law_cell_at" "_law_cell_at" s__law_cell_at f fd) (T : Txt K mg A)  : FnOk P w K mg base CX0 1 f fd ["_law_script", "_law_k"] (sp__law_cell_at K A) := by
  refine F.ok sc__law_cell_at (fun vs H Q E h => by obtain ⟨_, _, _, rfl, _⟩ := h; rfl) (fun cdv A' outer s H vs Q E hr h => ?_)
  obtain ⟨a, ns, i, rfl, hS, k⟩ := h
  refine ⟨_, (pss_cons (ps_if (pt_cmpR (SH.oLt hr.units0) (pv 1) (pe_callB SH.cLen (by rfl) T.z_len (by decide +kernel) (pa_cons (pv 0) pa_nil)) (nomark _)) (pss_one (ps_ret (pe_ix SH.ixA (pv 0) (pv 1) (fun _ _ => rfl)))) pss_nil)
        (pss_one (ps_ret pe_int))), ?_⟩
  walk_at "begin"
  walk_at "rd"
  refine r_w (fun hc => ?_) fun hc => ?_
  · walk_at "rd"
    refine v_ixE (n := i) (by walk_at "sq") rfl (by omega) ?_
    walk_at "rd"
    exact k _
  · walk_at "rd"
    exact k _
/-! ### keys: any ints, not too many -/
def sp__law_stream (K : PySem.W.Frag) (A : Ad) : Sp := fun vs H Q _ => ∃ (c : Int) (n : Nat), vs = [.int c, .int n] ∧ n ≤ 1000 ∧
  ∀ (q : Addr) (H' : Hp) (ms : List Int), H q = none → Stp [] H H' → H' q = some (.lst (ms.map V.int)) → ms.length = n → (∀ m ∈ ms, 0 ≤ m) → Q (.ref q) H'
theorem ok__law_stream {P : Program} {w : World} {K : PySem.W.Frag} {mg : Str → Option Value} {base : Heap} {A : Ad} {f : Addr} {fd : FuncData} (F : Fun K "_law_stream" "_law_stream" s__law_stream f fd) (T : Txt K mg A)  : FnOk P w K mg base CX0 1 f fd ["_law_cell", "_law_many"] (sp__law_stream K A) := by
  refine F.ok sc__law_stream (fun vs H Q E h => by obtain ⟨_, _, rfl, _⟩ := h; rfl) (fun cdv A' outer s H vs Q E hr h => ?_)
  obtain ⟨c, n, rfl, hn, k⟩ := h
  refine ⟨_, (pss_cons (ps_set (i := 2) sc__law_stream.nd rfl (Or.inl rfl) (pe_lst pa_nil))
        (pss_cons (ps_set (i := 3) sc__law_stream.nd rfl (Or.inl rfl) (pe_op SH.oMod (pv 0) pe_int))
        (pss_cons (ps_for PassesOwn.never rfl (pi_range1 (by rfl) T.z_range (pa_cons (pv 1) pa_nil)) (pg_name (i := 4) sc__law_stream.nd rfl (Or.inl rfl)) (pss_cons (ps_set (i := 3) sc__law_stream.nd rfl (Or.inl rfl) (pe_op SH.oMod (pe_op SH.oAdd (pe_op SH.oAdd (pe_op SH.oAdd (pe_op SH.oMul (pv 3) (pv 3)) (pe_op SH.oMul pe_int (pv 3))) (pe_op SH.oMul pe_int (pv 4))) pe_int) pe_int))
        (pss_one (ps_expr (pe_bm PySem.F.plainAttrs_list PySem.F.slot_list_append PySem.F.type_list_append mt_append (pv 2) (pa_cons (pv 3) pa_nil))))))
        (pss_one (ps_ret (pv 2)))))), ?_⟩
  walk_at "begin"
  walk_at "rd"
  intro q hq
  walk_at "rd"
  refine for_it walk_range (fun j σ H' => (∃ ms : List Int, ms.length = j ∧ (∀ m ∈ ms, 0 ≤ m) ∧ H' = upd H q (.lst (ms.map V.int))) ∧ ∃ (x : Int) (v4 : Option V), (0 ≤ x ∧ x < 4294967296) ∧ σ = [some (.int c), some (.int n), some (.ref q), some (.int x), v4]) ⟨⟨[], rfl, by simp, rfl⟩, _, _, ⟨by omega, by omega⟩, rfl⟩ (fun _ _ _ _ _ => True.intro) ?_ ?_
  · rintro j x σ H2 H3 hj ⟨⟨ms, hl', h00, rfl⟩, x', v4, ⟨h0, h1⟩, rfl⟩ ⟨rfl, rfl⟩
    walk_at "rd"
    refine v_app (xs := ms.map V.int) upd_same (by rw [List.length_map]; omega) ?_
    walk_at "rd"
    refine ⟨⟨ms ++ [_], by simp [hl'], ?_, by rw [upd_upd, List.map_append]; rfl⟩, _, _, ⟨by omega, by omega⟩, rfl⟩
    intro m hm
    rcases List.mem_append.mp hm with hm | hm
    · exact h00 m hm
    · rw [List.mem_singleton] at hm; omega
  · rintro σ H2 ⟨⟨ms, hl', h00, rfl⟩, x', v4, _, rfl⟩
    walk_at "rd"
    exact k q _ ms hq ((Stp.refl _ _).new hq) upd_same (by omega) h00

def sp__law_digits (K : PySem.W.Frag) (A : Ad) : Sp := fun vs H Q _ => ∃ (a : Addr) (ns : List Int) (k : Nat) (b : Int), vs = [.ref a, .int k, .int b] ∧ (SqL K H a (ns.map V.int) ∧ 0 < b ∧ b < 1073741824) ∧
  ∀ (q : Addr) (H' : Hp) (ms : List Int), H q = none → Stp [] H H' → H' q = some (.lst (ms.map V.int)) → ms.length = 120 → (∀ m ∈ ms, 0 ≤ m ∧ m < b) → Q (.ref q) H'
theorem ok__law_digits {P : Program} {w : World} {K : PySem.W.Frag} {mg : Str → Option Value} {base : Heap} {A : Ad} {f : Addr} {fd : FuncData} (F : Fun K "_law_digits" "_law_digits" s__law_digits f fd) (T : Txt K mg A) (C__law_cell_at : SH.Cal P w K mg base CX0 1 "_law_cell_at" [] (sp__law_cell_at K A)) (C__law_stream : SH.Cal P w K mg base CX0 1 "_law_stream" [] (sp__law_stream K A)) : FnOk P w K mg base CX0 2 f fd ["_law_script", "_law_k", "_law_base"] (sp__law_digits K A) := by
  refine F.ok sc__law_digits (fun vs H Q E h => by obtain ⟨_, _, _, _, rfl, _⟩ := h; rfl) (fun cdv A' outer s H vs Q E hr h => ?_)
  obtain ⟨a, ns, k0, b, rfl, ⟨hS, hb, hb2⟩, k⟩ := h
  refine ⟨_, (pss_cons (ps_set (i := 3) sc__law_digits.nd rfl (Or.inl rfl) (SH.pe_callF C__law_stream hr (by rfl) pass0 (pa_cons (pe_op SH.oAdd (pe_callB (cr_sum rfl) (by rfl) T.z_sum (by decide +kernel) (pa_cons (pv 0) pa_nil)) (pv 1)) (pa_cons pe_int pa_nil))))
        (pss_cons (ps_set (i := 4) sc__law_digits.nd rfl (Or.inl rfl) (pe_lst pa_nil))
        (pss_cons (ps_for PassesOwn.never rfl (pi_list (pe_lst (pa_cons (SH.pe_callF C__law_cell_at hr (by rfl) pass0 (pa_cons (pv 0) (pa_cons (pv 1) pa_nil))) (pa_cons (SH.pe_callF C__law_cell_at hr (by rfl) pass0 (pa_cons (pv 0) (pa_cons (pe_op SH.oAdd (pv 1) pe_int) pa_nil))) pa_nil)))) (pg_name (i := 5) sc__law_digits.nd rfl (Or.inl rfl)) (pss_one (ps_for PassesOwn.never rfl (pi_range1 (by rfl) T.z_range (pa_cons pe_int pa_nil)) (pg_name (i := 6) sc__law_digits.nd rfl (Or.inl rfl)) (pss_cons (ps_if (pt_cmpR (SH.oLt hr.units0) (pv 5) pe_int (nomark _)) (pss_one (ps_set (i := 5) sc__law_digits.nd rfl (Or.inl rfl) (pe_ix SH.ixA (pv 3) (pe_callB SH.cLen (by rfl) T.z_len (by decide +kernel) (pa_cons (pv 4) pa_nil)) (fun _ _ => rfl)))) pss_nil)
        (pss_cons (ps_expr (pe_bm PySem.F.plainAttrs_list PySem.F.slot_list_append PySem.F.type_list_append mt_append (pv 4) (pa_cons (pe_op SH.oMod (pv 5) (pv 2)) pa_nil)))
        (pss_one (ps_set (i := 5) sc__law_digits.nd rfl (Or.inl rfl) (pe_op SH.oDiv (pv 5) (pv 2)))))))))
        (pss_one (ps_ret (pv 4)))))), ?_⟩
  walk_at "begin"
  walk_at "rd"
  refine v_sum hS ?_
  walk_at "rd"
  refine ⟨_, 120, rfl, by omega, fun st H1 ms hst S1 hSt hml hm0 => ?_⟩
  walk_at "rd"
  intro D hD
  have hD0 : H D = none := S1.dom _ hD
  walk_at "rd"
  refine ⟨a, ns, k0, rfl, by walk_at "sq", fun c1 => ?_⟩
  walk_at "rd"
  refine ⟨a, ns, k0 + 1, rfl, by walk_at "sq", fun c2 => ?_⟩
  walk_at "rd"
  intro l hl
  walk_at "rd"
  have hlD : l ≠ D := by rintro rfl; rw [upd_same] at hl; cases hl
  have hst2 : SqL K (upd (upd H1 D (.lst [])) l (.lst [.int c1, .int c2])) st (ms.map V.int) := sql_upd (sql_upd (SqL.of hSt) hD) hl
  have hstD : st ≠ D := by rintro rfl; rw [hSt] at hD; cases hD
  refine for_it (walk_list (xs := [.int c1, .int c2])) (fun j σ H' => Stp [] H H' ∧ SqL K H' l [.int c1, .int c2] ∧ SqL K H' st (ms.map V.int) ∧ (∃ fs : List Int, fs.length = 60 * j ∧ (∀ m ∈ fs, 0 ≤ m ∧ m < b) ∧ H' D = some (.lst (fs.map V.int))) ∧ ∃ v5 v6, σ = [some (.ref a), some (.int k0), some (.int b), some (.ref st), some (.ref D), v5, v6])
    ⟨(S1.new hD).new hl, SqL.of upd_same, hst2, ⟨[], rfl, by simp, upd_old upd_same hl⟩, _, _, rfl⟩ (fun _ _ _ _ z => z.2.1) ?_ ?_
  · rintro j x σ H2 H3 hj ⟨S, hl2, hst2, ⟨fs, hfl, hfb, hL⟩, v5, v6, rfl⟩ ⟨rfl, hx⟩
    have hj2 : j < 2 := hj
    have hxi : ∃ c, x = .int c := by
      rcases j with _ | _ | j
      · cases hx; exact ⟨_, rfl⟩
      · cases hx; exact ⟨_, rfl⟩
      · omega
    obtain ⟨c, rfl⟩ := hxi
    walk_at "rd"
    refine for_it walk_range (fun i σ H' => Stp [] H H' ∧ SqL K H' l [.int c1, .int c2] ∧ SqL K H' st (ms.map V.int) ∧ (∃ fs : List Int, fs.length = 60 * j + i ∧ (∀ m ∈ fs, 0 ≤ m ∧ m < b) ∧ H' D = some (.lst (fs.map V.int))) ∧ ∃ (c : Int) (v6 : Option V), σ = [some (.ref a), some (.int k0), some (.int b), some (.ref st), some (.ref D), some (.int c), v6])
      ⟨S, hl2, hst2, ⟨fs, by omega, hfb, hL⟩, _, _, rfl⟩ (fun _ _ _ _ _ => True.intro) ?_ ?_
    · rintro i x σ H4 H5 hi ⟨S, hl2, hst2, ⟨fs, hfl, hfb, hL⟩, c, v6, rfl⟩ ⟨rfl, rfl⟩
      walk_at "rd"
      refine r_wJ (W := fun σ H' => H' = H5 ∧ ∃ c : Int, σ = [some (.ref a), some (.int k0), some (.int b), some (.ref st), some (.ref D), some (.int c), some (.int (0 + (i : Nat)))]) ?_ (fun hc N hN => ?_) (fun hc N hN => ?_)
      · rintro σ H6 ⟨rfl, c, rfl⟩
        dsimp only
        walk_at "rd"
        refine v_app hL (by rw [List.length_map]; omega) ?_
        walk_at "rd"
        have m0 := Int.emod_nonneg c (show b ≠ 0 by omega)
        have m1 := Int.emod_lt_of_pos c hb
        refine ⟨S.putN hD0, sql_far hl2 hlD, sql_far hst2 hstD, ⟨fs ++ [c % b], by simp [hfl]; omega, fun m hm => ?_, by rw [upd_same, List.map_append]; rfl⟩, _, _, rfl⟩
        rcases List.mem_append.mp hm with hm | hm
        · exact hfb m hm
        · rw [List.mem_singleton] at hm; subst hm; exact ⟨m0, m1⟩
      · walk_at "rd"
        refine v_ixE (n := fs.length) hst2 rfl (by omega) ?_
        walk_at "rd"
        exact hN _ _ ⟨rfl, _, rfl⟩
      · walk_at "rd"
        exact hN _ _ ⟨rfl, _, rfl⟩
    · rintro σ H4 ⟨S, hl2, hst2, ⟨fs, hfl, hfb, hL⟩, c, v6, rfl⟩
      walk_at "rd"
      exact ⟨S, hl2, hst2, ⟨fs, by rw [hfl]; show 60 * j + 60 = _; omega, hfb, hL⟩, _, _, rfl⟩
  · rintro σ H2 ⟨S, hl2, hst2, ⟨fs, hfl, hfb, hL⟩, v5, v6, rfl⟩
    walk_at "rd"
    exact k D _ fs hD0 S hL hfl hfb

def sp__law_blocks (K : PySem.W.Frag) (A : Ad) : Sp := fun vs H Q _ => ∃ (a : Addr) (ns : List Int) (c : Int), vs = [.ref a, .int c] ∧ (SqL K H a (ns.map V.int) ∧ ns.length ≤ 200) ∧
  ∀ (q : Addr) (H' : Hp) (ms : List Int), H q = none → Stp [] H H' → H' q = some (.lst (ms.map V.int)) → ms.length ≤ ns.length → Q (.ref q) H'
theorem ok__law_blocks {P : Program} {w : World} {K : PySem.W.Frag} {mg : Str → Option Value} {base : Heap} {A : Ad} {f : Addr} {fd : FuncData} (F : Fun K "_law_blocks" "_law_blocks" s__law_blocks f fd) (T : Txt K mg A) (C__law_stream : SH.Cal P w K mg base CX0 1 "_law_stream" [] (sp__law_stream K A)) : FnOk P w K mg base CX0 2 f fd ["_law_keys_here", "_law_cell"] (sp__law_blocks K A) := by
  refine F.ok sc__law_blocks (fun vs H Q E h => by obtain ⟨_, _, _, rfl, _⟩ := h; rfl) (fun cdv A' outer s H vs Q E hr h => ?_)
  obtain ⟨a, ns, c, rfl, ⟨hS, hl⟩, k⟩ := h
  refine ⟨_, (pss_cons (ps_set (i := 2) sc__law_blocks.nd rfl (Or.inl rfl) (pe_lst pa_nil))
        (pss_cons (ps_for PassesOwn.never rfl (pi_list (SH.pe_callF C__law_stream hr (by rfl) pass0 (pa_cons (pv 1) (pa_cons (pe_callB SH.cLen (by rfl) T.z_len (by decide +kernel) (pa_cons (pv 0) pa_nil)) pa_nil)))) (pg_name (i := 3) sc__law_blocks.nd rfl (Or.inl rfl)) (pss_cons (ps_set (i := 4) sc__law_blocks.nd rfl (Or.inl rfl) (pe_callB cr_sortedI (by rfl) T.z_sorted (by decide +kernel) (pa_cons (pe_slice sl_list (pv 0) (po_some (pe_callB SH.cLen (by rfl) T.z_len (by decide +kernel) (pa_cons (pv 2) pa_nil))) (po_some (pe_op SH.oAdd (pe_op SH.oAdd (pe_callB SH.cLen (by rfl) T.z_len (by decide +kernel) (pa_cons (pv 2) pa_nil)) pe_int) (pe_op SH.oMod (pv 3) pe_int)))) pa_nil)))
        (pss_cons (ps_if (pt_cmpR (SH.oEq hr.units) (pe_op SH.oMod (pe_op SH.oDiv (pv 3) pe_int) pe_int) pe_int (nomark _)) (pss_one (ps_expr (pe_bm0 PySem.F.plainAttrs_list PySem.F.slot_list_reverse PySem.F.type_list_reverse mt_reverse (pv 4)))) pss_nil)
        (pss_one (ps_set (i := 2) sc__law_blocks.nd rfl (Or.inl rfl) (pe_op SH.oAdd (pv 2) (pv 4)))))))
        (pss_one (ps_ret (pv 2))))), ?_⟩
  walk_at "begin"
  walk_at "rd"
  intro r hr
  walk_at "rd"
  refine ⟨c, ns.length, rfl, by omega, fun st H1 ms hst S1 hSt hml hm0 => ?_⟩
  walk_at "rd"
  refine for_it (walk_list (xs := ms.map V.int)) (fun j σ H' => Stp [] H H' ∧ SqL K H' st (ms.map V.int) ∧ ∃ (r : Addr) (ks : List Int) (v3 v4 : Option V), H r = none ∧ H' r = some (.lst (ks.map V.int)) ∧ ks.length ≤ ns.length ∧ σ = [some (.ref a), some (.int c), some (.ref r), v3, v4])
    ⟨((Stp.refl _ _).new hr).then0 S1, SqL.of hSt, r, [], _, _, hr, S1.keep0 upd_same, Nat.zero_le _, rfl⟩ (fun _ _ _ _ z => z.2.1) ?_ ?_
  · rintro j x σ H2 H3 hj ⟨S, hq, r, ks, v3, v4, hr0, hR, hkl, rfl⟩ ⟨rfl, hx⟩
    obtain ⟨n, hn, rfl⟩ := map_at hx
    have hS3 := S.sql0 hS
    walk_at "rd"
    intro sl hsl
    rw [cut_map]
    have hcl : (cutL ns (some (ks.length : Int)) (some ((ks.length : Int) + 1 + n % 9))).length ≤ ns.length - ks.length := cutL_from_len _ _ _
    generalize cutL ns (some (ks.length : Int)) (some ((ks.length : Int) + 1 + n % 9)) = cs at hcl ⊢
    walk_at "rd"
    refine v_sortI (SqL.of upd_same) fun ps pt hpp _ hpt => ?_
    have hpl := hpp.length_eq
    walk_at "rd"
    refine r_wJ (W := fun σ H' => Stp [] H3 H' ∧ ∃ ps' : List Int, ps'.length = cs.length ∧ H' pt = some (.lst (ps'.map V.int)) ∧ σ = [some (.ref a), some (.int c), some (.ref r), some (.int n), some (.ref pt)]) ?_ (fun hc N hN => ?_) (fun hc N hN => ?_)
    · rintro σ H4 ⟨S4, ps', hpl', hP, rfl⟩
      dsimp only
      have hR4 := S4.keep0 hR
      walk_at "rd"
      refine v_addL hR4 hP (Nat.le_trans (m := 1000) (by rw [List.length_map, List.length_map]; omega) (by decide)) fun nr hnr => ?_
      walk_at "rd"
      exact ⟨(S.trans S4).new hnr, sql_upd (S4.sql0 hq) hnr, nr, ks ++ ps', _, _, (S.trans S4).dom _ hnr, by rw [upd_same, List.map_append], by rw [List.length_append]; omega, rfl⟩
    · walk_at "rd"
      refine v_rev upd_same ?_
      walk_at "rd"
      exact hN _ _ ⟨(((Stp.refl [] H3).new hsl).new hpt).putN (upd_free hpt).1, ps.reverse, by rw [List.length_reverse]; exact hpl, by rw [upd_same, List.map_reverse], rfl⟩
    · walk_at "rd"
      exact hN _ _ ⟨((Stp.refl [] H3).new hsl).new hpt, ps, hpl, upd_same, rfl⟩
  · rintro σ H2 ⟨S, hq, r, ks, v3, v4, hr0, hR, hkl, rfl⟩
    walk_at "rd"
    exact k r _ ks hr0 S hR hkl

def sp__law_nearly (K : PySem.W.Frag) (A : Ad) : Sp := fun vs H Q _ => ∃ (a : Addr) (ns : List Int) (c : Int), vs = [.ref a, .int c] ∧ (SqL K H a (ns.map V.int) ∧ ns.length ≤ 200) ∧
  ∀ (q : Addr) (H' : Hp) (ms : List Int), H q = none → Stp [] H H' → H' q = some (.lst (ms.map V.int)) → ms.length ≤ ns.length → Q (.ref q) H'
theorem ok__law_nearly {P : Program} {w : World} {K : PySem.W.Frag} {mg : Str → Option Value} {base : Heap} {A : Ad} {f : Addr} {fd : FuncData} (F : Fun K "_law_nearly" "_law_nearly" s__law_nearly f fd) (T : Txt K mg A) (C__law_stream : SH.Cal P w K mg base CX0 1 "_law_stream" [] (sp__law_stream K A)) : FnOk P w K mg base CX0 2 f fd ["_law_keys_here", "_law_cell"] (sp__law_nearly K A) := by
  refine F.ok sc__law_nearly (fun vs H Q E h => by obtain ⟨_, _, _, rfl, _⟩ := h; rfl) (fun cdv A' outer s H vs Q E hr h => ?_)
  obtain ⟨a, ns, c, rfl, ⟨hS, hl⟩, k⟩ := h
  refine ⟨_, (pss_cons (ps_set (i := 2) sc__law_nearly.nd rfl (Or.inl rfl) (pe_callB cr_sortedI (by rfl) T.z_sorted (by decide +kernel) (pa_cons (pv 0) pa_nil)))
        (pss_cons (ps_for PassesOwn.never rfl (pi_list (SH.pe_callF C__law_stream hr (by rfl) pass0 (pa_cons (pv 1) (pa_cons (pe_op SH.oMod (pv 1) pe_int) pa_nil)))) (pg_name (i := 3) sc__law_nearly.nd rfl (Or.inl rfl)) (pss_one (ps_if (pt_cmpR (SH.oNe hr.units) (pv 2) (pe_lst pa_nil) (nomark _)) (pss_cons (ps_set (i := 4) sc__law_nearly.nd rfl (Or.inl rfl) (pe_op SH.oMod (pv 3) (pe_callB SH.cLen (by rfl) T.z_len (by decide +kernel) (pa_cons (pv 2) pa_nil))))
        (pss_cons (ps_set (i := 5) sc__law_nearly.nd rfl (Or.inl rfl) (pe_bm PySem.F.plainAttrs_list PySem.F.slot_list_pop PySem.F.type_list_pop mt_popAt (pv 2) (pa_cons (pv 4) pa_nil)))
        (pss_one (ps_expr (pe_bm PySem.F.plainAttrs_list PySem.F.slot_list_insert PySem.F.type_list_insert SH.mIns (pv 2) (pa_cons (pe_callB (SH.cMax2 rfl) (by rfl) T.z_max (by decide +kernel) (pa_cons pe_int (pa_cons (pe_op SH.oSub (pe_op SH.oSub (pv 4) pe_int) (pe_op SH.oMod (pe_op SH.oDiv (pv 3) pe_int) pe_int)) pa_nil))) (pa_cons (pv 5) pa_nil))))))) pss_nil)))
        (pss_one (ps_ret (pv 2))))), ?_⟩
  walk_at "begin"
  walk_at "rd"
  refine v_sortI (by walk_at "sq") fun ps r hpp _ hr => ?_
  have hpl := hpp.length_eq
  walk_at "rd"
  obtain ⟨m, hmm⟩ : ∃ m : Nat, c % 6 = m := ⟨(c % 6).toNat, by omega⟩
  rw [hmm]
  refine ⟨c, m, rfl, by omega, fun st H1 ms hst S1 hSt hml hm0 => ?_⟩
  walk_at "rd"
  have hsr : st ≠ r := fun e => by subst e; rw [upd_same] at hst; cases hst
  refine for_it (walk_list (xs := ms.map V.int)) (fun j σ H' => Stp [] H H' ∧ SqL K H' st (ms.map V.int) ∧ ∃ (ks : List Int) (v3 v4 v5 : Option V), H' r = some (.lst (ks.map V.int)) ∧ ks.length ≤ ns.length ∧ σ = [some (.ref a), some (.int c), some (.ref r), v3, v4, v5])
    ⟨((Stp.refl _ _).new hr).then0 S1, SqL.of hSt, ps, _, _, _, S1.keep0 upd_same, by omega, rfl⟩ (fun _ _ _ _ z => z.2.1) ?_ ?_
  · rintro j x σ H2 H3 hj ⟨S, hq, ks, v3, v4, v5, hR, hkl, rfl⟩ ⟨rfl, hx⟩
    obtain ⟨n, hn, rfl⟩ := map_at hx
    have hn0 := hm0 n (List.mem_of_getElem? hn)
    walk_at "rd"
    intro z hz
    walk_at "rd"
    refine v_neE (x := ks) (y := []) (is_lst (by walk_at "sq") isl_ints) (is_lst (SqL.of upd_same) isl_nil) ?_
    walk_at "rd"
    have hR' : upd H3 z (.lst []) r = some (.lst (ks.map V.int)) := by walk_at "lk"
    refine r_nw (fun hne => ?_) fun he => ?_
    · have hlen : 0 < ks.length := List.length_pos_iff.mpr hne
      walk_at "rd"
      have m0 := Int.emod_nonneg n (show (ks.length : Int) ≠ 0 by omega)
      have m1 := Int.emod_lt_of_pos n (show (0 : Int) < (ks.length : Int) by omega)
      refine v_popAt (n := (n % (ks.length : Int)).toNat) (v := .int (getE ks (n % (ks.length : Int)).toNat)) hR' (by omega) (by omega) (getE_at (by omega)) ?_
      walk_at "rd"
      have hl2 : (ks.eraseIdx (n % (ks.length : Int)).toNat).length = ks.length - 1 := List.length_eraseIdx_of_lt (by omega)
      generalize hmx : (if n % (ks.length : Int) - 1 - n / 997 % 4 > 0 then n % (ks.length : Int) - 1 - n / 997 % 4 else 0) = mx
      have mx0 : 0 ≤ mx ∧ mx < 1000 := by
        rw [← hmx]
        split <;> omega
      refine w_insI upd_same mx0.1 (by omega) (by rw [List.length_eraseIdx_of_lt (by rw [List.length_map]; omega), List.length_map]; omega) ?_
      walk_at "rd"
      refine ⟨((S.new hz).putN hr).putN hr, sql_far (sql_far (sql_upd hq hz) hsr) hsr, (ks.eraseIdx (n % (ks.length : Int)).toNat).take mx.toNat ++ [getE ks (n % (ks.length : Int)).toNat] ++ (ks.eraseIdx (n % (ks.length : Int)).toNat).drop mx.toNat, _, _, _, ?_, ?_, rfl⟩
      · rw [upd_same]
        simp only [List.map_append, List.map_take, List.map_drop, List.eraseIdx_eq_take_drop_succ, List.map_cons, List.map_nil]
      · simp only [List.length_append, List.length_take, List.length_drop, List.length_singleton]; omega
    · walk_at "rd"
      exact ⟨S.new hz, sql_upd hq hz, ks, _, _, _, hR', hkl, rfl⟩
  · rintro σ H2 ⟨S, hq, ks, v3, v4, v5, hR, hkl, rfl⟩
    walk_at "rd"
    exact k r _ ks hr S hR hkl

def sp__law_keys (K : PySem.W.Frag) (A : Ad) : Sp := fun vs H Q _ => ∃ (a : Addr) (ns : List Int) (most : Nat), vs = [.ref a, .int most] ∧ (SqL K H a (ns.map V.int) ∧ ns.length ≤ 63 ∧ 0 < most ∧ most ≤ 100) ∧
  ∀ (q : Addr) (H' : Hp) (ms : List Int), H q = none → Stp [] H H' → H' q = some (.lst (ms.map V.int)) → ms.length < 2 * most → Q (.ref q) H'
theorem ok__law_keys {P : Program} {w : World} {K : PySem.W.Frag} {mg : Str → Option Value} {base : Heap} {A : Ad} {f : Addr} {fd : FuncData} (F : Fun K "_law_keys" "_law_keys" s__law_keys f fd) (T : Txt K mg A) (C__law_blocks : SH.Cal P w K mg base CX0 2 "_law_blocks" [] (sp__law_blocks K A)) (C__law_cell_at : SH.Cal P w K mg base CX0 1 "_law_cell_at" [] (sp__law_cell_at K A)) (C__law_digits : SH.Cal P w K mg base CX0 2 "_law_digits" [] (sp__law_digits K A)) (C__law_nearly : SH.Cal P w K mg base CX0 2 "_law_nearly" [] (sp__law_nearly K A)) (C__law_stream : SH.Cal P w K mg base CX0 1 "_law_stream" [] (sp__law_stream K A)) : FnOk P w K mg base CX0 3 f fd ["_law_script", "_law_most"] (sp__law_keys K A) := by
  refine F.ok sc__law_keys (fun vs H Q E h => by obtain ⟨_, _, _, rfl, _⟩ := h; rfl) (fun cdv A' outer s H vs Q E hr h => ?_)
  obtain ⟨a, ns, most, rfl, ⟨hS, hl, hm0, hm1⟩, k⟩ := h
  refine ⟨_, (pss_cons (ps_set (i := 2) sc__law_keys.nd rfl (Or.inl rfl) (SH.pe_callF C__law_cell_at hr (by rfl) pass0 (pa_cons (pv 0) (pa_cons pe_int pa_nil))))
        (pss_cons (ps_set (i := 3) sc__law_keys.nd rfl (Or.inl rfl) (SH.pe_callF C__law_cell_at hr (by rfl) pass0 (pa_cons (pv 0) (pa_cons pe_int pa_nil))))
        (pss_cons (ps_if (pt_cmpR (SH.oEq hr.units) (pe_op SH.oMod (pe_op SH.oDiv (pv 2) pe_int) pe_int) pe_int (nomark _)) (pss_one (ps_ret (pe_slice sl_list (SH.pe_callF C__law_digits hr (by rfl) pass0 (pa_cons (pv 0) (pa_cons pe_int (pa_cons pe_int pa_nil)))) po_none (po_some (pe_op SH.oMod (pe_op SH.oDiv (pv 2) pe_int) (pe_op SH.oMul pe_int (pv 1))))))) pss_nil)
        (pss_cons (ps_set (i := 4) sc__law_keys.nd rfl (Or.inr rfl) (pe_ix SH.ixA (pe_lst (pa_cons pe_int (pa_cons pe_int (pa_cons pe_int (pa_cons (pe_op SH.oPow pe_int pe_int) pa_nil))))) (pe_op SH.oMod (pv 2) pe_int) (fun _ _ => rfl)))
        (pss_cons (ps_setLc (i := 5) (own := [("_law_cell", 7)]) (g := (gName 7)) (tt := tYes) (by rfl) sc__law_keys.nd rfl rfl (sw_true rfl rfl rfl (by decide +kernel)) (pi_list (pe_slice sl_list (pv 0) (po_some pe_int) (po_some (pe_op SH.oAdd pe_int (pv 1))))) (blkOk_by (own := [("_law_cell", 7)]) (N := ["_law_script", "_law_most", "_law_mode", "_law_mix", "_law_width", "_law_keys_here", "_law_way_here", "_law_cell", "_law_number"]) (sc := defScope s__law_keys) (by decide +kernel)) (fun _ _ _ _ _ => (pg_name (i := 7) sc__law_keys.nd rfl (Or.inl rfl))) (fun _ _ _ _ _ => pts_nil) (fun _ _ _ _ _ => (pe_op SH.oSub (pe_op SH.oMod (pv 7) (pv 4)) (pe_op SH.oDiv (pv 4) pe_int))))
        (pss_cons (ps_set (i := 6) sc__law_keys.nd rfl (Or.inl rfl) (pe_op SH.oMod (pe_op SH.oDiv (pv 2) pe_int) pe_int))
        (pss_cons (ps_if (PW.pt (pw_or (pt_cmpR (SH.oEq hr.units) (pv 6) pe_int (nomark _)) (pw_or1 (pt_cmpR (SH.oEq hr.units) (pv 6) pe_int (nomark _))))) (pss_one (ps_ret (SH.pe_callF C__law_blocks hr (by rfl) pass0 (pa_cons (pv 5) (pa_cons (pv 3) pa_nil))))) pss_nil)
        (pss_cons (ps_if (pt_cmpR (SH.oEq hr.units) (pv 6) pe_int (nomark _)) (pss_one (ps_ret (pe_callB cr_sortedI (by rfl) T.z_sorted (by decide +kernel) (pa_cons (pv 5) pa_nil)))) pss_nil)
        (pss_cons (ps_if (pt_cmpR (SH.oEq hr.units) (pv 6) pe_int (nomark _)) (pss_one (ps_ret (SH.pe_lstRev (by rfl) T.z_list (by rfl) T.z_reversed (pe_callB cr_sortedI (by rfl) T.z_sorted (by decide +kernel) (pa_cons (pv 5) pa_nil))))) pss_nil)
        (pss_cons (ps_if (pt_cmpR (SH.oEq hr.units) (pv 6) pe_int (nomark _)) (pss_one (ps_ret (pe_lc (own := [("_law_number", 8)]) (g := (gName 8)) (tt := tYes) (by rfl) sc__law_keys.nd (pi_list (SH.pe_callF C__law_stream hr (by rfl) pass0 (pa_cons (pv 3) (pa_cons (pe_op SH.oMod (pv 3) (pe_op SH.oMul pe_int (pv 1))) pa_nil)))) (blkOk_by (own := [("_law_number", 8)]) (N := ["_law_script", "_law_most", "_law_mode", "_law_mix", "_law_width", "_law_keys_here", "_law_way_here", "_law_cell", "_law_number"]) (sc := defScope s__law_keys) (by decide +kernel)) (fun _ _ _ _ _ => (pg_name (i := 8) sc__law_keys.nd rfl (Or.inl rfl))) (fun _ _ _ _ _ => pts_nil) (fun _ _ _ _ _ => (pe_op SH.oSub (pe_op SH.oMod (pv 8) (pv 4)) (pe_op SH.oDiv (pv 4) pe_int)))))) pss_nil)
        (pss_cons (ps_if (pt_cmpR (SH.oEq hr.units) (pv 6) pe_int (nomark _)) (pss_one (ps_ret (SH.pe_callF C__law_nearly hr (by rfl) pass0 (pa_cons (pv 5) (pa_cons (pv 3) pa_nil))))) pss_nil)
        (pss_one (ps_ret (pv 5)))))))))))))), ?_⟩
  walk_at "begin"
  walk_at "rd"
  refine ⟨a, ns, 0, rfl, hS, fun mode => ?_⟩
  walk_at "rd"
  refine ⟨a, ns, 1, rfl, hS, fun mix => ?_⟩
  walk_at "rd"
  refine r_w (fun hdg => ?_) fun hdg => ?_
  · walk_at "rd"
    refine ⟨a, ns, 4, _, rfl, ⟨hS, by decide, by decide⟩, fun q H1 ms hq S1 hQ hml _ => ?_⟩
    walk_at "rd"
    intro q2 hq2
    rw [cut_map]
    obtain ⟨m, hmm⟩ : ∃ m : Nat, mode / 64 % (2 * (most : Int)) = m := ⟨(mode / 64 % (2 * (most : Int))).toNat, by have := Int.emod_nonneg (mode / 64) (show (2 * (most : Int)) ≠ 0 by omega); omega⟩
    have hmm2 : m < 2 * most := by have := Int.emod_lt_of_pos (mode / 64) (show (0 : Int) < 2 * (most : Int) by omega); omega
    rw [hmm, cutL_upto]
    exact k q2 _ _ (S1.dom _ hq2) (S1.new hq2) upd_same (by rw [List.length_take]; omega)
  walk_at "rd"
  intro wl hwl
  walk_at "rd"
  refine v_ixMod (m := 4) (by walk_at "sq") rfl (by decide) fun v hv => ?_
  have hv' : ∃ m : Int, v = .int m ∧ 0 < m := by
    rcases List.mem_cons.mp hv with rfl | hv
    · exact ⟨_, rfl, by decide⟩
    rcases List.mem_cons.mp hv with rfl | hv
    · exact ⟨_, rfl, by decide⟩
    rcases List.mem_cons.mp hv with rfl | hv
    · exact ⟨_, rfl, by decide⟩
    rw [List.mem_singleton] at hv
    exact ⟨_, hv, big60_pos⟩
  obtain ⟨width, rfl, hw⟩ := hv'
  clear hv
  walk_at "rd"
  intro sl hsl
  rw [cut_map]
  have hcl : (cutL ns (some 4) (some (4 + (most : Int)))).length ≤ most := by
    have e : (4 : Int) + (most : Int) = ((4 + most : Nat) : Int) := by omega
    rw [e, show (4 : Int) = ((4 : Nat) : Int) from rfl, cutL_span, List.length_take]
    omega
  generalize cutL ns (some 4) (some (4 + (most : Int))) = cs at hcl ⊢
  walk_at "rd"
  intro D hD
  refine lc_it (walk_list (xs := cs.map V.int)) (fun j H' => Stp [] H H' ∧ SqL K H' sl (cs.map V.int) ∧ ∃ ms : List Int, ms.length = j ∧ H' D = some (.lst (ms.map V.int))) ⟨((((Stp.refl [] H).new hwl).new hsl).new hD), by walk_at "sq", [], rfl, upd_same⟩ (fun j H' _ z => z.2.1) ?_ ?_
  · rintro j x H2 H3 hj ⟨S, hq, ms, hml, hL⟩ ⟨rfl, hx⟩
    obtain ⟨n, hn, rfl⟩ := map_at hx
    walk_at "rd"
    exact ⟨_, hL, Nat.lt_of_le_of_lt (m := 100) (by rw [List.length_map] at hj ⊢; omega) (by decide), S.putN ((upd_free (upd_free hD).1).1), sql_far hq (by rintro rfl; rw [upd_same] at hD; cases hD), ms ++ [_], by simp [hml], by rw [upd_same, List.map_append]; rfl⟩
  rintro H1 ⟨S1, _, ks, hkl, hL⟩
  have hD0 : H D = none := (upd_free (upd_free hD).1).1
  rw [List.length_map] at hkl
  clear hD hsl hwl
  walk_at "rd"
  refine r_b (fun hc => ?_) fun hc => ?_
  · walk_at "rd"
    refine ⟨D, ks, mix, rfl, ⟨SqL.of hL, by omega⟩, fun q H' ms hq S hQ hml => ?_⟩
    walk_at "rd"
    exact k q _ ms (S1.dom _ hq) (S1.trans S) hQ (by omega)
  walk_at "rd"
  refine r_w (fun hc => ?_) fun hc => ?_
  · walk_at "rd"
    refine ⟨D, ks, mix, rfl, ⟨SqL.of hL, by omega⟩, fun q H' ms hq S hQ hml => ?_⟩
    walk_at "rd"
    exact k q _ ms (S1.dom _ hq) (S1.trans S) hQ (by omega)
  walk_at "rd"
  refine r_w (fun hc => ?_) fun hc => ?_
  · walk_at "rd"
    refine v_sortI (SqL.of hL) fun ps q hpp _ hq => ?_
    have hpl := hpp.length_eq
    exact k q _ ps (S1.dom _ hq) (S1.new hq) upd_same (by omega)
  walk_at "rd"
  refine r_w (fun hc => ?_) fun hc => ?_
  · walk_at "rd"
    refine v_sortI (SqL.of hL) fun ps q hpp _ hq => ?_
    have hpl := hpp.length_eq
    walk_at "rd"
    intro q2 hq2
    exact k q2 _ ps.reverse (S1.dom _ (upd_free hq2).1) ((S1.new hq).new hq2) (by rw [upd_same, List.map_reverse]) (by rw [List.length_reverse]; omega)
  walk_at "rd"
  refine r_w (fun hc => ?_) fun hc => ?_
  · walk_at "rd"
    obtain ⟨m, hmm⟩ : ∃ m : Nat, mix % (2 * (most : Int)) = m := ⟨(mix % (2 * (most : Int))).toNat, by have := Int.emod_nonneg mix (show (2 * (most : Int)) ≠ 0 by omega); omega⟩
    have hmm2 : m < 2 * most := by have := Int.emod_lt_of_pos mix (show (0 : Int) < 2 * (most : Int) by omega); omega
    rw [hmm]
    refine ⟨mix, m, rfl, by omega, fun st H2 ms hst S2 hSt hml hm0' => ?_⟩
    walk_at "rd"
    intro D2 hD2
    have hD20 : H D2 = none := S1.dom _ (S2.dom _ hD2)
    refine lc_it (walk_list (xs := ms.map V.int)) (fun j H' => Stp [] H H' ∧ SqL K H' st (ms.map V.int) ∧ ∃ us : List Int, us.length = j ∧ H' D2 = some (.lst (us.map V.int))) ⟨(S1.trans S2).new hD2, by walk_at "sq", [], rfl, upd_same⟩ (fun j H' _ z => z.2.1) ?_ ?_
    · rintro j x H3 H4 hj ⟨S, hq, us, hul, hL⟩ ⟨rfl, hx⟩
      obtain ⟨n, hn, rfl⟩ := map_at hx
      walk_at "rd"
      exact ⟨_, hL, Nat.lt_of_le_of_lt (m := 200) (by rw [List.length_map] at hj ⊢; omega) (by decide), S.putN hD20, sql_far hq (by rintro rfl; rw [hSt] at hD2; cases hD2), us ++ [_], by simp [hul], by rw [upd_same, List.map_append]; rfl⟩
    rintro H3 ⟨S3, _, us, hul, hL⟩
    walk_at "rd"
    exact k D2 _ us hD20 S3 hL (by rw [List.length_map] at hul; omega)
  walk_at "rd"
  refine r_w (fun hc => ?_) fun hc => ?_
  · walk_at "rd"
    refine ⟨D, ks, mix, rfl, ⟨SqL.of hL, by omega⟩, fun q H' ms hq S hQ hml => ?_⟩
    walk_at "rd"
    exact k q _ ms (S1.dom _ hq) (S1.trans S) hQ (by omega)
  walk_at "rd"
  exact k D _ ks hD0 S1 hL (by omega)
/-! ### odds and ends of laws with pairs -/
theorem tabs_stp {T : List NTab} {H H' : Hp} (h : TabsN T H) (S : Stp [] H H') : TabsN T H' := fun p hp => (h p hp).ext fun b o e => S.keep0 e
theorem ext_lst {H H' : Hp} {b : Addr} {xs : List V} (e : ExtN H H') (h : H b = some (.lst xs)) : H' b = some (.lst xs) := e _ _ h (by intro ps z; cases z)
theorem ext_tup {H H' : Hp} {b : Addr} {xs : List V} (e : ExtN H H') (h : H b = some (.tup xs)) : H' b = some (.tup xs) := e _ _ h (by intro ps z; cases z)
theorem RowP.ext {H H' : Hp} {row : List V} {ks : List Int} (h : RowP H row ks) (e : ExtN H H') : RowP H' row ks := ⟨h.1, fun i v z => by obtain ⟨t, h1, h2⟩ := h.2 i v z; exact ⟨t, h1, ext_tup e h2⟩⟩
def kOf (H : Hp) (x : V) : Int × Int := match x with
  | .ref t => (match H t with
    | some (.tup [.int a, .int b]) => (a, b)
    | _ => (0, 0))
  | _ => (0, 0)
theorem kOf_at {H : Hp} {t : Addr} {a b : Int} (h : H t = some (.tup [.int a, .int b])) : kOf H (.ref t) = (a, b) := by simp [kOf, h]
theorem lexB_false {a b c d : Int} (h : SrtO.lexB (a, b) (c, d) = false) : c < a ∨ (c = a ∧ d ≤ b) := by
  have : ¬ (a < c ∨ (a = c ∧ b < d)) := fun z => by
    rw [SrtO.lexB_iff.mpr z] at h
    cases h
  omega
/-- an order that was sorted: what stands ahead of a place is what stands ahead in it -/
theorem sorted_mono {ks : List Int} {H : Hp} {zs : List V} {ord : List Nat} {place : Nat} (hs : SrtO.Srtd (ltP (kOf H)) zs) (ho : ∀ (i o : Nat), ord[i]? = some o → ∃ t, zs[i]? = some (.ref t) ∧ H t = some (.tup [.int (getE ks o), .int (o : Nat)])) :
    ∀ (i j : Nat) (a b : Nat), i < j → ord[i]? = some a → ord[j]? = some b → Ahd ks b place → Ahd ks a place := by
  intro i j a b hij ha hb h
  obtain ⟨t, e1, h1⟩ := ho i a ha
  obtain ⟨u, e2, h2⟩ := ho j b hb
  obtain ⟨hi, e1⟩ := List.getElem?_eq_some_iff.mp e1
  obtain ⟨hj, e2⟩ := List.getElem?_eq_some_iff.mp e2
  have := List.pairwise_iff_getElem.mp hs i j hi hj hij
  rw [e1, e2] at this
  unfold ltP at this
  rw [kOf_at h1, kOf_at h2] at this
  have := lexB_false this
  unfold Ahd at h ⊢
  omega
theorem lexLt2 {a b c d : Int} : HT.lexLt [a, b] [c, d] = decide (a < c ∨ (a = c ∧ b < d)) := by
  simp only [HT.lexLt]
  by_cases e : a = c
  · rw [if_pos e]
    by_cases e2 : b = d
    · rw [if_pos e2]; simp [e, e2]
    · rw [if_neg e2]; simp [e]
  · rw [if_neg e]; simp [e]
theorem rd_extN {H H' : Hp} {a : Addr} {u : HO} (s : ExtN H H') (h : Rd H a u) (n : ∀ ps, u ≠ .tbl ps) : Rd H' a u := by
  rcases h with h | ⟨o, h⟩
  · exact .inl (s _ _ h n)
  · exact .inr ⟨o, s _ _ h (by intro ps z; cases z)⟩
theorem sql_extN {K : PySem.W.Frag} {H H' : Hp} {a : Addr} {xs : List V} (s : ExtN H H') (h : SqL K H a xs) : SqL K H' a xs := by
  rcases h with h | h
  · exact .inl (rd_extN s h (by intro ps z; cases z))
  · exact .inr h
theorem sqt_extN {K : PySem.W.Frag} {H H' : Hp} {a : Addr} {xs : List V} (s : ExtN H H') (h : SqT K H a xs) : SqT K H' a xs := by
  rcases h with h | h
  · exact .inl (rd_extN s h (by intro ps z; cases z))
  · exact .inr h
mutual
theorem dp_extN {K : PySem.W.Frag} {H H' : Hp} (S : ExtN H H') : ∀ (d : PyData) (v : V), Dp K H v d → Dp K H' v d
  | .none, _, h => by cases h; exact .non
  | .bool _, _, h => by cases h; exact .bl _
  | .int _, _, h => by cases h; exact .int _
  | .str _, _, h => by cases h; exact .str _
  | .list ds, _, h => by
    cases h with
    | lst hs ha => exact .lst (sql_extN S hs) (dp_extNs S ds _ ha)
  | .tuple ds, _, h => by
    cases h with
    | tup hs ha => exact .tup (sqt_extN S hs) (dp_extNs S ds _ ha)
  | .dict _, _, h => by cases h
theorem dp_extNs {K : PySem.W.Frag} {H H' : Hp} (S : ExtN H H') : ∀ (ds : List PyData) (vs : List V), DpAll K H vs ds → DpAll K H' vs ds
  | [], _, h => by cases h; exact .nil
  | d :: ds, _, h => by
    cases h with
    | cons h1 h2 => exact .cons (dp_extN S d _ h1) (dp_extNs S ds _ h2)
end
theorem isl_extN {K : PySem.W.Frag} {H H' : Hp} {α : Type} [Enc α] {vs : List V} {xs : List α} (S : ExtN H H') (h : IsL K H vs xs) : IsL K H' vs xs := dp_extNs S _ _ h
theorem sql_or {K : PySem.W.Frag} {H : Hp} {a : Addr} {xs : List V} (h : SqL K H a xs) : ∃ ax : List Addr, (∀ x ∈ ax, H x ≠ none) ∧ (a ∈ ax ∨ ∀ H', SqL K H' a xs) := by
  rcases h with (h | ⟨o, h⟩) | h
  · exact ⟨[a], fun x hx => by rw [List.mem_singleton] at hx; subst hx; rw [h]; simp, .inl (by simp)⟩
  · exact ⟨[a], fun x hx => by rw [List.mem_singleton] at hx; subst hx; rw [h]; simp, .inl (by simp)⟩
  · exact ⟨[], by simp, .inr fun H' => .inr h⟩
theorem isl_ofat {α : Type} [Enc α] {K : PySem.W.Frag} {H : Hp} : ∀ {vs : List V} {xs : List α}, vs.length = xs.length → (∀ (i : Nat) (v : V) (x : α), vs[i]? = some v → xs[i]? = some x → SH.Is K H v x) → SH.IsL K H vs xs
  | [], [], _, _ => isl_nil
  | [], _ :: _, h, _ => by simp at h
  | _ :: _, [], h, _ => by simp at h
  | v :: vs, x :: xs, h, k => isl_cons (k 0 v x rfl rfl) (isl_ofat (by simpa using h) fun i v' x' hv hx => k (i + 1) v' x' (by rw [List.getElem?_cons_succ]; exact hv) (by rw [List.getElem?_cons_succ]; exact hx))
theorem isl_take {K : PySem.W.Frag} {H : Hp} {α : Type} [Enc α] {vs : List V} {xs : List α} {n : Nat} (h : IsL K H vs xs) : IsL K H (vs.take n) (xs.take n) :=
  isl_ofat (by rw [List.length_take, List.length_take, isl_len h]) fun i v x hv hx => by
    have hi : i < n := by have := (List.getElem?_eq_some_iff.mp hv).1; rw [List.length_take] at this; omega
    rw [List.getElem?_take_of_lt hi] at hv hx
    obtain ⟨x', hx', r⟩ := isl_at h hv
    rw [hx] at hx'
    cases hx'
    exact r
theorem isl_drop {K : PySem.W.Frag} {H : Hp} {α : Type} [Enc α] {vs : List V} {xs : List α} {n : Nat} (h : IsL K H vs xs) : IsL K H (vs.drop n) (xs.drop n) :=
  isl_ofat (by rw [List.length_drop, List.length_drop, isl_len h]) fun i v x hv hx => by
    rw [List.getElem?_drop] at hv hx
    obtain ⟨x', hx', r⟩ := isl_at h hv
    rw [hx] at hx'
    cases hx'
    exact r
theorem tabs_M {A : Ad} {M : List Addr} {H H' : Hp} (h : TabsN (Tb A) H) (S : Stp M H H') (hM : A.P ∉ M) : TabsN (Tb A) H' := fun p hp => by
  rw [List.mem_singleton] at hp
  subst hp
  obtain ⟨ps, h1, h2, h3⟩ := h _ (List.mem_singleton.mpr rfl)
  exact ⟨ps, S.keep h1 hM, h2, fun pos cv hc => by obtain ⟨c, e, q⟩ := h3 pos cv hc; exact ⟨c, e, S.fix q True.intro⟩⟩
theorem tabs_at {A : Ad} {H : Hp} (h : TabsN (Tb A) H) : ∃ ps, H A.P = some (.tbl ps) := by
  obtain ⟨ps, h1, _⟩ := h _ (List.mem_singleton.mpr rfl)
  exact ⟨ps, h1⟩
theorem tabs_ask {I : Ask} {K : PySem.W.Frag} {A : Ad} {H H' : Hp} {log : List Ent} (h : TabsN (Tb A) H) (hA : I.At K A H log) (S : Stp I.M H H') : TabsN (Tb A) H' := by
  refine tabs_M h S fun z => ?_
  obtain ⟨ps, hp⟩ := tabs_at h
  obtain ⟨evs, h2, _⟩ := hA.hl
  obtain ⟨tvs, h3, _⟩ := hA.ht
  simp only [Ask.M, List.mem_cons, List.not_mem_nil, or_false] at z
  rcases z with z | z | z
  · rw [z, hA.hs] at hp; cases hp
  · rw [z, h2] at hp; cases hp
  · rw [z, h3] at hp; cases hp
theorem clo_ext {H H' : Hp} {f : Addr} {ws : List V} {cl : List (Str × Addr)} {c' : Addr} (c : Clo1 H f ws cl c') (e : ExtN H H') : Clo1 H' f ws cl c' := by
  have nt : ∀ {q : Heap → Prop} (ps : Array Value), HO.ext q ≠ HO.tbl ps := fun ps z => by cases z
  refine ⟨e _ _ c.fn (fun ps z => by cases z), e _ _ c.code (fun ps z => by cases z), c.len, fun y a h => ?_, c.inj, fun i y h => ?_⟩
  · obtain ⟨v, hv⟩ := c.cells y a h
    exact ⟨v, e _ _ hv (fun ps z => by cases z)⟩
  · obtain ⟨a, v, h1, h2, h3⟩ := c.has i y h
    exact ⟨a, v, h1, h2, e _ _ h3 (fun ps z => by cases z)⟩
theorem Ask.At.ext {I : Ask} {K : PySem.W.Frag} {A : Ad} {H H' : Hp} {log : List Ent} (h : I.At K A H log) (e : ExtN H H') : I.At K A H' log := by
  obtain ⟨evs, h1, h2⟩ := h.hl
  obtain ⟨tvs, h3, h4⟩ := h.ht
  exact ⟨e _ _ h.hs (fun ps z => by cases z), ext_lst e h.hr, ⟨evs, ext_lst e h1, isl_extN e h2⟩, e _ _ h.hu (fun ps z => by cases z), ⟨tvs, ext_lst e h3, isl_extN e h4⟩, clo_ext h.hf e, ext_lst e h.hb, h.rk.ext e, h.d1, h.d2, h.d3, h.d4, h.d5, h.few, h.rows, h.bd⟩
/-! ### an asker made: Asker(row, AskedRule(_law_teller(said))) -/
structure Mk (K : PySem.W.Frag) (A : Ad) (H : Hp) (row : List V) (ks : List Int) (tl : Addr) (pre : List Ent) (bq : Addr) (bits : List Int) (m : Option Nat) (I : Ask) (H' : Hp) : Prop where
  at_ : I.At K A H' []
  e1 : I.tl = tl
  e2 : I.ks = ks
  e3 : I.pre = pre
  e4 : I.row = row
  e5 : I.m = m
  e6 : I.bits = bits
  ext : ExtN H H'
  dom : ∀ b, H' b = none → H b = none
  tab : TabsN (Tb A) H'
  far : ∀ b o, H b = some o → b ≠ tl → b ∉ I.M
theorem Mk.n {K : PySem.W.Frag} {A : Ad} {H : Hp} {row : List V} {ks : List Int} {tl : Addr} {pre : List Ent} {bq : Addr} {bits : List Int} {m : Option Nat} {I : Ask} {H' : Hp} (h : Mk K A H row ks tl pre bq bits m I H') : I.n = ks.length := by unfold Ask.n; rw [h.e2]
theorem Mk.lt {K : PySem.W.Frag} {A : Ad} {H : Hp} {row : List V} {ks : List Int} {tl : Addr} {pre : List Ent} {bq : Addr} {bits : List Int} {m : Option Nat} {I : Ask} {H' : Hp} (h : Mk K A H row ks tl pre bq bits m I H') : I.or = fun log p q => bitY bits (pre.length + log.length) (decide (getE ks p < getE ks q)) := by unfold Ask.or Ask.lt; rw [h.e2, h.e3, h.e6]
theorem askmake {K : PySem.W.Frag} {A : Ad} {σ : L2.St} {H : Hp} {Q : VK} {i j jb : Nat} {rq tl bq : Addr} {bits : List Int} {row : List V} {ks : List Int} {pre : List Ent} {tvs : List V} {m : Option Nat} {us dvs : List V} {ta : TA}
    (hi : σ[i]? = some (some (.ref rq))) (hj : σ[j]? = some (some (.ref tl))) (hjb : σ[jb]? = some (some (.ref bq))) (hbq : H bq = some (.lst (bits.map V.int))) (ntb : tl ≠ bq) (hR : H rq = some (.lst row)) (hrow : RowP H row ks) (hTb : TabsN (Tb A) H) (htl : H tl = some (.lst tvs)) (htv : IsL K H tvs pre) (few : row.length ≤ 100000) (fewp : pre.length ≤ 100000) (hta : ∀ (H : Hp) (Q : List V → Hp → Prop), Q us H → ta σ H Q) (e : us ++ dvs = [mV m])
    (k : ∀ H' I, Mk K A H row ks tl pre bq bits m I H' → Q (.ref I.s) H') :
    tMake A.Asker (sp_Asker___init__ K A) dvs L2.E0 (tCons (tVar i) (tCons (tMake A.AskedRule (sp_AskedRule___init__ K A) [] L2.E0 (tCons (tCall (sp__law_teller K A) [] L2.E0 (tCons (tVar j) (tCons (tVar jb) tNil))) tNil)) ta)) σ H Q := by
  walk_at "rd"
  refine SH.r_var hi ?_
  walk_at "rd"
  refine SH.r_var hj ?_
  walk_at "rd"
  refine SH.r_var hjb ?_
  walk_at "rd"
  refine ⟨.ref tl, .ref bq, rfl, hTb, fun f' H6 cl c' hE hdom hTb6 hf6 hC => ?_⟩
  have hR6 := ext_lst hE hR
  have htl6 := ext_lst hE htl
  have hbq6 := ext_lst hE hbq
  have hrow6 := hrow.ext hE
  walk_at "rd"
  intro u du hu hdu hne
  refine ⟨u, .ref f', rfl, ⟨du, upd_same⟩, fun dx => ⟨rfl, ?_⟩⟩
  rw [upd_upd]
  have S7 : Stp [] H6 (upd (upd H6 du (.own u)) u (.ins A.AskedRule dx [("teller", .ref f')])) := ((Stp.refl [] H6).new hdu).putN hu
  have hu7 : upd (upd H6 du (.own u)) u (.ins A.AskedRule dx [("teller", .ref f')]) u = some (.ins A.AskedRule dx [("teller", .ref f')]) := upd_same
  generalize upd (upd H6 du (.own u)) u (.ins A.AskedRule dx [("teller", .ref f')]) = H7 at S7 hu7 ⊢
  have hR7 := S7.keep0 hR6
  have htl7 := S7.keep0 htl6
  have hbq7 := S7.keep0 hbq6
  have hrow7 := hrow6.stp S7
  have hC7 := hC.step S7
  walk_at "rd"
  refine hta _ _ ?_
  intro s dx' hs hdx hne
  have S8 : Stp [] H7 (upd (upd H7 dx' (.own s)) s (.ins A.Asker dx' [])) := ((Stp.refl [] H7).new hdx).new (by rw [upd_ne hne.symm]; exact hs)
  refine ⟨s, rq, .ref u, row, m, by rw [← e]; rfl, ⟨dx', upd_same⟩, ⟨S8.sql0 (SqL.of hR7), few⟩, fun dx2 r l H9 hr hl hlr hsr hsl S9 hs9 hr9 hl9 => ⟨rfl, ?_⟩⟩
  have S79 : Stp [] H7 H9 := S8.then S9 (by simp; exact hs)
  have hl0 : H7 l = none := S8.dom l hl
  have hr0 : H7 r = none := S8.dom r hr
  have hE2 : ExtN H H9 := hE.trans (ExtN.of fun b o e => S79.keep0 (S7.keep0 e))
  have d0 : ∀ b, H9 b = none → H b = none := fun b e => hdom b (S7.dom b (S79.dom b e))
  have ht9 : IsL K H9 tvs pre := by
    have : ∀ (vs : List V) (ps : List Ent), IsL K H vs ps → IsL K H9 vs ps := fun vs ps h => isl_extN hE2 h
    exact this _ _ htv
  have hA : Ask.At ⟨s, r, l, dx2, u, dx, f', tl, cl, c', ks, row, pre, bq, bits, m⟩ K A H9 [] :=
    ⟨hs9, hr9, ⟨[], hl9, isl_nil⟩, S79.keep0 hu7, ⟨tvs, S79.keep0 htl7, by rw [List.append_nil]; exact ht9⟩, hC7.step S79, S79.keep0 hbq7, hrow7.stp S79, (ne_of_none hu7 hs).symm, hlr, ne_of_none htl7 hr0, (ne_of_none htl7 hl0).symm, ⟨(ne_of_none hbq7 hs).symm, (ne_of_none hbq7 hl0).symm, ntb⟩, by simp; omega, few, fun _ _ => Nat.zero_le _⟩
  refine k H9 ⟨s, r, l, dx2, u, dx, f', tl, cl, c', ks, row, pre, bq, bits, m⟩ ⟨hA, rfl, rfl, rfl, rfl, rfl, rfl, hE2, d0, tabs_stp (tabs_stp hTb6 S7) S79, fun b o e n => ?_⟩
  have hb6 : H b ≠ none := by rw [e]; simp
  have n1 : ∀ c, H7 c = none → b ≠ c := fun c hc z => hb6 (by subst z; exact hdom b (S7.dom b hc))
  simp only [Ask.M, List.mem_cons, List.not_mem_nil, or_false, not_or]
  exact ⟨n1 _ hs, n1 _ hl0, n⟩
theorem q_true {Q : VK} {H : Hp} {b : Bool} (h : b = true) (k : Q (.bl true) H) : Q (.bl b) H := h ▸ k
inductive Outc
  | paper (res : List Nat)
  | trips (ts : List Trip)
def OutAt (K : PySem.W.Frag) (H : Hp) (q : Addr) : Outc → Prop
  | .paper res => H q = some (.lst (nv res))
  | .trips ts => ∃ tvs, H q = some (.lst tvs) ∧ IsL K H tvs ts
theorem OutAt.stp {K : PySem.W.Frag} {M : List Addr} {H H' : Hp} {q : Addr} {o : Outc} (h : OutAt K H q o) (S : Stp M H H') (hM : q ∉ M) : OutAt K H' q o := by
  cases o with
  | paper res => exact S.keep h hM
  | trips ts =>
    obtain ⟨tvs, h1, h2⟩ := h
    exact ⟨tvs, S.keep h1 hM, isl_stpM S h2⟩
def WayR (n w : Nat) (es : List Ent) : Outc → Prop
  | .paper res => ((w = 0 ∨ w = 2) ∧ PO n 0 [] es res) ∨ (w = 1 ∧ WO n 0 [] es res)
  | .trips ts => w = 3 ∧ StrsEs n 0 ts es
def sp__law_way (K : PySem.W.Frag) (A : Ad) : Sp := fun vs H Q E => ∃ (I : Ask) (log : List Ent) (w : Nat), vs = [.int w, .ref I.s] ∧ (I.At K A H log ∧ w ≤ 3 ∧ I.n ≤ 100 ∧ log.length + I.pre.length < 50000) ∧
  Stop I K A H log (fun es => ∃ out, WayR I.n w es out) E ∧
  ∀ H' q es out, H q = none → Told I.or log es → WayR I.n w es out → Stp I.M H H' → I.At K A H' (log ++ es) → OutAt K H' q out → Q (.ref q) H'
theorem ok__law_way {P : Program} {w : World} {K : PySem.W.Frag} {mg : Str → Option Value} {base : Heap} {A : Ad} {f : Addr} {fd : FuncData} (F : Fun K "_law_way" "_law_way" s__law_way f fd) (T : Txt K mg A) (M_Asker_many : SH.CalM P w K mg base CX0 1 A.Asker "many" [] (sp_Asker_many K A)) (C_by_putting : SH.Cal P w K mg base (L2N.CX P w) 5 "by_putting" [] (sp_by_putting K A)) (C_by_reach : SH.Cal P w K mg base (L2N.CX P w) 5 "by_reach" [] (sp_by_reach K A)) (C_by_walking : SH.Cal P w K mg base (L2N.CX P w) 4 "by_walking" [] (sp_by_walking K A)) (C_stretches : SH.Cal P w K mg base (L2N.CX P w) 5 "stretches" [] (sp_stretches K A)) : FnOk P w K mg base (L2N.CX P w) 6 f fd ["_law_way_here", "_law_asker"] (sp__law_way K A) := by
  refine SH.okN F sc__law_way (fun vs H Q E h => by obtain ⟨_, _, _, rfl, _⟩ := h; rfl) (fun cdv A' outer s H vs Q E hr h => ?_)
  obtain ⟨I, log, w, rfl, ⟨hA, hw, hn, hlog⟩, kx, k⟩ := h
  refine ⟨_, (pss_cons (ps_if (pt_cmpR (SH.oEq hr.units) (pv 0) pe_int (nomark _)) (pss_one (ps_ret (SH.pe_callF C_by_putting hr (by rfl) (L2N.passes_call (L2N.takes_of rfl rfl rfl rfl) fun _ _ _ _ h => h) (pa_cons (pv 1) pa_nil)))) pss_nil)
        (pss_cons (ps_if (pt_cmpR (SH.oEq hr.units) (pv 0) pe_int (nomark _)) (pss_one (ps_ret (SH.pe_callF C_by_walking hr (by rfl) (L2N.passes_call (L2N.takes_of rfl rfl rfl rfl) fun _ _ _ _ h => h) (pa_cons (pv 1) pa_nil)))) pss_nil)
        (pss_cons (ps_if (pt_cmpR (SH.oEq hr.units) (pv 0) pe_int (nomark _)) (pss_one (ps_ret (SH.pe_callF C_by_reach hr (by rfl) (L2N.passes_call (L2N.takes_of rfl rfl rfl rfl) fun _ _ _ _ h => h) (pa_cons (pv 1) (pa_cons (SH.pe_methF0 (pv 1) M_Asker_many hr pass0) pa_nil))))) pss_nil)
        (pss_one (ps_ret (SH.pe_callF C_stretches hr (by rfl) (L2N.passes_call (L2N.takes_of rfl rfl rfl rfl) fun _ _ _ _ h => h) (pa_cons (pv 1) pa_nil))))))), ?_⟩
  walk_at "begin"
  have hs := hA.hs
  walk_at "rd"
  refine r_w (fun hc => ?_) fun hc => ?_
  · have hw0 : w = 0 := by omega
    walk_at "rd"
    exact ⟨I, log, rfl, ⟨hA, by omega, by omega⟩, fun H' d es es' h1 => kx H' d es es' (by obtain ⟨res, h⟩ := h1; exact ⟨.paper res, .inl ⟨.inl hw0, h⟩⟩), fun H' q es res hq hT hP _ S hA' hq' => k H' q es (.paper res) hq hT (.inl ⟨.inl hw0, hP⟩) S hA' hq'⟩
  walk_at "rd"
  refine r_w (fun hc1 => ?_) fun hc1 => ?_
  · have hw1 : w = 1 := by omega
    walk_at "rd"
    exact ⟨I, log, rfl, ⟨hA, by omega, by omega⟩, fun H' d es es' h1 => kx H' d es es' (by obtain ⟨res, h⟩ := h1; exact ⟨.paper res, .inr ⟨hw1, h⟩⟩), fun H' q es res hq hT hP _ S hA' hq' => k H' q es (.paper res) hq hT (.inr ⟨hw1, hP⟩) S hA' hq'⟩
  walk_at "rd"
  refine r_w (fun hc2 => ?_) fun hc2 => ?_
  · have hw2 : w = 2 := by omega
    walk_at "rd"
    refine ⟨I, log, rfl, hA, ?_⟩
    walk_at "rd"
    exact ⟨I, log, rfl, ⟨hA, by omega, by omega⟩, fun H' d es es' h1 => kx H' d es es' (by obtain ⟨res, h⟩ := h1; exact ⟨.paper res, .inl ⟨.inr hw2, h⟩⟩), fun H' q es res hq hT hP _ S hA' hq' => k H' q es (.paper res) hq hT (.inl ⟨.inr hw2, hP⟩) S hA' hq'⟩
  · have hw3 : w = 3 := by omega
    walk_at "rd"
    exact ⟨I, log, rfl, ⟨hA, by omega⟩, fun H' d es es' h1 => kx H' d es es' (by obtain ⟨ts, h⟩ := h1; exact ⟨.trips ts, hw3, h⟩), fun H' q tvs ts es hT hP S hA' hq hq' hI _ _ => k H' q es (.trips ts) hq hT ⟨hw3, hP⟩ S hA' ⟨tvs, hq', hI⟩⟩
def sp__law_told (K : PySem.W.Frag) (A : Ad) : Sp := fun vs H Q _ => ∃ (I : Ask) (log : List Ent) (w : Nat), vs = [.int w, .ref I.s] ∧ (I.At K A H log ∧ w ≤ 3 ∧ I.n ≤ 100 ∧ log.length + I.pre.length < 50000) ∧
  (∀ H' t q es out, H q = none → Told I.or log es → WayR I.n w es out → Stp I.M H H' → I.At K A H' (log ++ es) → OutAt K H' q out → H' t = some (.tup [.str "told", .ref q]) → Q (.ref t) H') ∧
  (∀ H' t es es', (∃ out, WayR I.n w (es ++ es') out) → es' ≠ [] → Told I.or log (es ++ es') → I.m = some (log.length + es.length) → Stp I.M H H' → I.At K A H' (log ++ es) → H' t = some (.tup [.str "spent", .int ((log.length + es.length : Nat) : Int)]) → Q (.ref t) H')
theorem ok__law_told {P : Program} {w : World} {K : PySem.W.Frag} {mg : Str → Option Value} {base : Heap} {A : Ad} {f : Addr} {fd : FuncData} (F : Fun K "_law_told" "_law_told" s__law_told f fd) (T : Txt K mg A) (C__law_way : SH.Cal P w K mg base (L2N.CX P w) 6 "_law_way" [] (sp__law_way K A)) : FnOk P w K mg base CX0 7 f fd ["_law_way_here", "_law_asker"] (sp__law_told K A) := by
  refine F.ok sc__law_told (fun vs H Q E h => by obtain ⟨_, _, _, rfl, _⟩ := h; rfl) (fun cdv A' outer s H vs Q E hr h => ?_)
  obtain ⟨I, log, w, rfl, ⟨hA, hw, hn, hlog⟩, k1, k2⟩ := h
  refine ⟨_, (pss_cons (ps_set (i := 2) sc__law_told.nd rfl (Or.inl rfl) pe_non)
        (pss_cons (L2N.ps_try_as (i := 3) rfl rfl sc__law_told.nd rfl rfl ⟨rfl, by decide, .inl T.g_Spent⟩ SH.takes0N (fun W pn xe tk po => (pss_one (ps_set (i := 2) sc__law_told.nd rfl (Or.inl rfl) (pe_tup (pa_cons pe_str (pa_cons (SH.pe_callX C__law_way hr (by rfl) (fun σ => L2N.passAt tk σ) (pa_cons (pv 0) (pa_cons (pv 1) pa_nil))) pa_nil)))))) (fun a oe cls d pn hz hf => (pss_one (ps_set (i := 2) sc__law_told.nd rfl (Or.inl rfl) (pe_tup (pa_cons pe_str (pa_cons (L2.pe_xf (SH.xfOf T.ec_Spent) T.na_Spent_asked (L2N.Zn.zc hz) hf (pv 3)) pa_nil)))))))
        (pss_one (ps_ret (pv 2))))), ?_⟩
  walk_at "begin"
  walk_at "rd"
  refine ⟨I, log, w, rfl, ⟨hA, hw, hn, hlog⟩, fun H' d es es' hR hne hT hm S hA' hd hx => ?_, fun H' q es out hq hT hW S hA' hO => ?_⟩
  · refine SH.r_catch T.exm_Spent_Spent fun e he => ?_
    simp only [List.set_cons_succ, List.set_cons_zero]
    walk_at "rd"
    intro t ht
    have S2 := (Stp.refl [] H').new (o := .tup [.str "spent", .int ((log.length + es.length : Nat) : Int)]) ht
    walk_at "rd"
    simp only [List.set_cons_succ, List.set_cons_zero]
    walk_at "rd"
    exact k2 _ t es es' hR hne hT hm (S.trans (S2.mono (by simp))) (hA'.stp S2 (by simp)) upd_same
  · walk_at "rd"
    intro t ht
    have S2 := (Stp.refl [] H').new (o := .tup [.str "told", .ref q]) ht
    walk_at "rd"
    exact k1 _ t q es out hq hT hW (S.trans (S2.mono (by simp))) (hA'.stp S2 (by simp)) (hO.stp S2 (by simp)) upd_same

def sp__law_whole (K : PySem.W.Frag) (A : Ad) : Sp := fun vs H Q _ => ∃ (c : Int), vs = [.int c] ∧ Q (.bl true) H
theorem ok__law_whole {P : Program} {w : World} {K : PySem.W.Frag} {mg : Str → Option Value} {base : Heap} {A : Ad} {f : Addr} {fd : FuncData} (F : Fun K "_law_whole" "_law_whole" s__law_whole f fd) (T : Txt K mg A)  : FnOk P w K mg base CX0 1 f fd ["_law_found"] (sp__law_whole K A) := by
  refine F.ok sc__law_whole (fun vs H Q E h => by obtain ⟨_, rfl, _⟩ := h; rfl) (fun cdv A' outer s H vs Q E hr h => ?_)
  obtain ⟨c, rfl, k⟩ := h
  refine ⟨_, (pss_one (ps_ret (pe_and (pe_callB call_isi (by rfl) T.z_isinstance (by decide +kernel) (pa_cons (pv 0) (pa_cons (pe_bltn (v := .ty "int") (by rfl) T.z_int (by decide +kernel) rfl) pa_nil))) (pe_one (pe_not (pe_callB call_isi (by rfl) T.z_isinstance (by decide +kernel) (pa_cons (pv 0) (pa_cons (pe_bltn (v := .ty "bool") (by rfl) T.z_bool (by decide +kernel) rfl) pa_nil)))))))), ?_⟩
  walk_at "begin"
  walk_at "rd"
  exact k
def sp__law_each_once (K : PySem.W.Frag) (A : Ad) : Sp := fun vs H Q _ => ∃ (q : Addr) (res : List Nat), vs = [.ref q, .int res.length] ∧ (H q = some (.lst (nv res)) ∧ res.length ≤ 100 ∧ res.Perm (List.range res.length)) ∧ ∀ H', Stp [] H H' → Q (.bl true) H'
theorem ok__law_each_once {P : Program} {w : World} {K : PySem.W.Frag} {mg : Str → Option Value} {base : Heap} {A : Ad} {f : Addr} {fd : FuncData} (F : Fun K "_law_each_once" "_law_each_once" s__law_each_once f fd) (T : Txt K mg A) (C__law_whole : SH.Cal P w K mg base CX0 1 "_law_whole" [] (sp__law_whole K A)) : FnOk P w K mg base CX0 2 f fd ["_law_told_here", "_law_many"] (sp__law_each_once K A) := by
  refine F.ok sc__law_each_once (fun vs H Q E h => by obtain ⟨_, _, rfl, _⟩ := h; rfl) (fun cdv A' outer s H vs Q E hr h => ?_)
  obtain ⟨q, res, rfl, ⟨hq, hn, hP⟩, k⟩ := h
  refine ⟨_, (pss_cons (ps_if (PW.pt (pw_or (pt_not (pt_val (pe_callB call_isi (by rfl) T.z_isinstance (by decide +kernel) (pa_cons (pv 0) (pa_cons (pe_bltn (v := .ty "list") (by rfl) T.z_list (by decide +kernel) rfl) pa_nil))))) (pw_or1 (pt_cmpR (SH.oNe hr.units) (pe_callB SH.cLen (by rfl) T.z_len (by decide +kernel) (pa_cons (pv 0) pa_nil)) (pv 1) (nomark _))))) (pss_one (ps_ret pe_bl)) pss_nil)
        (pss_cons (ps_for PassesOwn.never rfl (pi_list (pv 0)) (pg_name (i := 2) sc__law_each_once.nd rfl (Or.inl rfl)) (pss_one (ps_if (pt_not (pt_val (SH.pe_callF C__law_whole hr (by rfl) pass0 (pa_cons (pv 2) pa_nil)))) (pss_one (ps_ret pe_bl)) pss_nil)))
        (pss_one (ps_ret (pe_cmpR (SH.oEq hr.units) (pe_callB cr_sortedI (by rfl) T.z_sorted (by decide +kernel) (pa_cons (pv 0) pa_nil)) (SH.pe_listrange (by rfl) T.z_list (by rfl) T.z_range (pv 1)) (nomark _)))))), ?_⟩
  walk_at "begin"
  walk_at "rd"
  refine r_nwF (by simp) ?_
  walk_at "rd"
  refine for_it (walk_list (xs := nv res)) (fun j σ H' => H = H' ∧ ∃ v2, σ = [some (.ref q), some (.int res.length), v2]) ⟨rfl, _, rfl⟩ (fun _ _ _ _ z => z.1 ▸ SqL.of hq) ?_ ?_
  · rintro j x σ H1 H2 hj ⟨rfl, v2, rfl⟩ ⟨rfl, hx⟩
    obtain ⟨o, -, rfl⟩ := Option.map_eq_some_iff.mp (by rw [← List.getElem?_map]; exact hx)
    walk_at "rd"
    refine ⟨_, rfl, ?_⟩
    walk_at "rd"
    exact ⟨rfl, _, rfl⟩
  · rintro σ H1 ⟨rfl, v2, rfl⟩
    walk_at "rd"
    rw [nv_ni] at hq
    refine v_sortI (SqL.of hq) fun ns' q2 hp hs hq2 => ?_
    walk_at "rd"
    refine v_lrg1 (n := res.length) rfl (by omega) fun q3 hq3 => ?_
    rw [show (List.range res.length).map (fun i : Nat => V.int i) = (ni (List.range res.length)).map V.int from nv_ni _]
    refine v_eqL (ns := ns') (ms := ni (List.range res.length)) (sql_upd (SqL.of upd_same) hq3) (SqL.of upd_same) ?_
    have e : ns' = ni (List.range res.length) := by
      have := (sorted_pap hp hs).mpr (Pap.i hP)
      rw [this]
      simp [ni]
    rw [decide_eq_true e]
    exact k _ (((Stp.refl _ _).new hq2).new hq3)
def sp__law_bits (K : PySem.W.Frag) (A : Ad) : Sp := fun vs H Q _ => ∃ (a : Addr) (ns : List Int) (mix : Int), vs = [.ref a, .int mix] ∧ (SqL K H a (ns.map V.int) ∧ ns.length ≤ 63) ∧ ∀ (q : Addr) (H' : Hp) (bs : List Int), H q = none → Stp [] H H' → H' q = some (.lst (bs.map V.int)) → Q (.ref q) H'
theorem ok__law_bits {P : Program} {w : World} {K : PySem.W.Frag} {mg : Str → Option Value} {base : Heap} {A : Ad} {f : Addr} {fd : FuncData} (F : Fun K "_law_bits" "_law_bits" s__law_bits f fd) (T : Txt K mg A) (C__law_cell_at : SH.Cal P w K mg base CX0 1 "_law_cell_at" [] (sp__law_cell_at K A)) (C__law_digits : SH.Cal P w K mg base CX0 2 "_law_digits" [] (sp__law_digits K A)) (C__law_stream : SH.Cal P w K mg base CX0 1 "_law_stream" [] (sp__law_stream K A)) : FnOk P w K mg base CX0 3 f fd ["_law_script", "_law_mix"] (sp__law_bits K A) := by
  refine F.ok sc__law_bits (fun vs H Q E h => by obtain ⟨_, _, _, rfl, _⟩ := h; rfl) (fun cdv A' outer s H vs Q E hr h => ?_)
  obtain ⟨a, ns, mix, rfl, ⟨hS, hlen⟩, k⟩ := h
  refine ⟨_, (pss_cons (ps_if (pt_cmpR (SH.oEq hr.units) (pe_op SH.oMod (pe_op SH.oDiv (SH.pe_callF C__law_cell_at hr (by rfl) pass0 (pa_cons (pv 0) (pa_cons pe_int pa_nil))) pe_int) pe_int) pe_int (nomark _)) (pss_one (ps_ret (SH.pe_callF C__law_digits hr (by rfl) pass0 (pa_cons (pv 0) (pa_cons pe_int (pa_cons pe_int pa_nil)))))) pss_nil)
        (pss_one (ps_ret (pe_lc (own := [("_law_number", 2)]) (g := (gName 2)) (tt := tYes) (by rfl) sc__law_bits.nd (pi_list (SH.pe_callF C__law_stream hr (by rfl) pass0 (pa_cons (pv 1) (pa_cons pe_int pa_nil)))) (blkOk_by (own := [("_law_number", 2)]) (N := ["_law_script", "_law_mix", "_law_number"]) (sc := defScope s__law_bits) (by decide +kernel)) (fun _ _ _ _ _ => (pg_name (i := 2) sc__law_bits.nd rfl (Or.inl rfl))) (fun _ _ _ _ _ => pts_nil) (fun _ _ _ _ _ => (pe_op SH.oDiv (pv 2) pe_int)))))), ?_⟩
  walk_at "begin"
  walk_at "rd"
  refine ⟨a, ns, 0, rfl, hS, fun c0 => ?_⟩
  walk_at "rd"
  refine r_w (fun hc => ?_) fun hc => ?_
  · walk_at "rd"
    exact ⟨a, ns, 8, 2, rfl, ⟨hS, by decide, by decide⟩, fun q H' ms hq S hq' _ _ => k q H' ms hq S hq'⟩
  · walk_at "rd"
    refine ⟨mix, 64, rfl, by decide, fun q H' ms hq S hq' hl _ => ?_⟩
    walk_at "rd"
    intro D hD
    refine lc_it (walk_list (xs := ms.map V.int)) (fun j H'' => Stp [] H' H'' ∧ ∃ bs : List Int, H'' D = some (.lst (bs.map V.int)) ∧ bs.length = j) ⟨(Stp.refl _ _).new hD, [], upd_same, rfl⟩ (fun j H'' _ z => z.1.sql0 (SqL.of hq')) ?_ ?_
    · rintro j x H3 H4 hj ⟨S4, bs, hL, hbl⟩ ⟨rfl, hx⟩
      rw [List.getElem?_map] at hx
      obtain ⟨c, -, rfl⟩ := Option.map_eq_some_iff.mp hx
      rw [List.length_map] at hj
      walk_at "rd"
      exact ⟨_, hL, Nat.lt_of_le_of_lt (m := 1000) (by rw [List.length_map]; omega) (by decide), S4.putN hD, bs ++ [c / 5], by rw [upd_same, List.map_append]; rfl, by simp [hbl]⟩
    rintro H3 ⟨S3, bs, hL, _⟩
    exact k D H3 bs (S.dom _ hD) (S.trans S3) hL

/-- what each way takes at the most, and the word of it -/
def bndOk (w : Nat) (es : List Ent) (n : Nat) : Prop := if w = 1 then (es.filter fun e => !e.c).length ≤ n - 1 else if w = 3 then es.length = n - 1 else es.length ≤ bsum n
theorem WD.falses {ord : List Nat} {place at_ r : Nat} {es : List Ent} (h : WD ord place at_ es r) : (es.filter fun e => !e.c).length ≤ 1 ∧ (at_ = 0 → es = []) := by
  induction h with
  | zero => simp
  | stop ho => simp
  | more ho k ih => exact ⟨by simpa using ih.1, fun z => by omega⟩
theorem WO.falses {n p : Nat} {ord res : List Nat} {es : List Ent} (h : WO n p ord es res) (hl : ord.length = p) : (es.filter fun e => !e.c).length ≤ n - max p 1 := by
  induction h with
  | done h => simp
  | @put p r ord res es1 es h k kk ih =>
    have h1 := k.falses
    have h2 := ih (by rw [ins_perm.length_eq, List.length_cons, hl])
    rw [List.filter_append, List.length_append]
    by_cases e : p = 0
    · have : es1 = [] := h1.2 (by omega)
      subst this
      simp
      omega
    · omega
theorem StretchEs.len1 {first n at_ : Nat} {fall : Bool} {es : List Ent} (h : StretchEs first n at_ fall es) : es.length = min (at_ + 1) n - (first + 1) := by
  rcases h with ⟨a, b, c, d⟩ | ⟨a, b, c, c', e, _⟩
  · subst d; simp; omega
  · subst e; simp
theorem StrsEs.len {n first : Nat} {ts : List Trip} {es : List Ent} (h : StrsEs n first ts es) : first ≤ n → es.length = n - (first + 1) := by
  induction h with
  | done h => intro _; simp; omega
  | @step first at_ fall es fs ts h he k ih =>
    intro _
    have h1 := he.len1
    obtain ⟨b1, b2, _⟩ := he.bd
    have h2 := ih b2
    rw [List.length_append]
    omega
theorem WayR.bnd {n w : Nat} {es : List Ent} {out : Outc} (h : WayR n w es out) : bndOk w es n := by
  unfold bndOk
  cases out with
  | paper res =>
    rcases h with ⟨h1, h2⟩ | ⟨h1, h2⟩
    · rw [if_neg (by omega), if_neg (by omega)]
      have := h2.few rfl (Nat.zero_le _)
      have e : bsum 0 = 0 := rfl
      omega
    · rw [if_pos h1]
      exact h2.falses rfl
  | trips ts =>
    obtain ⟨h1, h2⟩ := h
    rw [if_neg (by omega), if_pos h1]
    have := h2.len (Nat.zero_le _)
    omega
theorem PO.perm_ {n p : Nat} {ord res : List Nat} {es : List Ent} (h : PO n p ord es res) (hp : ord.Perm (List.range p)) (hn : p ≤ n) : res.Perm (List.range n) := by
  induction h with
  | @done p ord h => rw [show n = p by omega]; exact hp
  | @put p r ord res es1 es h k kk ih =>
    refine ih ?_ (by omega)
    rw [List.range_succ]
    exact ins_perm.trans ((hp.cons p).trans (List.perm_append_singleton p _).symm)
theorem WO.perm_ {n p : Nat} {ord res : List Nat} {es : List Ent} (h : WO n p ord es res) (hp : ord.Perm (List.range p)) (hn : p ≤ n) : res.Perm (List.range n) := by
  induction h with
  | @done p ord h => rw [show n = p by omega]; exact hp
  | @put p r ord res es1 es h k kk ih =>
    refine ih ?_ (by omega)
    rw [List.range_succ]
    exact ins_perm.trans ((hp.cons p).trans (List.perm_append_singleton p _).symm)

/-! ### what is told fixes the run -/
theorem Told.split {or : List Ent → Nat → Nat → Bool} : ∀ {log es fs : List Ent}, Told or log (es ++ fs) → Told or log es ∧ Told or (log ++ es) fs
  | log, [], fs, h => ⟨True.intro, by rw [List.append_nil]; exact h⟩
  | log, e :: es, fs, h => by
    obtain ⟨h1, h2⟩ := h
    obtain ⟨a, b⟩ := Told.split (es := es) h2
    exact ⟨⟨h1, a⟩, by rw [List.append_assoc] at b; exact b⟩
theorem Halv.uniqT {or : List Ent → Nat → Nat → Bool} {ord : List Nat} {p lo hi r r' : Nat} {es es' log : List Ent} (h : Halv ord p lo hi es r) (h' : Halv ord p lo hi es' r') {fs fs' : List Ent} (hT : Told or log (es ++ fs)) (hT' : Told or log (es' ++ fs')) : es = es' ∧ r = r' := by
  induction h generalizing es' log with
  | done low =>
    cases h' with
    | done => exact ⟨rfl, rfl⟩
    | up h _ _ => omega
    | down h _ _ => omega
  | @up low high o es spot h ho k ih =>
    have t1 := hT.1
    cases h' with
    | done => omega
    | up h2 ho2 k2 =>
      rw [ho] at ho2; cases ho2
      obtain ⟨rfl, rfl⟩ := ih k2 hT.2 hT'.2
      exact ⟨rfl, rfl⟩
    | down h2 ho2 k2 =>
      rw [ho] at ho2; cases ho2
      have t2 := hT'.1
      dsimp only at t1 t2
      rw [← t1] at t2
      exact absurd t2 (by cases decide (p < o) <;> decide)
  | @down low high o es spot h ho k ih =>
    have t1 := hT.1
    cases h' with
    | done => omega
    | down h2 ho2 k2 =>
      rw [ho] at ho2; cases ho2
      obtain ⟨rfl, rfl⟩ := ih k2 hT.2 hT'.2
      exact ⟨rfl, rfl⟩
    | up h2 ho2 k2 =>
      rw [ho] at ho2; cases ho2
      have t2 := hT'.1
      dsimp only at t1 t2
      rw [← t1] at t2
      exact absurd t2 (by cases decide (p < o) <;> decide)
theorem PO.uniqT {or : List Ent → Nat → Nat → Bool} {n p : Nat} {ord res res' : List Nat} {es es' log : List Ent} (h : PO n p ord es res) (h' : PO n p ord es' res') (hT : Told or log es) (hT' : Told or log es') : es = es' ∧ res = res' := by
  induction h generalizing es' log with
  | @done p ord hh =>
    cases h' with
    | done => exact ⟨rfl, rfl⟩
    | put h _ _ => omega
  | @put p r ord res es1 es hh k kk ih =>
    cases h' with
    | done => omega
    | put h2 k2 kk2 =>
      obtain ⟨rfl, rfl⟩ := k.uniqT k2 hT hT'
      obtain ⟨rfl, rfl⟩ := ih kk2 hT.split.2 hT'.split.2
      exact ⟨rfl, rfl⟩
theorem WD.uniqT {or : List Ent → Nat → Nat → Bool} {ord : List Nat} {p at_ r r' : Nat} {es es' log : List Ent} (h : WD ord p at_ es r) (h' : WD ord p at_ es' r') {fs fs' : List Ent} (hT : Told or log (es ++ fs)) (hT' : Told or log (es' ++ fs')) : es = es' ∧ r = r' := by
  induction h generalizing es' log with
  | zero => cases h'; exact ⟨rfl, rfl⟩
  | @stop at_ o ho =>
    have t1 := hT.1
    cases h' with
    | stop ho2 => rw [ho] at ho2; cases ho2; exact ⟨rfl, rfl⟩
    | more ho2 k2 =>
      rw [ho] at ho2; cases ho2
      have t2 := hT'.1
      dsimp only at t1 t2
      rw [← t1] at t2
      cases t2
  | @more at_ o r es ho k ih =>
    have t1 := hT.1
    cases h' with
    | stop ho2 =>
      rw [ho] at ho2; cases ho2
      have t2 := hT'.1
      dsimp only at t1 t2
      rw [← t1] at t2
      cases t2
    | more ho2 k2 =>
      rw [ho] at ho2; cases ho2
      obtain ⟨rfl, rfl⟩ := ih k2 hT.2 hT'.2
      exact ⟨rfl, rfl⟩
theorem WO.uniqT {or : List Ent → Nat → Nat → Bool} {n p : Nat} {ord res res' : List Nat} {es es' log : List Ent} (h : WO n p ord es res) (h' : WO n p ord es' res') (hT : Told or log es) (hT' : Told or log es') : es = es' ∧ res = res' := by
  induction h generalizing es' log with
  | @done p ord hh =>
    cases h' with
    | done => exact ⟨rfl, rfl⟩
    | put h _ _ => omega
  | @put p r ord res es1 es hh k kk ih =>
    cases h' with
    | done => omega
    | put h2 k2 kk2 =>
      obtain ⟨rfl, rfl⟩ := k.uniqT k2 hT hT'
      obtain ⟨rfl, rfl⟩ := ih kk2 hT.split.2 hT'.split.2
      exact ⟨rfl, rfl⟩
theorem StrsEs.uniq {lt : Nat → Nat → Bool} {n first : Nat} {ts ts' : List Trip} {es es' log : List Ent} (h : StrsEs n first ts es) (h' : StrsEs n first ts' es') (hT : Told (fun _ => lt) log es) (hT' : Told (fun _ => lt) log es') : es = es' ∧ ts = ts' := by
  induction h generalizing ts' es' log with
  | @done first h =>
    cases h' with
    | done => exact ⟨rfl, rfl⟩
    | step h2 _ _ => omega
  | @step first at_ fall es fs ts hlt he k ih =>
    cases h' with
    | done h2 => omega
    | @step _ at2 fall2 es2 fs2 ts2 hlt2 he2 k2 =>
      obtain ⟨s1, e1⟩ := stretch_told hT.split.1 he
      obtain ⟨s2, e2⟩ := stretch_told hT'.split.1 he2
      obtain ⟨rfl, rfl⟩ := s1.uniq s2
      have e3 : es = es2 := e1.trans e2.symm
      subst e3
      obtain ⟨rfl, rfl⟩ := ih k2 hT.split.2 hT'.split.2
      exact ⟨rfl, rfl⟩
theorem WayR.det {or : List Ent → Nat → Nat → Bool} {n w : Nat} {es es' log : List Ent} {out out' : Outc} (hw : w = 3 → ∃ lt, or = fun _ => lt) (h : WayR n w es out) (h' : WayR n w es' out') (hT : Told or log es) (hT' : Told or log es') : es = es' ∧ out = out' := by
  cases out with
  | paper res =>
    cases out' with
    | paper res' =>
      rcases h with ⟨h1, h2⟩ | ⟨h1, h2⟩ <;> rcases h' with ⟨h3, h4⟩ | ⟨h3, h4⟩
      · obtain ⟨rfl, rfl⟩ := h2.uniqT h4 hT hT'
        exact ⟨rfl, rfl⟩
      · omega
      · omega
      · obtain ⟨rfl, rfl⟩ := h2.uniqT h4 hT hT'
        exact ⟨rfl, rfl⟩
    | trips ts =>
      obtain ⟨h3, _⟩ := h'
      rcases h with ⟨h1, _⟩ | ⟨h1, _⟩ <;> omega
  | trips ts =>
    cases out' with
    | paper res' =>
      obtain ⟨h3, _⟩ := h
      rcases h' with ⟨h1, _⟩ | ⟨h1, _⟩ <;> omega
    | trips ts' =>
      obtain ⟨h1, h2⟩ := h
      obtain ⟨_, h4⟩ := h'
      obtain ⟨lt, rfl⟩ := hw h1
      obtain ⟨rfl, rfl⟩ := h2.uniq h4 hT hT'
      exact ⟨rfl, rfl⟩
theorem WayR.once {n w : Nat} {es : List Ent} {res : List Nat} (h : WayR n w es (.paper res)) : res.Perm (List.range n) := by
  rcases h with ⟨_, h2⟩ | ⟨_, h2⟩
  · exact h2.perm_ (.refl _) (Nat.zero_le _)
  · exact h2.perm_ (.refl _) (Nat.zero_le _)
theorem WayR.kind {n w : Nat} {es : List Ent} {out : Outc} (h : WayR n w es out) : (w ≠ 3 → ∃ res, out = .paper res) ∧ (w = 3 → ∃ ts, out = .trips ts) := by
  cases out with
  | paper res => exact ⟨fun _ => ⟨res, rfl⟩, fun z => by rcases h with ⟨h1, _⟩ | ⟨h1, _⟩ <;> omega⟩
  | trips ts => exact ⟨fun z => (z h.1).elim, fun _ => ⟨ts, rfl⟩⟩
def sp__law_bound (K : PySem.W.Frag) (A : Ad) : Sp := fun vs H Q _ => ∃ (w : Nat) (l : Addr) (n : Nat) (evs : List V) (log : List Ent), vs = [.int w, .ref l, .int n] ∧ (SqL K H l evs ∧ IsL K H evs log ∧ log.length ≤ 100000 ∧ n ≤ 100 ∧ bndOk w log n) ∧ ∀ H', Stp [] H H' → Q (.bl true) H'
theorem ok__law_bound {P : Program} {w : World} {K : PySem.W.Frag} {mg : Str → Option Value} {base : Heap} {A : Ad} {f : Addr} {fd : FuncData} (F : Fun K "_law_bound" "_law_bound" s__law_bound f fd) (T : Txt K mg A)  : FnOk P w K mg base CX0 1 f fd ["_law_way_here", "_law_log", "_law_many"] (sp__law_bound K A) := by
  refine F.ok sc__law_bound (fun vs H Q E h => by obtain ⟨_, _, _, _, _, rfl, _⟩ := h; rfl) (fun cdv A' outer s H vs Q E hr h => ?_)
  obtain ⟨w, l, n, evs, log, rfl, ⟨hl, hI, hll, hn, hb⟩, k⟩ := h
  refine ⟨_, (pss_cons (ps_if (pt_cmpR (SH.oEq hr.units) (pv 0) pe_int (nomark _)) (pss_one (ps_ret (pe_cmpR SH.oLe (pe_callB SH.cLen (by rfl) T.z_len (by decide +kernel) (pa_cons (pe_lc (own := [("_law_one", 4)]) (g := (gName 4)) (by rfl) sc__law_bound.nd (pi_list (pv 1)) (blkOk_by (own := [("_law_one", 4)]) (N := ["_law_way_here", "_law_log", "_law_many", "_law_k", "_law_one"]) (sc := defScope s__law_bound) (by decide +kernel)) (fun _ _ _ _ _ => (pg_name (i := 4) sc__law_bound.nd rfl (Or.inl rfl))) (fun _ _ _ _ _ => (pts_one (pt_not (pt_val (pe_ix (SH.ixK SH.aIx K SH.ixA) (pv 4) pe_int (fun _ _ => rfl)))))) (fun _ _ _ _ _ => (pv 4))) pa_nil)) (pe_callB (SH.cMax2 rfl) (by rfl) T.z_max (by decide +kernel) (pa_cons pe_int (pa_cons (pe_op SH.oSub (pv 2) pe_int) pa_nil))) (nomark _)))) pss_nil)
        (pss_cons (ps_if (pt_cmpR (SH.oEq hr.units) (pv 0) pe_int (nomark _)) (pss_one (ps_ret (pe_cmpR (SH.oEq hr.units) (pe_callB SH.cLen (by rfl) T.z_len (by decide +kernel) (pa_cons (pv 1) pa_nil)) (pe_callB (SH.cMax2 rfl) (by rfl) T.z_max (by decide +kernel) (pa_cons pe_int (pa_cons (pe_op SH.oSub (pv 2) pe_int) pa_nil))) (nomark _)))) pss_nil)
        (pss_one (ps_ret (pe_cmpR SH.oLe (pe_callB SH.cLen (by rfl) T.z_len (by decide +kernel) (pa_cons (pv 1) pa_nil)) (pe_callB (cr_sum rfl) (by rfl) T.z_sum (by decide +kernel) (pa_cons (pe_lc (own := [("_law_k", 3)]) (g := (gName 3)) (tt := tYes) (by rfl) sc__law_bound.nd (pi_range2 (by rfl) T.z_range (pa_cons pe_int (pa_cons (pv 2) pa_nil))) (blkOk_by (own := [("_law_k", 3)]) (N := ["_law_way_here", "_law_log", "_law_many", "_law_k", "_law_one"]) (sc := defScope s__law_bound) (by decide +kernel)) (fun _ _ _ _ _ => (pg_name (i := 3) sc__law_bound.nd rfl (Or.inl rfl))) (fun _ _ _ _ _ => pts_nil) (fun _ _ _ _ _ => (pe_bits (pv 3)))) pa_nil)) (nomark _)))))), ?_⟩
  walk_at "begin"
  have hel := isl_len hI
  unfold bndOk at hb
  walk_at "rd"
  refine r_w (fun hc => ?_) fun hc => ?_
  · rw [if_pos (by omega)] at hb
    walk_at "rd"
    intro D hD
    refine lc_it (walk_list (xs := evs)) (fun j H' => Stp [] H H' ∧ ∃ us : List V, H' D = some (.lst us) ∧ us.length = ((log.take j).filter fun e => !e.c).length) ⟨(Stp.refl _ _).new hD, [], upd_same, rfl⟩ (fun j H' _ z => z.1.sql0 hl) ?_ ?_
    · rintro j x H3 H4 hj ⟨S, us, hL, hul⟩ ⟨rfl, hx⟩
      obtain ⟨e, t, he, rfl, ht⟩ := isl_ent hI hx
      have ht4 := S.sqt0 ht
      walk_at "rd"
      refine v_ixTn (n := 2) ht4 rfl rfl ?_
      have etk : log.take (j + 1) = log.take j ++ [e] := by rw [List.take_succ, he]; rfl
      refine ⟨_, rfl, ?_⟩
      cases hcc : e.c with
      | true =>
        rw [if_neg (by simp)]
        refine ⟨S, us, hL, ?_⟩
        rw [hul, etk, List.filter_append]
        simp [hcc]
      | false =>
        rw [if_pos (by simp)]
        walk_at "rd"
        refine ⟨_, hL, Nat.lt_of_le_of_lt (m := 100000) (by rw [hul]; exact Nat.le_trans (List.length_filter_le _ _) (by simp; omega)) (by decide), S.putN hD, us ++ [.ref t], upd_same, ?_⟩
        rw [etk, List.filter_append]
        simp [hcc, hul]
    rintro H3 ⟨S, us, hL, hul⟩
    rw [List.take_of_length_le (by omega)] at hul
    walk_at "rd"
    exact q_true (decide_eq_true (by rw [hul]; split <;> omega)) (k _ S)
  walk_at "rd"
  refine r_w (fun hc1 => ?_) fun hc1 => ?_
  · rw [if_neg (by omega), if_pos (by omega)] at hb
    walk_at "rd"
    exact q_true (decide_eq_true (by rw [hel, hb]; split <;> omega)) (k _ (.refl _ _))
  · rw [if_neg (by omega), if_neg (by omega)] at hb
    walk_at "rd"
    intro D3 hD3
    refine lc_it walk_range (fun j H' => Stp [] H H' ∧ H' D3 = some (.lst (nv ((List.range j).map fun k => Builtin.Int.intBits ((k + 1 : Nat) : Int))))) ⟨(Stp.refl _ _).new hD3, upd_same⟩ (fun _ _ _ _ => True.intro) ?_ ?_
    · rintro j x H3 H4 hj ⟨S', hL3⟩ ⟨rfl, rfl⟩
      dsimp only
      rw [show (1 : Int) + (j : Nat) = ((j + 1 : Nat) : Int) by omega]
      walk_at "rd"
      refine ⟨_, hL3, Nat.lt_of_le_of_lt (m := 1000) (by rw [List.length_map, List.length_map, List.length_range]; omega) (by decide), S'.putN hD3, ?_⟩
      rw [upd_same, List.range_succ, List.map_append, nv_app.symm]
      rfl
    rintro H12 ⟨S12, hL12⟩
    have hbm : bsum n ≤ bsum (((n : Int) - 1).toNat + 1) := bsum_mono (by omega)
    walk_at "rd"
    refine v_sum (ns := (List.range ((n : Int) - 1).toNat).map fun k => ((Builtin.Int.intBits ((k + 1 : Nat) : Int) : Nat) : Int)) ?_ ?_
    · have := SqL.of (K := K) hL12
      unfold nv at this
      rw [List.map_map] at this ⊢
      exact this
    rw [bsum_int]
    walk_at "rd"
    exact q_true (decide_eq_true (by omega)) (k _ S12)
def sp_Asker_answers (K : PySem.W.Frag) (A : Ad) : Sp := fun vs H Q _ => ∃ (I : Ask) (log : List Ent), vs = [.ref I.s] ∧ I.At K A H log ∧ ∀ q evs, H q = none → IsL K (upd H q (.lst evs)) evs log → Q (.ref q) (upd H q (.lst evs))
theorem ok_Asker_answers {P : Program} {w : World} {K : PySem.W.Frag} {mg : Str → Option Value} {base : Heap} {A : Ad} {f : Addr} {fd : FuncData} (F : Fun K "answers" "Asker.answers" s_Asker_answers f fd) (T : Txt K mg A)  : FnOk P w K mg base CX0 1 f fd ["self"] (sp_Asker_answers K A) := by
  refine F.ok sc_Asker_answers (fun vs H Q E h => by obtain ⟨_, _, rfl, _⟩ := h; rfl) (fun cdv A' outer s H vs Q E hr h => ?_)
  obtain ⟨I, log, rfl, hA, k⟩ := h
  refine ⟨_, (pss_one (ps_ret (pe_callTy SH.cListOf (by rfl) T.z_list (by decide +kernel) (pa_cons (SH.pe_fldF T.cl_Asker T.na_Asker_log (pv 0)) pa_nil)))), ?_⟩
  walk_at "begin"
  obtain ⟨hs, hr, ⟨evs, hl, hev⟩, _⟩ := hA
  unfold AskM at hs
  walk_at "rd"
  intro q hq
  exact k q evs hq (isl_stp ((Stp.refl [] H).new hq) hev)
theorem PO.len {n p : Nat} {ord res : List Nat} {es : List Ent} (h : PO n p ord es res) (hl : ord.length = p) : es.length ≤ (n - p) * n := by
  induction h with
  | done h => simp
  | @put p r ord res es1 es h k kk ih =>
    have h1 := (k.bd (Nat.zero_le _)).2.2
    have h2 := ih (by rw [ins_perm.length_eq, List.length_cons, hl])
    rw [List.length_append, show n - p = n - (p + 1) + 1 by omega, Nat.add_mul]
    omega
theorem WO.len {n p : Nat} {ord res : List Nat} {es : List Ent} (h : WO n p ord es res) (hl : ord.length = p) : es.length ≤ (n - p) * n := by
  induction h with
  | done h => simp
  | @put p r ord res es1 es h k kk ih =>
    have h1 := k.bd.2
    have h2 := ih (by rw [ins_perm.length_eq, List.length_cons, hl])
    rw [List.length_append, show n - p = n - (p + 1) + 1 by omega, Nat.add_mul]
    omega
theorem WayR.len {n w : Nat} {es : List Ent} {out : Outc} (h : WayR n w es out) : es.length ≤ n * n := by
  cases out with
  | paper res =>
    rcases h with ⟨_, h2⟩ | ⟨_, h2⟩
    · exact h2.len rfl
    · exact h2.len rfl
  | trips ts =>
    have := h.2.len (Nat.zero_le _)
    have : n ≤ n * n := Nat.le_mul_self n
    omega
theorem WayR.is_paper {n w : Nat} {es : List Ent} {out : Outc} (h : WayR n w es out) (hw : w ≠ 3) : ∃ res, out = .paper res ∧ res.Perm (List.range n) := by
  obtain ⟨res, rfl⟩ := h.kind.1 hw
  exact ⟨res, rfl, h.once⟩
theorem OutAt.eqv {K : PySem.W.Frag} {H : Hp} {q q' : Addr} {o : Outc} {Q : VK} (h : OutAt K H q o) (h' : OutAt K H q' o) (k : Q (.bl true) H) : aEq K (.ref q) (.ref q') H Q := by
  cases o with
  | paper res => exact v_eqE (is_lst (SqL.of h) isl_nats) (is_lst (SqL.of h') isl_nats) (by rw [decide_eq_true rfl]; exact k)
  | trips ts =>
    obtain ⟨us, h1, h2⟩ := h
    obtain ⟨vs, h3, h4⟩ := h'
    exact v_eqE (is_lst (SqL.of h1) h2) (is_lst (SqL.of h3) h4) (by rw [decide_eq_true rfl]; exact k)
theorem OutAt.neqv {K : PySem.W.Frag} {H : Hp} {q q' : Addr} {o : Outc} {Q : VK} (h : OutAt K H q o) (h' : OutAt K H q' o) (k : Q (.bl false) H) : aNe K (.ref q) (.ref q') H Q := by
  cases o with
  | paper res => exact v_neE (is_lst (SqL.of h) isl_nats) (is_lst (SqL.of h') isl_nats) (by rw [decide_eq_true rfl]; exact k)
  | trips ts =>
    obtain ⟨us, h1, h2⟩ := h
    obtain ⟨vs, h3, h4⟩ := h'
    exact v_neE (is_lst (SqL.of h1) h2) (is_lst (SqL.of h3) h4) (by rw [decide_eq_true rfl]; exact k)
theorem Told.const {lt : Nat → Nat → Bool} : ∀ {log log' es : List Ent}, Told (fun _ => lt) log es → Told (fun _ => lt) log' es
  | _, _, [], _ => True.intro
  | _, _, _ :: _, h => ⟨h.1, Told.const h.2⟩
theorem WayR.total (or : List Ent → Nat → Nat → Bool) (n w : Nat) (log : List Ent) (hw : w ≤ 3) : ∃ es out, WayR n w es out ∧ Told or log es := by
  by_cases h1 : w = 1
  · obtain ⟨es, res, h, hT⟩ := WO.total or (n := n) _ 0 [] log rfl
    exact ⟨es, .paper res, .inr ⟨h1, h⟩, hT⟩
  by_cases h3 : w = 3
  · obtain ⟨ts, es, h, hT⟩ := StrsEs.total or (n := n) _ 0 log rfl
    exact ⟨es, .trips ts, ⟨h3, h⟩, hT⟩
  · obtain ⟨es, res, h, hT⟩ := PO.total or (n := n) _ 0 [] log rfl
    exact ⟨es, .paper res, .inl ⟨by omega, h⟩, hT⟩
/-- a run beside which there was a whole one: the first of its asks, and its answer if it was not stopped -/
theorem told2 {K : PySem.W.Frag} {A : Ad} {I : Ask} {H : Hp} {Q : VK} {E : XK} {w m : Nat} {log es0 : List Ent} {out0 : Outc} (hA : I.At K A H log) (hw : w ≤ 3) (hn : I.n ≤ 100) (hl : log.length + I.pre.length < 50000) (hR0 : WayR I.n w es0 out0) (hT0 : Told I.or log es0) (hdet : w = 3 → ∃ lt, I.or = fun _ => lt) (em : I.m = some (log.length + m))
    (k : ∀ H' t es v word, Stp I.M H H' → I.At K A H' (log ++ es) → es = es0.take m → H' t = some (.tup [.str word, v]) →
      ((es0.length ≤ m ∧ word = "told" ∧ ∃ q, v = .ref q ∧ H q = none ∧ OutAt K H' q out0) ∨ (m < es0.length ∧ word = "spent" ∧ v = .int (log.length + m : Nat))) → Q (.ref t) H') : sp__law_told K A [.int w, .ref I.s] H Q E := by
  refine ⟨I, log, w, rfl, ⟨hA, hw, hn, hl⟩, fun H' t q es out hq hT hW S hA' hO ht => ?_, fun H' t es es' hR hne hT hm S hA' ht => ?_⟩
  · obtain ⟨rfl, rfl⟩ := hW.det hdet hR0 hT hT0
    have hb := hA'.bd _ em
    rw [List.length_append] at hb
    exact k H' t es _ _ S hA' (List.take_of_length_le (by omega)).symm ht (.inl ⟨by omega, rfl, q, rfl, hq, hO⟩)
  · obtain ⟨out, hR⟩ := hR
    obtain ⟨rfl, rfl⟩ := hR.det hdet hR0 hT hT0
    rw [em] at hm
    injection hm with hm
    have hpos := List.length_pos_iff.mpr hne
    have e : m = es.length := by omega
    exact k H' t es _ _ S hA' (by rw [e, List.take_left]) ht (.inr ⟨by rw [List.length_append]; omega, rfl, by rw [e]⟩)
def sp_law (K : PySem.W.Frag) (A : Ad) : Sp := fun vs H Q _ => ∃ (a : Addr) (ns : List Int), vs = [.ref a] ∧ (SqL K H a (ns.map V.int) ∧ ns.length ≤ 63 ∧ TabsN (Tb A) H) ∧ ∀ H', Q (.bl true) H'
theorem ok_law {P : Program} {w : World} {K : PySem.W.Frag} {mg : Str → Option Value} {base : Heap} {A : Ad} {f : Addr} {fd : FuncData} (F : Fun K "law" "law" s_law f fd) (T : Txt K mg A) (M_Asker_answers : SH.CalM P w K mg base CX0 1 A.Asker "answers" [] (sp_Asker_answers K A)) (M_Asker_widen : SH.CalM P w K mg base CX0 1 A.Asker "widen" [] (sp_Asker_widen K A)) (C__law_bits : SH.Cal P w K mg base CX0 3 "_law_bits" [] (sp__law_bits K A)) (C__law_bound : SH.Cal P w K mg base CX0 1 "_law_bound" [] (sp__law_bound K A)) (C__law_cell_at : SH.Cal P w K mg base CX0 1 "_law_cell_at" [] (sp__law_cell_at K A)) (C__law_each_once : SH.Cal P w K mg base CX0 2 "_law_each_once" [] (sp__law_each_once K A)) (C__law_keys : SH.Cal P w K mg base CX0 3 "_law_keys" [] (sp__law_keys K A)) (C__law_teller : SH.Cal P w K mg base CX0 1 "_law_teller" [] (sp__law_teller K A)) (C__law_told : SH.Cal P w K mg base CX0 7 "_law_told" [] (sp__law_told K A)) (C__law_whole : SH.Cal P w K mg base CX0 1 "_law_whole" [] (sp__law_whole K A)) (N_AskedRule : SH.CalC P w K mg base CX0 1 "AskedRule" A.AskedRule [] (sp_AskedRule___init__ K A)) (N_Asker : SH.CalC P w K mg base CX0 1 "Asker" A.Asker [] (sp_Asker___init__ K A)) (N_Asker_d1 : SH.CalC P w K mg base CX0 1 "Asker" A.Asker [.non] (sp_Asker___init__ K A)) : FnOk P w K mg base CX0 8 f fd ["_law_script"] (sp_law K A) := by
  refine F.ok sc_law (fun vs H Q E h => by obtain ⟨_, _, rfl, _⟩ := h; rfl) (fun cdv A' outer s H vs Q E hr h => ?_)
  obtain ⟨a, ns, rfl, ⟨hS, hlen, hTb⟩, k⟩ := h
  refine ⟨_, (pss_cons (ps_set (i := 1) sc_law.nd rfl (Or.inl rfl) (SH.pe_callF C__law_keys hr (by rfl) pass0 (pa_cons (pv 0) (pa_cons pe_int pa_nil))))
        (pss_cons (ps_setLc (i := 2) (own := [("_law_k", 14), ("_law_key", 15)]) (g := (gTup K 2 (gCons (gName 14) (gCons (gName 15) gNil)))) (tt := tYes) (by rfl) sc_law.nd rfl rfl (sw_true rfl rfl rfl (by decide +kernel)) (pi_enum (by rfl) T.z_enumerate (pa_cons (pv 1) pa_nil)) (blkOk_by (own := [("_law_k", 14), ("_law_key", 15)]) (N := ["_law_script", "_law_keys_here", "_law_row", "_law_way_here", "_law_bits_here", "_law_free", "_law_word", "_law_told_here", "_law_total", "_law_most", "_law_log", "_law_asker", "_law_again", "_law_made", "_law_k", "_law_key"]) (sc := defScope s_law) (by decide +kernel)) (fun _ _ _ _ _ => (pg_tup (by rfl) (pgs_cons (pg_name (i := 14) sc_law.nd rfl (Or.inl rfl)) (pgs_cons (pg_name (i := 15) sc_law.nd rfl (Or.inl rfl)) pgs_nil)))) (fun _ _ _ _ _ => pts_nil) (fun _ _ _ _ _ => (pe_tup (pa_cons (pv 15) (pa_cons (pv 14) pa_nil)))))
        (pss_cons (ps_set (i := 3) sc_law.nd rfl (Or.inl rfl) (pe_op SH.oMod (SH.pe_callF C__law_cell_at hr (by rfl) pass0 (pa_cons (pv 0) (pa_cons pe_int pa_nil))) pe_int))
        (pss_cons (ps_set (i := 4) sc_law.nd rfl (Or.inl rfl) (pe_lst pa_nil))
        (pss_cons (ps_if (pt_cmpR (SH.oEq hr.units) (pe_op SH.oMod (pe_op SH.oDiv (SH.pe_callF C__law_cell_at hr (by rfl) pass0 (pa_cons (pv 0) (pa_cons pe_int pa_nil))) pe_int) pe_int) pe_int (nomark _)) (pss_cons (ps_set (i := 3) sc_law.nd rfl (Or.inl rfl) (pe_op SH.oMod (pv 3) pe_int))
        (pss_one (ps_set (i := 4) sc_law.nd rfl (Or.inl rfl) (SH.pe_callF C__law_bits hr (by rfl) pass0 (pa_cons (pv 0) (pa_cons (pe_op SH.oDiv (SH.pe_callF C__law_cell_at hr (by rfl) pass0 (pa_cons (pv 0) (pa_cons pe_int pa_nil))) pe_int) pa_nil)))))) pss_nil)
        (pss_cons (ps_set (i := 5) sc_law.nd rfl (Or.inl rfl) (pe_lst pa_nil))
        (pss_cons (ps_asg (SH.pe_callF C__law_told hr (by rfl) pass0 (pa_cons (pv 3) (pa_cons (SH.pe_makeF N_Asker_d1 hr (by rfl) pass0 (pa_cons (pv 2) (pa_cons (SH.pe_makeF N_AskedRule hr (by rfl) pass0 (pa_cons (SH.pe_callF C__law_teller hr (by rfl) pass0 (pa_cons (pv 5) (pa_cons (pv 4) pa_nil))) pa_nil)) pa_nil))) pa_nil))) (pg_tup (by rfl) (pgs_cons (pg_name (i := 6) sc_law.nd rfl (Or.inl rfl)) (pgs_cons (pg_name (i := 7) sc_law.nd rfl (Or.inl rfl)) pgs_nil))))
        (pss_cons (ps_if (PW.pt (pw_or (pt_cmpR (SH.oNe hr.units) (pv 6) pe_str (nomark _)) (pw_or1 (pt_not (pt_val (SH.pe_callF C__law_bound hr (by rfl) pass0 (pa_cons (pv 3) (pa_cons (pv 5) (pa_cons (pe_callB SH.cLen (by rfl) T.z_len (by decide +kernel) (pa_cons (pv 2) pa_nil)) pa_nil))))))))) (pss_one (ps_ret pe_bl)) pss_nil)
        (pss_cons (ps_if (PW.pt (pw_and (pt_cmpR (SH.oNe hr.units) (pv 3) pe_int (nomark _)) (pw_and1 (pt_not (pt_val (SH.pe_callF C__law_each_once hr (by rfl) pass0 (pa_cons (pv 7) (pa_cons (pe_callB SH.cLen (by rfl) T.z_len (by decide +kernel) (pa_cons (pv 2) pa_nil)) pa_nil)))))))) (pss_one (ps_ret pe_bl)) pss_nil)
        (pss_cons (ps_set (i := 8) sc_law.nd rfl (Or.inl rfl) (pe_callB SH.cLen (by rfl) T.z_len (by decide +kernel) (pa_cons (pv 5) pa_nil)))
        (pss_cons (ps_set (i := 9) sc_law.nd rfl (Or.inl rfl) (pe_op SH.oMod (SH.pe_callF C__law_cell_at hr (by rfl) pass0 (pa_cons (pv 0) (pa_cons pe_int pa_nil))) (pe_op SH.oAdd (pv 8) pe_int)))
        (pss_cons (ps_set (i := 10) sc_law.nd rfl (Or.inl rfl) (pe_lst pa_nil))
        (pss_cons (ps_set (i := 11) sc_law.nd rfl (Or.inl rfl) (SH.pe_makeF N_Asker hr (by rfl) pass0 (pa_cons (pv 2) (pa_cons (SH.pe_makeF N_AskedRule hr (by rfl) pass0 (pa_cons (SH.pe_callF C__law_teller hr (by rfl) pass0 (pa_cons (pv 10) (pa_cons (pv 4) pa_nil))) pa_nil)) (pa_cons (pv 9) pa_nil)))))
        (pss_cons (ps_asg (SH.pe_callF C__law_told hr (by rfl) pass0 (pa_cons (pv 3) (pa_cons (pv 11) pa_nil))) (pg_tup (by rfl) (pgs_cons (pg_name (i := 6) sc_law.nd rfl (Or.inl rfl)) (pgs_cons (pg_name (i := 12) sc_law.nd rfl (Or.inl rfl)) pgs_nil))))
        (pss_cons (ps_if (pt_cmpR SH.oGt (pv 8) (pv 9) (nomark _)) (pss_one (ps_if (PW.pt (pw_or (pt_cmpR (SH.oNe hr.units) (pv 6) pe_str (nomark _)) (pw_or (pt_not (pt_val (SH.pe_callF C__law_whole hr (by rfl) pass0 (pa_cons (pv 12) pa_nil)))) (pw_or1 (pt_cmpR (SH.oNe hr.units) (pv 12) (pv 9) (nomark _)))))) (pss_one (ps_ret pe_bl)) pss_nil)) (pss_one (ps_if (PW.pt (pw_or (pt_cmpR (SH.oNe hr.units) (pv 6) pe_str (nomark _)) (pw_or1 (pt_cmpR (SH.oNe hr.units) (pv 12) (pv 7) (nomark _))))) (pss_one (ps_ret pe_bl)) pss_nil)))
        (pss_cons (ps_set (i := 13) sc_law.nd rfl (Or.inl rfl) (pe_callB (SH.cMin2 rfl) (by rfl) T.z_min (by decide +kernel) (pa_cons (pv 8) (pa_cons (pv 9) pa_nil))))
        (pss_cons (ps_if (PW.pt (pw_or (pt_cmpR (SH.oNe hr.units) (pv 10) (pe_slice sl_list (pv 5) po_none (po_some (pv 13))) (nomark _)) (pw_or (pt_cmpR (SH.oNe hr.units) (SH.pe_fldF T.cl_Asker T.na_Asker_asked (pv 11)) (pv 13) (nomark _)) (pw_or1 (pt_cmpR (SH.oNe hr.units) (SH.pe_methF0 (pv 11) M_Asker_answers hr pass0) (pv 10) (nomark _)))))) (pss_one (ps_ret pe_bl)) pss_nil)
        (pss_cons (ps_expr (SH.pe_methF (pv 11) M_Asker_widen hr pass0 (pa_cons (pe_op SH.oAdd (pv 8) (pe_op SH.oMul (pe_callB SH.cLen (by rfl) T.z_len (by decide +kernel) (pa_cons (pv 2) pa_nil)) (pe_callB SH.cLen (by rfl) T.z_len (by decide +kernel) (pa_cons (pv 2) pa_nil)))) pa_nil)))
        (pss_cons (ps_asg (SH.pe_callF C__law_told hr (by rfl) pass0 (pa_cons (pv 3) (pa_cons (pv 11) pa_nil))) (pg_tup (by rfl) (pgs_cons (pg_name (i := 6) sc_law.nd rfl (Or.inl rfl)) (pgs_cons (pg_name (i := 12) sc_law.nd rfl (Or.inl rfl)) pgs_nil))))
        (pss_cons (ps_if (PW.pt (pw_or (pt_cmpR (SH.oNe hr.units) (pv 6) pe_str (nomark _)) (pw_or (pt_not (pt_val (SH.pe_callF C__law_bound hr (by rfl) pass0 (pa_cons (pv 3) (pa_cons (pe_slice sl_list (pv 10) (po_some (pv 13)) po_none) (pa_cons (pe_callB SH.cLen (by rfl) T.z_len (by decide +kernel) (pa_cons (pv 2) pa_nil)) pa_nil)))))) (pw_or1 (pt_cmpR (SH.oNe hr.units) (SH.pe_fldF T.cl_Asker T.na_Asker_asked (pv 11)) (pe_callB SH.cLen (by rfl) T.z_len (by decide +kernel) (pa_cons (pv 10) pa_nil)) (nomark _)))))) (pss_one (ps_ret pe_bl)) pss_nil)
        (pss_cons (ps_if (pt_cmpR (SH.oEq hr.units) (pv 4) (pe_lst pa_nil) (nomark _)) (pss_one (ps_ret (pe_and (pe_cmpR (SH.oEq hr.units) (pv 12) (pv 7) (nomark _)) (pe_one (pe_cmpR (SH.oEq hr.units) (pe_slice sl_list (pv 10) (po_some (pv 13)) po_none) (pv 5) (nomark _)))))) pss_nil)
        (pss_one (ps_ret (SH.pe_callF C__law_each_once hr (by rfl) pass0 (pa_cons (pv 12) (pa_cons (pe_callB SH.cLen (by rfl) T.z_len (by decide +kernel) (pa_cons (pv 2) pa_nil)) pa_nil)))))))))))))))))))))))))), ?_⟩
  walk_at "begin"
  walk_at "rd"
  refine ⟨a, ns, 40, rfl, ⟨hS, hlen, by decide, by decide⟩, fun kq H1 ks hkq S1 hK hkl => ?_⟩
  have hS1 := S1.sql0 hS
  have hTb1 := tabs_stp hTb S1
  walk_at "rd"
  intro D hD
  refine lc_it (walk_enum (xs := ks.map V.int)) (fun j H' => Stp [] H1 H' ∧ ∃ row : List V, row.length = j ∧ RowP H' row (ks.take j) ∧ H' D = some (.lst row)) ⟨(Stp.refl _ _).new hD, [], rfl, ⟨rfl, fun i v e => by cases e⟩, upd_same⟩ (fun j H' _ z => z.1.sql0 (SqL.of hK)) ?_ ?_
  · rintro j x H5 H6 hj ⟨S, row, hrl, hrow, hL⟩ ⟨T0, x0, y0, rfl, hT0, rfl, hx0, hy0⟩
    cases hx0
    obtain ⟨n, hn, rfl⟩ := Option.map_eq_some_iff.mp (by rw [← List.getElem?_map]; exact hy0)
    rw [List.length_map] at hj
    walk_at "rd"
    intro t ht
    have hL' := upd_old (u := .tup [.int (j : Nat), .int n]) hL hT0
    have htD : t ≠ D := (ne_of_none hL' ht).symm
    have S5 : Stp [D] H5 (upd (upd (upd H5 T0 (.tup [.int (j : Nat), .int n])) t (.tup [.int n, .int (j : Nat)])) D (.lst (row ++ [.ref t]))) := (((Stp.refl [D] H5).new hT0).new ht).putL (by simp) (upd_old hL' ht)
    refine ⟨_, upd_old hL' ht, Nat.lt_of_le_of_lt (m := 1000) (by omega) (by decide), ((S.new hT0).new ht).putN hD, row ++ [.ref t], by simp [hrl], ?_, upd_same⟩
    rw [List.take_succ, hn]
    refine RowP.app (k := n) (hrow.stp S5) ?_
    rw [upd_ne htD, upd_same, hrl]
  rintro H2 ⟨S2, row, hrl, hrow, hR⟩
  rw [List.length_map] at hrl hrow
  rw [List.take_of_length_le (Nat.le_refl _)] at hrow
  have hS2 := S2.sql0 hS1
  have hTb2 := tabs_stp hTb1 S2
  walk_at "rd"
  refine ⟨a, ns, 2, rfl, hS2, fun c2 => ?_⟩
  walk_at "rd"
  intro b0 hb0
  have S3 := (Stp.refl [] H2).new (o := .lst []) hb0
  have hb3 := upd_same (H := H2) (a := b0) (o := .lst [])
  have hS3 := S3.sql0 hS2
  have hR3 := S3.keep0 hR
  have hrow3 := hrow.stp S3
  have hTb3 := tabs_stp hTb2 S3
  generalize upd H2 b0 (.lst []) = H3 at S3 hb3 hS3 hR3 hrow3 hTb3 ⊢
  clear S1 S2 S3 hS hS1 hS2 hK hR hrow hTb hTb1 hTb2 hb0
  have w0 := Int.emod_nonneg c2 (show (4 : Int) ≠ 0 by decide)
  have w1 := Int.emod_lt_of_pos c2 (show (0 : Int) < 4 by decide)
  generalize c2 % 4 = wv at w0 w1 ⊢
  walk_at "ri"
  refine r_J (fun σ' H' => Stp [] H3 H' ∧ ∃ (w : Nat) (bq : Addr) (bits : List Int), w ≤ 3 ∧ (bits ≠ [] → w ≤ 1) ∧ H' bq = some (.lst (bits.map V.int)) ∧ σ' = [some (.ref a), some (.ref kq), some (.ref D), some (.int w), some (.ref bq), none, none, none, none, none, none, none, none, none, none, none]) ?_ fun N hN => ?_
  rotate_left
  · walk_at "rd"
    refine ⟨a, ns, 2, rfl, hS3, fun c2' => ?_⟩
    walk_at "rd"
    refine r_w (fun hc => ?_) fun hc => ?_
    · walk_at "rd"
      refine ⟨a, ns, 2, rfl, hS3, fun c2'' => ?_⟩
      walk_at "rd"
      refine ⟨a, ns, _, rfl, ⟨hS3, hlen⟩, fun q H4 bs hq S4 hq4 => ?_⟩
      walk_at "rd"
      have m0 := Int.emod_nonneg wv (show (2 : Int) ≠ 0 by decide)
      have m1 := Int.emod_lt_of_pos wv (show (0 : Int) < 2 by decide)
      exact hN _ _ ⟨S4, (wv % 2).toNat, q, bs, by omega, fun _ => by omega, hq4, by rw [show (((wv % 2).toNat : Nat) : Int) = wv % 2 by omega]⟩
    · walk_at "rd"
      exact hN _ _ ⟨.refl _ _, wv.toNat, b0, [], by omega, fun z => (z rfl).elim, hb3, by rw [show ((wv.toNat : Nat) : Int) = wv by omega]⟩
  rintro σ' H4 ⟨S4, w, bq, bits, hw, hwb, hbq, rfl⟩
  have hS4 := S4.sql0 hS3
  have hR4 := S4.keep0 hR3
  have hrow4 := hrow3.stp S4
  have hTb4 := tabs_stp hTb3 S4
  walk_at "rd"
  intro tl htl
  have S6 : Stp [] H4 (upd H4 tl (.lst [])) := (Stp.refl _ _).new htl
  have hS6 := S6.sql0 hS4
  have hbq6 := S6.keep0 hbq
  have hR6 := S6.keep0 hR4
  have hrow6 := hrow4.stp S6
  have hTb6 := tabs_stp hTb4 S6
  have ntb : tl ≠ bq := (ne_of_none hbq htl).symm
  have ntr : tl ≠ D := (ne_of_none hR4 htl).symm
  have htl6 := upd_same (H := H4) (a := tl) (o := .lst [])
  walk_at "rq"
  refine askmake (m := none) (us := []) (bits := bits) rfl rfl rfl hbq6 ntb hR6 hrow6 hTb6 htl6 isl_nil (by omega) (by simp) (fun H Q h => h) rfl fun H8 I hM => ?_
  have hA := hM.at_
  have hS8 := sql_extN hM.ext hS6
  have hR8 := ext_lst hM.ext hR6
  have hrow8 := hrow6.ext hM.ext
  have hbq8 := ext_lst hM.ext hbq6
  have hRM := hM.far _ _ hR6 ntr.symm
  have hbM := hM.far _ _ hbq6 ntb.symm
  have hor := hM.lt
  have hn := hM.n
  have hpre := hM.e3
  have htlI := hM.e1
  have em := hM.e5
  have hTb8 := hM.tab
  have hSS : ∀ H', Stp I.M H8 H' → SqL K H' a (ns.map V.int) := by
    rcases sql_or hS4 with ⟨ax5, g1, g2 | g2⟩
    · intro H' S
      obtain ⟨o, ho⟩ := Option.ne_none_iff_exists'.mp (g1 _ g2)
      exact S.sql hS8 (hM.far a o (S6.keep0 ho) (ne_of_none ho htl))
    · exact fun H' _ => g2 H'
  clear S6 hM hS6 hbq6 hR6 hrow6 hTb6 ntb ntr htl6 htl hS4 hR4 hrow4 hTb4 hbq S4 hS3 hR3 hrow3 hTb3 hb3
  walk_at "rd"
  refine ⟨I, [], w, rfl, ⟨hA, hw, by rw [hn]; omega, by rw [hpre]; simp⟩, fun H9 t q es out hq hT hW S9 hA9 hO ht => ?_, fun H9 t es es' _ _ _ hm => by rw [em] at hm; cases hm⟩
  rw [List.nil_append] at hA9
  have hS9 := hSS _ S9
  have hR9 := S9.keep hR8 hRM
  have hrow9 := hrow8.stp S9
  have hbq9 := S9.keep hbq8 hbM
  have hTb9 := tabs_ask hTb8 hA S9
  obtain ⟨fvs, hf9, hfv9⟩ := hA9.ht
  rw [hpre, List.nil_append] at hfv9
  rw [htlI] at hf9
  have hfl := isl_len hfv9
  have hbnd := hW.bnd
  have hlen39 := hW.len
  rw [hn] at hbnd hlen39 hW
  have hor9 : I.or = fun log p q => bitY bits log.length (decide (getE ks p < getE ks q)) := by rw [hor]; simp
  rw [hor9] at hT
  clear hA hS8 hR8 hrow8 hbq8 hRM hbM hor hor9 hTb8 hSS S9 hA9 hq
  walk_at "rd"
  refine v_neS ?_
  rw [decide_eq_true rfl]
  refine ⟨_, rfl, ?_⟩
  walk_at "rd"
  rw [hrow9.1]
  have hk80 : ks.length * ks.length ≤ 80 * 80 := Nat.mul_le_mul (by omega) (by omega)
  refine ⟨w, tl, ks.length, fvs, es, rfl, ⟨SqL.of hf9, hfv9, by omega, by omega, hbnd⟩, fun H10 S10 => ?_⟩
  have hS10 := S10.sql0 hS9
  have hR10 := S10.keep0 hR9
  have hrow10 := hrow9.stp S10
  have hbq10 := S10.keep0 hbq9
  have hTb10 := tabs_stp hTb9 S10
  have hf10 := S10.keep0 hf9
  have hfv10 := isl_stp S10 hfv9
  have hO10 := hO.stp S10 (by simp)
  clear S10 hS9 hR9 hbq9 hTb9 hf9 hfv9 hO ht
  refine ⟨_, rfl, ?_⟩
  walk_at "ri"
  refine r_J (fun σ' H' => Stp [] H10 H' ∧ σ' = [some (.ref a), some (.ref kq), some (.ref D), some (.int w), some (.ref bq), some (.ref tl), some (.str "told"), some (.ref q), none, none, none, none, none, none, none, none]) ?_ fun N hN => ?_
  rotate_left
  · walk_at "rd"
    by_cases hw3 : w = 3
    · rw [if_neg (by simp [hw3]), if_neg (by simp)]
      walk_at "rd"
      exact hN _ _ ⟨.refl _ _, rfl⟩
    · rw [if_pos (by simp; omega)]
      walk_at "rd"
      rw [hrow10.1]
      obtain ⟨res, rfl, hperm⟩ := hW.is_paper hw3
      have hpl := hperm.length_eq
      rw [List.length_range] at hpl
      rw [← hpl]
      refine ⟨q, res, rfl, ⟨hO10, by omega, by rw [hpl]; exact hperm⟩, fun H11 S11 => ?_⟩
      walk_at "rd"
      exact hN _ _ ⟨S11, rfl⟩
  rintro σ' H11 ⟨S11, rfl⟩
  dsimp only
  have hS11 := S11.sql0 hS10
  have hR11 := S11.keep0 hR10
  have hrow11 := hrow10.stp S11
  have hbq11 := S11.keep0 hbq10
  have hTb11 := tabs_stp hTb10 S11
  have hf11 := S11.keep0 hf10
  have hfv11 := isl_stp S11 hfv10
  have hO11 := hO10.stp S11 (by simp)
  clear S11 hS10 hR10 hrow10 hbq10 hTb10 hf10 hfv10 hO10 hrow9
  walk_at "rd"
  refine ⟨a, ns, 3, rfl, hS11, fun c3 => ?_⟩
  have f0 := Int.emod_nonneg c3 (show ((es.length : Int) + 3) ≠ 0 by omega)
  walk_at "rd"
  rw [hfl]
  obtain ⟨most, hmost⟩ : ∃ m : Nat, c3 % ((es.length : Int) + 3) = m := ⟨(c3 % ((es.length : Int) + 3)).toNat, by omega⟩
  rw [hmost]
  clear f0 hmost
  intro t2 ht2
  have S12 := (Stp.refl [] H11).new (o := .lst []) ht2
  have hR12 := S12.keep0 hR11
  have hrow12 := hrow11.stp S12
  have hbq12 := S12.keep0 hbq11
  have hTb12 := tabs_stp hTb11 S12
  have hf12 := S12.keep0 hf11
  have hfv12 := isl_stp S12 hfv11
  have hO12 := hO11.stp S12 (by simp)
  have h2t := upd_same (H := H11) (a := t2) (o := .lst [])
  have ntb2 : t2 ≠ bq := (ne_of_none hbq11 ht2).symm
  have ntr2 : D ≠ t2 := ne_of_none hR11 ht2
  have ntf2 : tl ≠ t2 := ne_of_none hf11 ht2
  have ntq2 : q ≠ t2 := by
    intro z
    rw [z] at hO11
    cases out with
    | paper res => rw [show H11 t2 = some _ from hO11] at ht2; cases ht2
    | trips ts => obtain ⟨_, h1, _⟩ := hO11; rw [h1] at ht2; cases ht2
  have hqO : ∃ o, upd H11 t2 (.lst []) q = some o := by
    cases out with
    | paper res => exact ⟨_, hO12⟩
    | trips ts => obtain ⟨_, h1, _⟩ := hO12; exact ⟨_, h1⟩
  walk_at "rq"
  refine askmake (m := some most) (us := [.int most]) (bits := bits) rfl rfl rfl hbq12 ntb2 hR12 hrow12 hTb12 h2t isl_nil (by have := hrow12.1; omega) (by simp) (fun H Q h => by walk_at "rd"; exact h) rfl fun H13 I2 hM2 => ?_
  have hA13 := hM2.at_
  have hR13 := ext_lst hM2.ext hR12
  have hrow13 := hrow12.ext hM2.ext
  have hf13 := ext_lst hM2.ext hf12
  have hfv13 : IsL K H13 fvs es := isl_extN hM2.ext hfv12
  have hO13 : OutAt K H13 q out := by
    cases out with
    | paper res => exact ext_lst hM2.ext hO12
    | trips ts => obtain ⟨us, h1, h2⟩ := hO12; exact ⟨us, ext_lst hM2.ext h1, isl_extN hM2.ext h2⟩
  have hRM := hM2.far _ _ hR12 ntr2
  have hfM := hM2.far _ _ hf12 ntf2
  have hqM : q ∉ I2.M := by obtain ⟨o, ho⟩ := hqO; exact hM2.far _ _ ho ntq2
  have hb13 := ext_lst hM2.ext hbq12
  have hbM := hM2.far _ _ hbq12 ntb2.symm
  have hn2 := hM2.n
  have hpre2 := hM2.e3
  have htl2 := hM2.e1
  have em2 := hM2.e5
  have hor2 : I2.or = fun log p q => bitY bits log.length (decide (getE ks p < getE ks q)) := by rw [hM2.lt]; simp
  rw [← hor2] at hT
  clear hM2 S12 hR12 hrow12 hbq12 hTb12 hf12 hfv12 hO12 h2t ntb2 ntr2 ntf2 ntq2 hqO hR11 hbq11 hTb11 hf11 hfv11 hO11 ht2 hS11 hrow11
  have hdet : w = 3 → ∃ lt, I2.or = fun _ => lt := fun h3 => by
    have hb0 : bits = [] := Classical.byContradiction fun z => by have := hwb z; omega
    exact ⟨fun p q => decide (getE ks p < getE ks q), by rw [hor2, hb0]; rfl⟩
  walk_at "rd"
  refine told2 hA13 hw (by rw [hn2]; omega) (by rw [hpre2]; simp) (es0 := es) (out0 := out) (m := most) (by rw [hn2]; exact hW) hT hdet (by rw [em2]; simp) fun H14 t14 es1 v14 word S14 hA14 hes1 ht14 hcase => ?_
  rw [List.nil_append] at hA14
  have hR14 := S14.keep hR13 hRM
  have hrow14 := hrow13.stp S14
  have hf14 := S14.keep hf13 hfM
  have hfv14 := isl_stpM S14 hfv13
  have hO14 := hO13.stp S14 hqM
  have hb14 := S14.keep hb13 hbM
  clear S14 hR13 hrow13 hf13 hfv13 hO13 hb13 hA13
  have hrl14 := hrow14.1
  walk_at "ri"
  refine r_J (fun σ' H' => Stp [] H14 H' ∧ σ' = [some (.ref a), some (.ref kq), some (.ref D), some (.int w), some (.ref bq), some (.ref tl), some (.str word), some (.ref q), some (.int es.length), some (.int most), some (.ref t2), some (.ref I2.s), some v14, none, none, none]) ?_ fun N hN => ?_
  rotate_left
  · walk_at "rd"
    rcases hcase with ⟨hle, rfl, q2, rfl, _, hO2⟩ | ⟨hlt, rfl, rfl⟩
    · rw [if_neg (by simp; omega)]
      walk_at "rd"
      refine v_neS ?_
      rw [decide_eq_true rfl]
      refine ⟨_, rfl, ?_⟩
      walk_at "rd"
      refine hO2.neqv hO14 ?_
      refine ⟨_, rfl, ?_⟩
      walk_at "rd"
      exact hN _ _ ⟨.refl _ _, rfl⟩
    · rw [if_pos (by simp; omega)]
      walk_at "rd"
      refine v_neS ?_
      rw [decide_eq_true rfl]
      refine ⟨_, rfl, ?_⟩
      walk_at "rd"
      refine ⟨_, rfl, ?_⟩
      refine ⟨_, rfl, ?_⟩
      walk_at "rd"
      rw [if_neg (by simp)]
      walk_at "rd"
      exact hN _ _ ⟨.refl _ _, rfl⟩
  rintro σ' H15 ⟨S15, rfl⟩
  dsimp only
  have hR15 := S15.keep0 hR14
  have hrow15 := hrow14.stp S15
  have hf15 := S15.keep0 hf14
  have hfv15 := isl_stp S15 hfv14
  have hO15 := hO14.stp S15 (by simp)
  have hA15 := hA14.stp S15 (by simp)
  have hb15 := S15.keep0 hb14
  clear S15 hR14 hrow14 hf14 hfv14 hO14 hA14 ht14 hb14
  walk_at "rd"
  intro ql hql
  obtain ⟨made, hmd, hmade⟩ : ∃ made : Nat, made = min es.length most ∧ (if (most : Int) < (es.length : Int) then (most : Int) else (es.length : Int)) = (made : Nat) := ⟨min es.length most, rfl, by split <;> omega⟩
  rw [hmade]
  have e1l : es1 = es.take made := by
    rw [hes1, hmd]
    by_cases c : most ≤ es.length
    · rw [show min es.length most = most by omega]
    · rw [List.take_of_length_le (by omega), List.take_of_length_le (by omega)]
  have l1 : es1.length = made := by rw [e1l, List.length_take]; omega
  have hcv : cutV fvs none (some (made : Int)) = fvs.take made := by
    have := cut_map (fun v : V => v) fvs none (some (made : Int))
    rw [List.map_id', List.map_id', cutL_upto] at this
    exact this
  rw [hcv]
  have S16 := (Stp.refl [] H15).new (o := .lst (fvs.take made)) hql
  have hql16 := upd_same (H := H15) (a := ql) (o := .lst (fvs.take made))
  have hR16 := S16.keep0 hR15
  have hrow16 := hrow15.stp S16
  have hf16 := S16.keep0 hf15
  have hfv16 := isl_stp S16 hfv15
  have hO16 := hO15.stp S16 (by simp)
  have hA16 := hA15.stp S16 (by simp)
  have hb16 := S16.keep0 hb15
  generalize upd H15 ql (.lst (fvs.take made)) = H16 at S16 hql16 hR16 hrow16 hf16 hfv16 hO16 hA16 hb16 ⊢
  clear S16 hR15 hrow15 hf15 hfv15 hO15 hA15 hb15 hql hcv hmade
  obtain ⟨tvs, ht16, htv16⟩ := hA16.ht
  rw [hpre2, List.nil_append] at htv16
  rw [htl2] at ht16
  have htvl := isl_len htv16
  have hs16 := hA16.hs
  unfold AskM at hs16
  refine v_neE (is_lst (SqL.of ht16) htv16) (is_lst (SqL.of hql16) (isl_take (n := made) hfv16)) ?_
  rw [decide_eq_true e1l]
  refine ⟨_, rfl, ?_⟩
  walk_at "rd"
  rw [if_neg (by simp; omega)]
  walk_at "rd"
  refine ⟨I2, es1, rfl, hA16, fun qa evs hqa hIa => ?_⟩
  have S17 := (Stp.refl [] H16).new (o := .lst evs) hqa
  have hR17 := S17.keep0 hR16
  have hrow17 := hrow16.stp S17
  have hf17 := S17.keep0 hf16
  have hfv17 := isl_stp S17 hfv16
  have hO17 := hO16.stp S17 (by simp)
  have hA17 := hA16.stp S17 (by simp)
  have hb17 := S17.keep0 hb16
  have ht17 := S17.keep0 ht16
  have htv17 := isl_stp S17 htv16
  have hqa17 := upd_same (H := H16) (a := qa) (o := .lst evs)
  generalize upd H16 qa (.lst evs) = H17 at S17 hIa hR17 hrow17 hf17 hfv17 hO17 hA17 hb17 ht17 htv17 hqa17 ⊢
  clear S17 hR16 hrow16 hf16 hfv16 hO16 hA16 hb16 ht16 htv16 hqa hql16 hs16
  walk_at "rd"
  refine v_neE (is_lst (SqL.of hqa17) hIa) (is_lst (SqL.of ht17) htv17) ?_
  rw [decide_eq_true rfl]
  refine ⟨_, rfl, ?_⟩
  have hrl17 := hrow17.1
  clear hIa hqa17 htv17 ht17
  have hs17 := hA17.hs
  unfold AskM at hs17
  walk_at "rd"
  rw [hrl17, show (es.length : Int) + (ks.length : Int) * (ks.length : Int) = ((es.length + ks.length * ks.length : Nat) : Int) by rw [Int.natCast_add, Int.natCast_mul]]
  refine ⟨I2, es1, es.length + ks.length * ks.length, rfl, hA17, fun H18 S18 hA18 => ?_⟩
  have ms18 : ∀ m ∈ [I2.s], m ∈ I2.M := fun m hm => by rw [List.mem_singleton] at hm; subst hm; simp [Ask.M]
  have S18' : Stp I2.M H17 H18 := S18.mono ms18
  have hR18 := S18'.keep hR17 hRM
  have hrow18 := hrow17.stp S18'
  have hf18 := S18'.keep hf17 hfM
  have hfv18 := isl_stpM S18' hfv17
  have hO18 := hO17.stp S18' hqM
  have hb18 := S18'.keep hb17 hbM
  have em3 : (I2.wide (es.length + ks.length * ks.length)).m = some (most + (es.length + ks.length * ks.length)) := wide_some em2
  generalize hI3 : I2.wide (es.length + ks.length * ks.length) = I3 at hA18 em3
  have hs3 : I3.s = I2.s := by rw [← hI3]; rfl
  have hM3 : I3.M = I2.M := by rw [← hI3]; rfl
  have hn3 : I3.n = ks.length := by rw [← hI3]; exact hn2
  have hp3 : I3.pre = [] := by rw [← hI3]; exact hpre2
  have ht3 : I3.tl = t2 := by rw [← hI3]; exact htl2
  have ho3 : I3.or = I2.or := by rw [← hI3]; rfl
  rw [← hM3] at hRM hfM hqM hbM
  rw [← ho3] at hdet hT hor2
  rw [← hs3]
  clear S18' ms18 S18 hR17 hrow17 hf17 hfv17 hO17 hA17 hb17 hs17 hI3 hrl17
  obtain ⟨es3, out3, hW3, hT3, h3⟩ : ∃ es3 out3, WayR ks.length w es3 out3 ∧ Told I3.or es1 es3 ∧ (bits = [] → es3 = es ∧ out3 = out) := by
    by_cases hb0 : bits = []
    · refine ⟨es, out, hW, ?_, fun _ => ⟨rfl, rfl⟩⟩
      have e : I3.or = fun _ p q => decide (getE ks p < getE ks q) := by rw [hor2, hb0]; rfl
      rw [e] at hT ⊢
      exact hT.const
    · obtain ⟨es3, out3, h1, h2⟩ := WayR.total I3.or ks.length w es1 hw
      exact ⟨es3, out3, h1, h2, fun z => (hb0 z).elim⟩
  have hlen3 := hW3.len
  have hrl18 := hrow18.1
  walk_at "rd"
  refine told2 hA18 hw (by rw [hn3]; omega) (by rw [hp3]; simp; omega) (es0 := es3) (out0 := out3) (m := most + (es.length + ks.length * ks.length) - es1.length) (by rw [hn3]; exact hW3) hT3 hdet (by rw [em3]; congr 1; omega) fun H19 t19 es4 v19 word3 S19 hA19 hes4 ht19 hcase => ?_
  rcases hcase with ⟨_, rfl, q3, rfl, _, hO3⟩ | ⟨hlt, _, _⟩
  rotate_left
  · omega
  obtain rfl : es4 = es3 := by rw [hes4, List.take_of_length_le (by omega)]
  have hrow19 := hrow18.stp S19
  have hR19 := S19.keep hR18 hRM
  have hf19 := S19.keep hf18 hfM
  have hfv19 := isl_stpM S19 hfv18
  have hO19 := hO18.stp S19 hqM
  have hb19 := S19.keep hb18 hbM
  obtain ⟨tvs, ht19', htv19⟩ := hA19.ht
  rw [hp3, List.nil_append] at htv19
  rw [ht3] at ht19'
  have htvl := isl_len htv19
  rw [List.length_append] at htvl
  have hs19 := hA19.hs
  unfold AskM at hs19
  clear hR18 hrow18 hf18 hfv18 hO18 hA18 hb18 S19
  walk_at "rd"
  refine v_neS ?_
  rw [decide_eq_true rfl]
  refine ⟨_, rfl, ?_⟩
  walk_at "rd"
  intro qx hqx
  have hcv : cutV tvs (some (made : Int)) none = tvs.drop made := by
    have := cut_map (fun v : V => v) tvs (some (made : Int)) none
    rw [List.map_id', List.map_id', cutL_from] at this
    exact this
  rw [hcv]
  have edr : (es1 ++ es4).drop made = es4 := by rw [← l1, List.drop_left]
  have S20 := (Stp.refl [] H19).new (o := .lst (tvs.drop made)) hqx
  have hqx20 := upd_same (H := H19) (a := qx) (o := .lst (tvs.drop made))
  have hqi20 : IsL K (upd H19 qx (.lst (tvs.drop made))) (tvs.drop made) es4 := by
    have := isl_drop (n := made) (isl_stp S20 htv19)
    rw [edr] at this
    exact this
  have hR20 := S20.keep0 hR19
  have hf20 := S20.keep0 hf19
  have hfv20 := isl_stp S20 hfv19
  have hO20 := hO19.stp S20 (by simp)
  have hO3' := hO3.stp S20 (by simp)
  have hb20 := S20.keep0 hb19
  have ht20 := S20.keep0 ht19'
  have htv20 := isl_stp S20 htv19
  have hs20 := S20.keep0 hs19
  have hrl20 := hrow19.1
  generalize upd H19 qx (.lst (tvs.drop made)) = H20 at S20 hqx20 hqi20 hR20 hf20 hfv20 hO20 hO3' hb20 ht20 htv20 hs20 ⊢
  clear S20 hR19 hrow19 hf19 hfv19 hO19 hO3 hA19 hb19 hqx hcv ht19' htv19 hs19 ht19
  walk_at "rd"
  rw [hrl20]
  refine ⟨w, qx, ks.length, _, es4, rfl, ⟨SqL.of hqx20, hqi20, by omega, by omega, hW3.bnd⟩, fun H21 S21 => ?_⟩
  have hf21 := S21.keep0 hf20
  have hfv21 := isl_stp S21 hfv20
  have hR21 := S21.keep0 hR20
  have hO21 := hO20.stp S21 (by simp)
  have hO31 := hO3'.stp S21 (by simp)
  have hb21 := S21.keep0 hb20
  have ht21 := S21.keep0 ht20
  have htv21 := isl_stp S21 htv20
  have hs21 := S21.keep0 hs20
  rw [List.length_append] at hs21
  clear S21 hf20 hfv20 hR20 hO20 hO3' hb20 ht20 htv20 hs20 hqx20 hqi20
  refine ⟨_, rfl, ?_⟩
  walk_at "rd"
  rw [if_neg (by simp; omega)]
  walk_at "rd"
  intro z hz
  have S22 := (Stp.refl [] H21).new (o := .lst []) hz
  have hz22 := upd_same (H := H21) (a := z) (o := .lst [])
  have hf22 := S22.keep0 hf21
  have hfv22 := isl_stp S22 hfv21
  have hR22 := S22.keep0 hR21
  have hO22 := hO21.stp S22 (by simp)
  have hO32 := hO31.stp S22 (by simp)
  have hb22 := S22.keep0 hb21
  have ht22 := S22.keep0 ht21
  have htv22 := isl_stp S22 htv21
  generalize upd H21 z (.lst []) = H22 at S22 hz22 hf22 hfv22 hR22 hO22 hO32 hb22 ht22 htv22 ⊢
  clear S22 hf21 hfv21 hR21 hO21 hO31 hb21 ht21 htv21 hs21 hz
  refine v_eqE (α := List Int) (x := bits) (y := []) (is_lst (SqL.of hb22) isl_ints) (is_lst (SqL.of hz22) isl_nil) ?_
  by_cases hb0 : bits = []
  · rw [@decide_eq_true _ (Enc.dec _ _) hb0]
    obtain ⟨rfl, rfl⟩ := h3 hb0
    walk_at "rd"
    refine hO32.eqv hO22 ?_
    refine ⟨_, rfl, ?_⟩
    rw [if_pos rfl]
    walk_at "rd"
    intro qy hqy
    have hcv : cutV tvs (some (made : Int)) none = tvs.drop made := by
      have := cut_map (fun v : V => v) tvs (some (made : Int)) none
      rw [List.map_id', List.map_id', cutL_from] at this
      exact this
    rw [hcv]
    have S23 := (Stp.refl [] H22).new (o := .lst (tvs.drop made)) hqy
    have hq23 := upd_same (H := H22) (a := qy) (o := .lst (tvs.drop made))
    have hi23 : IsL K (upd H22 qy (.lst (tvs.drop made))) (tvs.drop made) es4 := by
      have := isl_drop (n := made) (isl_stp S23 htv22)
      rw [edr] at this
      exact this
    walk_at "rd"
    refine v_eqE (is_lst (SqL.of hq23) hi23) (is_lst (SqL.of (S23.keep0 hf22)) (isl_stp S23 hfv22)) ?_
    rw [decide_eq_true rfl]
    exact k _
  · rw [@decide_eq_false _ (Enc.dec _ _) hb0]
    walk_at "rd"
    rw [hrl20]
    obtain ⟨res, rfl, hperm⟩ := hW3.is_paper (fun z => by have := hwb hb0; omega)
    have hpl := hperm.length_eq
    rw [List.length_range] at hpl
    rw [← hpl]
    refine ⟨q3, res, rfl, ⟨hO32, by omega, by rw [hpl]; exact hperm⟩, fun H23 S23 => ?_⟩
    walk_at "rd"
    exact k _
theorem all_mk {l : PySem.W.OpenLaw} {w : World} {K : PySem.W.Frag} {h : Heap} {mg : Str → Option Value} {fa : Addr} (X : K.In h) (G : h.Ns mainGlobals mg) (hfa : mg "law" = some (.ref fa))
    {f1 f2 f3 f4 f5 f6 f7 f8 f9 f10 f11 f12 f13 f14 f15 f16 f17 f18 f19 f20 f21 f22 f23 f24 f25 f26 f27 f28 c_HallError c_TooFar c_Spent c_Asker c_Rule c_AskedRule : Addr} {od1 an1 od2 an2 od3 an3 od4 an4 od5 an5 od6 an6 od7 an7 od8 an8 od9 an9 od10 an10 od11 an11 od12 an12 od13 an13 od14 an14 od15 an15 od16 an16 od17 an17 od18 an18 od19 an19 od20 an20 od21 an21 od22 an22 od23 an23 od24 an24 od25 an25 od26 an26 od27 an27 od28 an28 : Option Addr} {sl1 sl2 sl3 sl4 sl5 sl6 sl7 sl8 sl9 sl10 sl11 sl12 sl13 sl14 sl15 sl16 sl17 sl18 sl19 sl20 sl21 sl22 sl23 sl24 sl25 sl26 sl27 sl28 : Array (Option Value)} {oc1 kV1 dc1 pm1 ct1 oc2 kV2 dc2 pm2 cd2 ct2 oc3 kV3 dc3 pm3 cd3 ct3 oc4 kV4 dc4 pm4 cd4 ct4 oc5 kV5 dc5 pm5 cd5 ct5 oc6 kV6 dc6 pm6 cd6 ct6 oc7 kV7 dc7 pm7 cd7 ct7 oc8 kV8 dc8 pm8 cd8 ct8 oc9 kV9 dc9 pm9 cd9 ct9 oc10 kV10 dc10 pm10 cd10 ct10 oc11 kV11 dc11 pm11 cd11 ct11 oc12 kV12 dc12 pm12 cd12 ct12 oc13 kV13 dc13 pm13 cd13 ct13 oc14 kV14 dc14 pm14 cd14 ct14 oc15 kV15 dc15 pm15 cd15 ct15 oc16 kV16 dc16 pm16 cd16 ct16 oc17 kV17 dc17 pm17 cd17 ct17 oc18 kV18 dc18 pm18 cd18 ct18 oc19 kV19 dc19 pm19 cd19 ct19 oc20 kV20 dc20 pm20 cd20 ct20 oc21 kV21 dc21 pm21 cd21 ct21 oc22 kV22 dc22 pm22 cd22 ct22 oc23 kV23 dc23 pm23 cd23 ct23 oc24 kV24 dc24 pm24 cd24 ct24 oc25 kV25 dc25 pm25 cd25 ct25 oc26 kV26 dc26 pm26 cd26 ct26 oc27 kV27 dc27 pm27 cd27 ct27 oc28 kV28 dc28 pm28 cd28 ct28 : Value} {nm_Spent q_Spent : Str} {N_Spent : Addr} {bs_Spent : List Value} {sn_Spent : List Str} {su_Spent : List Value} {ab_Spent : Bool} {co_Spent : Option Bool} {dd_Spent : Option Addr} {m0_Spent m1_Spent m2_Spent m3_Spent m5_Spent : Option Value} {cc1 : Addr} {oK1 : Value} {uK1 : Option Addr} {vs1 : Array Value} {sK1 : Array (Option Value)} {P1 : Addr} {dT8 : Addr} {oT8 : Value} {oU8 : Option Addr} {tsl8 : Array (Option Value)} {nT8 : Nat} {dT12 : Addr} {oT12 : Value} {oU12 : Option Addr} {tsl12 : Array (Option Value)} {nT12 : Nat}
    (aC_HallError : PySem.W.nsIn K mainGlobals "HallError" = some (some (.ref c_HallError)))
    (aC_TooFar : PySem.W.nsIn K mainGlobals "TooFar" = some (some (.ref c_TooFar)))
    (aC_Spent : PySem.W.nsIn K mainGlobals "Spent" = some (some (.ref c_Spent)))
    (xL_Spent : K.lookup c_Spent = some (excClassObj nm_Spent q_Spent c_Spent N_Spent bs_Spent [.ref c_HallError, .type "ValueError", .type "Exception", .type "BaseException", .type "object"] true sn_Spent su_Spent ab_Spent co_Spent dd_Spent m0_Spent m1_Spent m2_Spent m3_Spent m5_Spent "ValueError.__new__"))
    (sa_Spent : PySem.W.findIn K (.ref c_Spent) "__setattr__" = some (some (.builtin "object.__setattr__")))
    (in_Spent : PySem.W.findIn K (.ref c_Spent) "__init__" = some (some (.ref f2)))
    (tI_Spent : PySem.W.typeIn K (.ref f2) = some (.type "function"))
    (na_Spent_asked : PySem.W.findIn K (.ref c_Spent) "asked" = some none)
    (kp_Spent : PySem.W.keepIn K (.ref c_Spent) = true)
    (sb_Spent : PySem.W.subIn K (.ref c_Spent) (.type "BaseException") = some true)
    (ty_Spent : PySem.W.typeIn K (.ref c_Spent) = some (.type "type"))
    (e0_Spent : PySem.W.findIn K (.ref c_Spent) "__getattribute__" = some (some (.builtin "BaseException.__getattribute__")))
    (e1_Spent : PySem.W.findIn K (.ref c_Spent) "__getattr__" = some none)
    (e2_Spent : PySem.W.subIn K (.ref c_Spent) (.type "BaseException") = some true)
    (e3_Spent : PySem.W.hasDictIn K c_Spent = true)
    (e4_Spent : PySem.W.findIn K (.ref c_Spent) "__class__" = some (some (.builtin "object.__class__")))
    (e5_Spent : PySem.W.specialIn K (.builtin "object.__class__") "__get__" = some (some (.builtin "getset_descriptor.__get__")))
    (e6_Spent : PySem.W.takesIn K (.builtin "object.__class__") = some true)
    (e7_Spent : PySem.W.mroIn K c_Spent (.type "object") = some true)
    (aC_Asker : PySem.W.nsIn K mainGlobals "Asker" = some (some (.ref c_Asker)))
    (pg_Asker : PySem.W.plainGet K c_Asker Str.empty = true)
    (hd_Asker : PySem.W.hasDictIn K c_Asker = true)
    (po_Asker : PySem.W.plainOver K c_Asker = true)
    (sa_Asker : PySem.W.findIn K (.ref c_Asker) "__setattr__" = some (some (.builtin "object.__setattr__")))
    (mk_Asker : PySem.W.makesIn K c_Asker = true)
    (kc_Asker : PySem.W.keepIn K (.ref c_Asker) = true)
    (na_Asker_row : PySem.W.findIn K (.ref c_Asker) "row" = some none)
    (na_Asker_rule : PySem.W.findIn K (.ref c_Asker) "rule" = some none)
    (na_Asker_most : PySem.W.findIn K (.ref c_Asker) "most" = some none)
    (na_Asker_asked : PySem.W.findIn K (.ref c_Asker) "asked" = some none)
    (na_Asker_log : PySem.W.findIn K (.ref c_Asker) "log" = some none)
    (aC_Rule : PySem.W.nsIn K mainGlobals "Rule" = some (some (.ref c_Rule)))
    (pg_Rule : PySem.W.plainGet K c_Rule Str.empty = true)
    (hd_Rule : PySem.W.hasDictIn K c_Rule = true)
    (po_Rule : PySem.W.plainOver K c_Rule = true)
    (sa_Rule : PySem.W.findIn K (.ref c_Rule) "__setattr__" = some (some (.builtin "object.__setattr__")))
    (mk_Rule : PySem.W.makesIn K c_Rule = true)
    (kc_Rule : PySem.W.keepIn K (.ref c_Rule) = true)
    (aC_AskedRule : PySem.W.nsIn K mainGlobals "AskedRule" = some (some (.ref c_AskedRule)))
    (pg_AskedRule : PySem.W.plainGet K c_AskedRule Str.empty = true)
    (hd_AskedRule : PySem.W.hasDictIn K c_AskedRule = true)
    (po_AskedRule : PySem.W.plainOver K c_AskedRule = true)
    (sa_AskedRule : PySem.W.findIn K (.ref c_AskedRule) "__setattr__" = some (some (.builtin "object.__setattr__")))
    (mk_AskedRule : PySem.W.makesIn K c_AskedRule = true)
    (kc_AskedRule : PySem.W.keepIn K (.ref c_AskedRule) = true)
    (na_AskedRule_teller : PySem.W.findIn K (.ref c_AskedRule) "teller" = some none)
    (a1 : PySem.W.nsIn K mainGlobals "_law_teller" = some (some (.ref f1)))
    (l1 : K.lookup f1 = some ⟨oc1, od1, .func (PySem.W.fnOf "_law_teller" "_law_teller" (defArgs s__law_teller) (defBody s__law_teller) (defScope s__law_teller) .none kV1 dc1 pm1 an1 (.ref cc1) ct1), sl1⟩)
    (lc1 : K.lookup cc1 = some ⟨oK1, uK1, .fields vs1, sK1⟩)
    (lp1 : (vs1[11]? : Option Value) = some (.ref P1))
    (hh1 : PySem.W.codeHdIn K cc1 P1 = true)
    (np1 : K.lookup P1 = Option.none)
    (gp1 : mainGlobals ≠ P1)
    (tp1 : h.get? P1 = some (PySem.W.tabObj #[]))
    (c1 : PySem.W.codeIn K (.ref cc1) "_law_teller" = true)
    (k1 : PySem.W.keepIn K (.ref f1) = true)
    (i2 : PySem.W.isFn K (.ref f2) = true)
    (l2 : K.lookup f2 = some ⟨oc2, od2, .func (PySem.W.fnOf "__init__" "Spent.__init__" (defArgs s_Spent___init__) (defBody s_Spent___init__) (defScope s_Spent___init__) .none kV2 dc2 pm2 an2 cd2 ct2), sl2⟩)
    (c2 : PySem.W.codeIn K cd2 "Spent.__init__" = true)
    (k2 : PySem.W.keepIn K (.ref f2) = true)
    (a3_AskedRule : PySem.W.findIn K (.ref c_AskedRule) "__init__" = some (some (.ref f3)))
    (i3 : PySem.W.isFn K (.ref f3) = true)
    (l3 : K.lookup f3 = some ⟨oc3, od3, .func (PySem.W.fnOf "__init__" "AskedRule.__init__" (defArgs s_AskedRule___init__) (defBody s_AskedRule___init__) (defScope s_AskedRule___init__) .none kV3 dc3 pm3 an3 cd3 ct3), sl3⟩)
    (c3 : PySem.W.codeIn K cd3 "AskedRule.__init__" = true)
    (k3 : PySem.W.keepIn K (.ref f3) = true)
    (a4_AskedRule : PySem.W.findIn K (.ref c_AskedRule) "before" = some (some (.ref f4)))
    (i4 : PySem.W.isFn K (.ref f4) = true)
    (l4 : K.lookup f4 = some ⟨oc4, od4, .func (PySem.W.fnOf "before" "AskedRule.before" (defArgs s_AskedRule_before) (defBody s_AskedRule_before) (defScope s_AskedRule_before) .none kV4 dc4 pm4 an4 cd4 ct4), sl4⟩)
    (c4 : PySem.W.codeIn K cd4 "AskedRule.before" = true)
    (k4 : PySem.W.keepIn K (.ref f4) = true)
    (a5_Asker : PySem.W.findIn K (.ref c_Asker) "ahead" = some (some (.ref f5)))
    (i5 : PySem.W.isFn K (.ref f5) = true)
    (l5 : K.lookup f5 = some ⟨oc5, od5, .func (PySem.W.fnOf "ahead" "Asker.ahead" (defArgs s_Asker_ahead) (defBody s_Asker_ahead) (defScope s_Asker_ahead) .none kV5 dc5 pm5 an5 cd5 ct5), sl5⟩)
    (c5 : PySem.W.codeIn K cd5 "Asker.ahead" = true)
    (k5 : PySem.W.keepIn K (.ref f5) = true)
    (a6_Asker : PySem.W.findIn K (.ref c_Asker) "widen" = some (some (.ref f6)))
    (i6 : PySem.W.isFn K (.ref f6) = true)
    (l6 : K.lookup f6 = some ⟨oc6, od6, .func (PySem.W.fnOf "widen" "Asker.widen" (defArgs s_Asker_widen) (defBody s_Asker_widen) (defScope s_Asker_widen) .none kV6 dc6 pm6 an6 cd6 ct6), sl6⟩)
    (c6 : PySem.W.codeIn K cd6 "Asker.widen" = true)
    (k6 : PySem.W.keepIn K (.ref f6) = true)
    (a7_Asker : PySem.W.findIn K (.ref c_Asker) "many" = some (some (.ref f7)))
    (i7 : PySem.W.isFn K (.ref f7) = true)
    (l7 : K.lookup f7 = some ⟨oc7, od7, .func (PySem.W.fnOf "many" "Asker.many" (defArgs s_Asker_many) (defBody s_Asker_many) (defScope s_Asker_many) .none kV7 dc7 pm7 an7 cd7 ct7), sl7⟩)
    (c7 : PySem.W.codeIn K cd7 "Asker.many" = true)
    (k7 : PySem.W.keepIn K (.ref f7) = true)
    (a8_Asker : PySem.W.findIn K (.ref c_Asker) "__init__" = some (some (.ref f8)))
    (i8 : PySem.W.isFn K (.ref f8) = true)
    (l8 : K.lookup f8 = some ⟨oc8, od8, .func (PySem.W.fnOf "__init__" "Asker.__init__" (defArgs s_Asker___init__) (defBody s_Asker___init__) (defScope s_Asker___init__) (.ref dT8) kV8 dc8 pm8 an8 cd8 ct8), sl8⟩)
    (lt8 : K.lookup dT8 = some ⟨oT8, oU8, .seq ([Value.none] : List Value).toArray nT8, tsl8⟩)
    (c8 : PySem.W.codeIn K cd8 "Asker.__init__" = true)
    (k8 : PySem.W.keepIn K (.ref f8) = true)
    (a9 : PySem.W.nsIn K mainGlobals "spot_of" = some (some (.ref f9)))
    (l9 : K.lookup f9 = some ⟨oc9, od9, .func (PySem.W.fnOf "spot_of" "spot_of" (defArgs s_spot_of) (defBody s_spot_of) (defScope s_spot_of) .none kV9 dc9 pm9 an9 cd9 ct9), sl9⟩)
    (c9 : PySem.W.codeIn K cd9 "spot_of" = true)
    (k9 : PySem.W.keepIn K (.ref f9) = true)
    (a10 : PySem.W.nsIn K mainGlobals "by_putting" = some (some (.ref f10)))
    (l10 : K.lookup f10 = some ⟨oc10, od10, .func (PySem.W.fnOf "by_putting" "by_putting" (defArgs s_by_putting) (defBody s_by_putting) (defScope s_by_putting) .none kV10 dc10 pm10 an10 cd10 ct10), sl10⟩)
    (c10 : PySem.W.codeIn K cd10 "by_putting" = true)
    (k10 : PySem.W.keepIn K (.ref f10) = true)
    (a11 : PySem.W.nsIn K mainGlobals "by_walking" = some (some (.ref f11)))
    (l11 : K.lookup f11 = some ⟨oc11, od11, .func (PySem.W.fnOf "by_walking" "by_walking" (defArgs s_by_walking) (defBody s_by_walking) (defScope s_by_walking) .none kV11 dc11 pm11 an11 cd11 ct11), sl11⟩)
    (c11 : PySem.W.codeIn K cd11 "by_walking" = true)
    (k11 : PySem.W.keepIn K (.ref f11) = true)
    (a12 : PySem.W.nsIn K mainGlobals "stretch_from" = some (some (.ref f12)))
    (l12 : K.lookup f12 = some ⟨oc12, od12, .func (PySem.W.fnOf "stretch_from" "stretch_from" (defArgs s_stretch_from) (defBody s_stretch_from) (defScope s_stretch_from) (.ref dT12) kV12 dc12 pm12 an12 cd12 ct12), sl12⟩)
    (lt12 : K.lookup dT12 = some ⟨oT12, oU12, .seq ([Value.none] : List Value).toArray nT12, tsl12⟩)
    (c12 : PySem.W.codeIn K cd12 "stretch_from" = true)
    (k12 : PySem.W.keepIn K (.ref f12) = true)
    (a13 : PySem.W.nsIn K mainGlobals "stretches" = some (some (.ref f13)))
    (l13 : K.lookup f13 = some ⟨oc13, od13, .func (PySem.W.fnOf "stretches" "stretches" (defArgs s_stretches) (defBody s_stretches) (defScope s_stretches) .none kV13 dc13 pm13 an13 cd13 ct13), sl13⟩)
    (c13 : PySem.W.codeIn K cd13 "stretches" = true)
    (k13 : PySem.W.keepIn K (.ref f13) = true)
    (a14 : PySem.W.nsIn K mainGlobals "by_reach" = some (some (.ref f14)))
    (l14 : K.lookup f14 = some ⟨oc14, od14, .func (PySem.W.fnOf "by_reach" "by_reach" (defArgs s_by_reach) (defBody s_by_reach) (defScope s_by_reach) .none kV14 dc14 pm14 an14 cd14 ct14), sl14⟩)
    (c14 : PySem.W.codeIn K cd14 "by_reach" = true)
    (k14 : PySem.W.keepIn K (.ref f14) = true)
    (a15 : PySem.W.nsIn K mainGlobals "_law_cell_at" = some (some (.ref f15)))
    (l15 : K.lookup f15 = some ⟨oc15, od15, .func (PySem.W.fnOf "_law_cell_at" "_law_cell_at" (defArgs s__law_cell_at) (defBody s__law_cell_at) (defScope s__law_cell_at) .none kV15 dc15 pm15 an15 cd15 ct15), sl15⟩)
    (c15 : PySem.W.codeIn K cd15 "_law_cell_at" = true)
    (k15 : PySem.W.keepIn K (.ref f15) = true)
    (a16 : PySem.W.nsIn K mainGlobals "_law_stream" = some (some (.ref f16)))
    (l16 : K.lookup f16 = some ⟨oc16, od16, .func (PySem.W.fnOf "_law_stream" "_law_stream" (defArgs s__law_stream) (defBody s__law_stream) (defScope s__law_stream) .none kV16 dc16 pm16 an16 cd16 ct16), sl16⟩)
    (c16 : PySem.W.codeIn K cd16 "_law_stream" = true)
    (k16 : PySem.W.keepIn K (.ref f16) = true)
    (a17 : PySem.W.nsIn K mainGlobals "_law_digits" = some (some (.ref f17)))
    (l17 : K.lookup f17 = some ⟨oc17, od17, .func (PySem.W.fnOf "_law_digits" "_law_digits" (defArgs s__law_digits) (defBody s__law_digits) (defScope s__law_digits) .none kV17 dc17 pm17 an17 cd17 ct17), sl17⟩)
    (c17 : PySem.W.codeIn K cd17 "_law_digits" = true)
    (k17 : PySem.W.keepIn K (.ref f17) = true)
    (a18 : PySem.W.nsIn K mainGlobals "_law_blocks" = some (some (.ref f18)))
    (l18 : K.lookup f18 = some ⟨oc18, od18, .func (PySem.W.fnOf "_law_blocks" "_law_blocks" (defArgs s__law_blocks) (defBody s__law_blocks) (defScope s__law_blocks) .none kV18 dc18 pm18 an18 cd18 ct18), sl18⟩)
    (c18 : PySem.W.codeIn K cd18 "_law_blocks" = true)
    (k18 : PySem.W.keepIn K (.ref f18) = true)
    (a19 : PySem.W.nsIn K mainGlobals "_law_nearly" = some (some (.ref f19)))
    (l19 : K.lookup f19 = some ⟨oc19, od19, .func (PySem.W.fnOf "_law_nearly" "_law_nearly" (defArgs s__law_nearly) (defBody s__law_nearly) (defScope s__law_nearly) .none kV19 dc19 pm19 an19 cd19 ct19), sl19⟩)
    (c19 : PySem.W.codeIn K cd19 "_law_nearly" = true)
    (k19 : PySem.W.keepIn K (.ref f19) = true)
    (a20 : PySem.W.nsIn K mainGlobals "_law_keys" = some (some (.ref f20)))
    (l20 : K.lookup f20 = some ⟨oc20, od20, .func (PySem.W.fnOf "_law_keys" "_law_keys" (defArgs s__law_keys) (defBody s__law_keys) (defScope s__law_keys) .none kV20 dc20 pm20 an20 cd20 ct20), sl20⟩)
    (c20 : PySem.W.codeIn K cd20 "_law_keys" = true)
    (k20 : PySem.W.keepIn K (.ref f20) = true)
    (a21 : PySem.W.nsIn K mainGlobals "_law_way" = some (some (.ref f21)))
    (l21 : K.lookup f21 = some ⟨oc21, od21, .func (PySem.W.fnOf "_law_way" "_law_way" (defArgs s__law_way) (defBody s__law_way) (defScope s__law_way) .none kV21 dc21 pm21 an21 cd21 ct21), sl21⟩)
    (c21 : PySem.W.codeIn K cd21 "_law_way" = true)
    (k21 : PySem.W.keepIn K (.ref f21) = true)
    (a22 : PySem.W.nsIn K mainGlobals "_law_told" = some (some (.ref f22)))
    (l22 : K.lookup f22 = some ⟨oc22, od22, .func (PySem.W.fnOf "_law_told" "_law_told" (defArgs s__law_told) (defBody s__law_told) (defScope s__law_told) .none kV22 dc22 pm22 an22 cd22 ct22), sl22⟩)
    (c22 : PySem.W.codeIn K cd22 "_law_told" = true)
    (k22 : PySem.W.keepIn K (.ref f22) = true)
    (a23 : PySem.W.nsIn K mainGlobals "_law_whole" = some (some (.ref f23)))
    (l23 : K.lookup f23 = some ⟨oc23, od23, .func (PySem.W.fnOf "_law_whole" "_law_whole" (defArgs s__law_whole) (defBody s__law_whole) (defScope s__law_whole) .none kV23 dc23 pm23 an23 cd23 ct23), sl23⟩)
    (c23 : PySem.W.codeIn K cd23 "_law_whole" = true)
    (k23 : PySem.W.keepIn K (.ref f23) = true)
    (a24 : PySem.W.nsIn K mainGlobals "_law_each_once" = some (some (.ref f24)))
    (l24 : K.lookup f24 = some ⟨oc24, od24, .func (PySem.W.fnOf "_law_each_once" "_law_each_once" (defArgs s__law_each_once) (defBody s__law_each_once) (defScope s__law_each_once) .none kV24 dc24 pm24 an24 cd24 ct24), sl24⟩)
    (c24 : PySem.W.codeIn K cd24 "_law_each_once" = true)
    (k24 : PySem.W.keepIn K (.ref f24) = true)
    (a25 : PySem.W.nsIn K mainGlobals "_law_bits" = some (some (.ref f25)))
    (l25 : K.lookup f25 = some ⟨oc25, od25, .func (PySem.W.fnOf "_law_bits" "_law_bits" (defArgs s__law_bits) (defBody s__law_bits) (defScope s__law_bits) .none kV25 dc25 pm25 an25 cd25 ct25), sl25⟩)
    (c25 : PySem.W.codeIn K cd25 "_law_bits" = true)
    (k25 : PySem.W.keepIn K (.ref f25) = true)
    (a26 : PySem.W.nsIn K mainGlobals "_law_bound" = some (some (.ref f26)))
    (l26 : K.lookup f26 = some ⟨oc26, od26, .func (PySem.W.fnOf "_law_bound" "_law_bound" (defArgs s__law_bound) (defBody s__law_bound) (defScope s__law_bound) .none kV26 dc26 pm26 an26 cd26 ct26), sl26⟩)
    (c26 : PySem.W.codeIn K cd26 "_law_bound" = true)
    (k26 : PySem.W.keepIn K (.ref f26) = true)
    (a27_Asker : PySem.W.findIn K (.ref c_Asker) "answers" = some (some (.ref f27)))
    (i27 : PySem.W.isFn K (.ref f27) = true)
    (l27 : K.lookup f27 = some ⟨oc27, od27, .func (PySem.W.fnOf "answers" "Asker.answers" (defArgs s_Asker_answers) (defBody s_Asker_answers) (defScope s_Asker_answers) .none kV27 dc27 pm27 an27 cd27 ct27), sl27⟩)
    (c27 : PySem.W.codeIn K cd27 "Asker.answers" = true)
    (k27 : PySem.W.keepIn K (.ref f27) = true)
    (a28 : PySem.W.nsIn K mainGlobals "law" = some (some (.ref f28)))
    (l28 : K.lookup f28 = some ⟨oc28, od28, .func (PySem.W.fnOf "law" "law" (defArgs s_law) (defBody s_law) (defScope s_law) .none kV28 dc28 pm28 an28 cd28 ct28), sl28⟩)
    (c28 : PySem.W.codeIn K cd28 "law" = true)
    (k28 : PySem.W.keepIn K (.ref f28) = true)
    (z_ValueError : PySem.W.nsIn K mainGlobals "ValueError" = some none)
    (z_len : PySem.W.nsIn K mainGlobals "len" = some none)
    (z_range : PySem.W.nsIn K mainGlobals "range" = some none)
    (z_sorted : PySem.W.nsIn K mainGlobals "sorted" = some none)
    (z_min : PySem.W.nsIn K mainGlobals "min" = some none)
    (z_list : PySem.W.nsIn K mainGlobals "list" = some none)
    (z_max : PySem.W.nsIn K mainGlobals "max" = some none)
    (z_isinstance : PySem.W.nsIn K mainGlobals "isinstance" = some none)
    (z_int : PySem.W.nsIn K mainGlobals "int" = some none)
    (z_sum : PySem.W.nsIn K mainGlobals "sum" = some none)
    (z_reversed : PySem.W.nsIn K mainGlobals "reversed" = some none)
    (z_bool : PySem.W.nsIn K mainGlobals "bool" = some none)
    (z_enumerate : PySem.W.nsIn K mainGlobals "enumerate" = some none)
    (xs_Spent_Spent : PySem.W.subIn K (.ref c_Spent) (.ref c_Spent) = some true) :
    LamX.LawAtS l w K CX0 8 63 "_law_script" mg fa h := by
  have e := hfa.symm.trans (PySem.W.mg_of X G a28)
  cases e
  let A : Ad := ⟨c_HallError, c_TooFar, c_Spent, c_Asker, c_Rule, c_AskedRule, P1⟩
  have T : Txt K mg A := ⟨PySem.W.mg_none_of X G z_ValueError, PySem.W.mg_none_of X G z_len, PySem.W.mg_none_of X G z_range, PySem.W.mg_none_of X G z_sorted, PySem.W.mg_none_of X G z_min, PySem.W.mg_none_of X G z_list, PySem.W.mg_none_of X G z_max, PySem.W.mg_none_of X G z_isinstance, PySem.W.mg_none_of X G z_int, PySem.W.mg_none_of X G z_sum, PySem.W.mg_none_of X G z_reversed, PySem.W.mg_none_of X G z_bool, PySem.W.mg_none_of X G z_enumerate, PySem.W.mg_of X G aC_HallError, PySem.W.mg_of X G aC_TooFar, PySem.W.mg_of X G aC_Spent, ⟨⟨_, _, _, _, _, _, _, _, _, _, _, _, _, _, _, xL_Spent, rfl⟩, sa_Spent, sb_Spent, ty_Spent, kp_Spent⟩, na_Spent_asked, kp_Spent, sb_Spent, ty_Spent, ⟨e0_Spent, e1_Spent, e2_Spent, e3_Spent, e4_Spent, e5_Spent, e6_Spent, e7_Spent⟩, PySem.W.mg_of X G aC_Asker, ⟨pg_Asker, hd_Asker, po_Asker, sa_Asker⟩, na_Asker_row, na_Asker_rule, na_Asker_most, na_Asker_asked, na_Asker_log, PySem.W.mg_of X G aC_Rule, ⟨pg_Rule, hd_Rule, po_Rule, sa_Rule⟩, PySem.W.mg_of X G aC_AskedRule, ⟨pg_AskedRule, hd_AskedRule, po_AskedRule, sa_AskedRule⟩, na_AskedRule_teller, PySem.W.exm_ref sb_Spent e3_Spent ty_Spent xs_Spent_Spent⟩
  have F2 := fun_mk (st := s_Spent___init__) l2 c2 k2
  have F3 := fun_mk (st := s_AskedRule___init__) l3 c3 k3
  have F4 := fun_mk (st := s_AskedRule_before) l4 c4 k4
  have F5 := fun_mk (st := s_Asker_ahead) l5 c5 k5
  have F6 := fun_mk (st := s_Asker_widen) l6 c6 k6
  have F7 := fun_mk (st := s_Asker_many) l7 c7 k7
  have F8 := SH.funD_mk (st := s_Asker___init__) (dvs := [.non]) l8 lt8 (.cons rfl .nil) (by simp) c8 k8
  have F9 := fun_mk (st := s_spot_of) l9 c9 k9
  have F10 := fun_mk (st := s_by_putting) l10 c10 k10
  have F11 := fun_mk (st := s_by_walking) l11 c11 k11
  have F12 := SH.funD_mk (st := s_stretch_from) (dvs := [.non]) l12 lt12 (.cons rfl .nil) (by simp) c12 k12
  have F13 := fun_mk (st := s_stretches) l13 c13 k13
  have F14 := fun_mk (st := s_by_reach) l14 c14 k14
  have F15 := fun_mk (st := s__law_cell_at) l15 c15 k15
  have F16 := fun_mk (st := s__law_stream) l16 c16 k16
  have F17 := fun_mk (st := s__law_digits) l17 c17 k17
  have F18 := fun_mk (st := s__law_blocks) l18 c18 k18
  have F19 := fun_mk (st := s__law_nearly) l19 c19 k19
  have F20 := fun_mk (st := s__law_keys) l20 c20 k20
  have F21 := fun_mk (st := s__law_way) l21 c21 k21
  have F22 := fun_mk (st := s__law_told) l22 c22 k22
  have F23 := fun_mk (st := s__law_whole) l23 c23 k23
  have F24 := fun_mk (st := s__law_each_once) l24 c24 k24
  have F25 := fun_mk (st := s__law_bits) l25 c25 k25
  have F26 := fun_mk (st := s__law_bound) l26 c26 k26
  have F27 := fun_mk (st := s_Asker_answers) l27 c27 k27
  have F28 := fun_mk (st := s_law) l28 c28 k28
  refine ⟨PySem.W.fnOf "law" "law" (defArgs s_law) (defBody s_law) (defScope s_law) .none kV28 dc28 pm28 an28 cd28 ct28, [(cc1, P1)], sp_law K A, (fun p hp => by rw [List.mem_singleton] at hp; rw [hp]; exact tp1), (fun p hp => by rw [List.mem_singleton] at hp; rw [hp]; exact np1), (fun p hp => by rw [List.mem_singleton] at hp; rw [hp]; exact PySem.W.codeHd_of_K X hh1), (fun s v => .of_eq rfl), (fun H a ns hl _ hcs hS => ⟨a, ns, rfl, ⟨hS, hl, fun p hp => by rw [List.mem_singleton] at hp; rw [hp]; exact SH.tabN_empty (hcs _ (List.mem_singleton.mpr rfl))⟩, fun _ => rfl⟩), fun base _ _ hTB => ?_⟩
  have TB : LamX.TabB base mg cc1 P1 := hTB _ (List.mem_singleton.mpr rfl)
  have TEL := (cok__law_teller___law_teller_here (P := l.prog) (w := w) (base := base) T).tel
  have O__law_teller := ok__law_teller (P := l.prog) (w := w) (base := base) (A := A) l1 c1 TB
  have O_Spent___init__ := ok_Spent___init__ (P := l.prog) (w := w) (base := base) F2 T 
  have O_AskedRule___init__ := ok_AskedRule___init__ (P := l.prog) (w := w) (base := base) F3 T 
  have O_AskedRule_before := ok_AskedRule_before (P := l.prog) (w := w) (base := base) F4 T TEL
  have X1 : SH.CalM l.prog w K mg base CX0 _ A.AskedRule "before" [] _ := ⟨T.cl_AskedRule, f4, _, _, _, ⟨a4_AskedRule, i4, k4⟩, (F4.binds (ps := ["self", "x", "y"]) fun _ _ _ _ _ _ us hl => match us, hl with | [_, _, _], _ => rfl), .nil, O_AskedRule_before⟩
  have X2 : SH.CalE l.prog w K mg base _ "Spent" A.Spent _ := ⟨T.ox_Spent, f2, _, _, T.g_Spent, in_Spent, tI_Spent, (F2.binds (ps := ["self", "asked"]) fun _ _ _ _ _ _ us hl => match us, hl with | [_, _], _ => rfl), O_Spent___init__⟩
  have O_Asker_ahead := ok_Asker_ahead (P := l.prog) (w := w) (base := base) F5 T X1 X2
  have O_Asker_widen := ok_Asker_widen (P := l.prog) (w := w) (base := base) F6 T 
  have O_Asker_many := ok_Asker_many (P := l.prog) (w := w) (base := base) F7 T 
  have O_Asker___init__ := ok_Asker___init__ (P := l.prog) (w := w) (base := base) F8 T 
  have X3 : SH.CalM l.prog w K mg base (L2N.CX l.prog w) _ A.Asker "ahead" [] _ := ⟨T.cl_Asker, f5, _, _, _, ⟨a5_Asker, i5, k5⟩, (F5.binds (ps := ["self", "p", "q"]) fun _ _ _ _ _ _ us hl => match us, hl with | [_, _, _], _ => rfl), .nil, O_Asker_ahead⟩
  have O_spot_of := ok_spot_of (P := l.prog) (w := w) (base := base) F9 T X3
  have X4 : SH.CalM l.prog w K mg base CX0 _ A.Asker "many" [] _ := ⟨T.cl_Asker, f7, _, _, _, ⟨a7_Asker, i7, k7⟩, (F7.binds (ps := ["self"]) fun _ _ _ _ _ _ us hl => match us, hl with | [_], _ => rfl), .nil, O_Asker_many⟩
  have X5 : SH.Cal l.prog w K mg base (L2N.CX l.prog w) _ "spot_of" [] _ := ⟨f9, _, _, _, PySem.W.mg_of X G a9, k9, (F9.binds (ps := ["asker", "order", "place"]) fun _ _ _ _ _ _ us hl => match us, hl with | [_, _, _], _ => rfl), .nil, O_spot_of⟩
  have O_by_putting := ok_by_putting (P := l.prog) (w := w) (base := base) F10 T X4 X5
  have O_by_walking := ok_by_walking (P := l.prog) (w := w) (base := base) F11 T X3 X4
  have O_stretch_from := ok_stretch_from (P := l.prog) (w := w) (base := base) F12 T X3 X4
  obtain ⟨dsX6, vdX6, bdX6⟩ := F12.binds1 (ps := ["asker", "first", "end"]) 2 0 (by simp) rfl (fun _ _ _ _ _ _ _ us its hu hi => match us, its, hu, hi with | [_, _], [_], _, _ => ⟨_, rfl, rfl⟩)
  have X6 : SH.Cal l.prog w K mg base (L2N.CX l.prog w) _ "stretch_from" [.non] _ := ⟨f12, _, _, _, PySem.W.mg_of X G a12, k12, bdX6, vdX6, O_stretch_from⟩
  have O_stretches := ok_stretches (P := l.prog) (w := w) (base := base) F13 T X4 X6
  have O_by_reach := ok_by_reach (P := l.prog) (w := w) (base := base) F14 T X3 X4 X5
  have O__law_cell_at := ok__law_cell_at (P := l.prog) (w := w) (base := base) F15 T 
  have O__law_stream := ok__law_stream (P := l.prog) (w := w) (base := base) F16 T 
  have X7 : SH.Cal l.prog w K mg base CX0 _ "_law_cell_at" [] _ := ⟨f15, _, _, _, PySem.W.mg_of X G a15, k15, (F15.binds (ps := ["_law_script", "_law_k"]) fun _ _ _ _ _ _ us hl => match us, hl with | [_, _], _ => rfl), .nil, O__law_cell_at⟩
  have X8 : SH.Cal l.prog w K mg base CX0 _ "_law_stream" [] _ := ⟨f16, _, _, _, PySem.W.mg_of X G a16, k16, (F16.binds (ps := ["_law_cell", "_law_many"]) fun _ _ _ _ _ _ us hl => match us, hl with | [_, _], _ => rfl), .nil, O__law_stream⟩
  have O__law_digits := ok__law_digits (P := l.prog) (w := w) (base := base) F17 T X7 X8
  have O__law_blocks := ok__law_blocks (P := l.prog) (w := w) (base := base) F18 T X8
  have O__law_nearly := ok__law_nearly (P := l.prog) (w := w) (base := base) F19 T X8
  have X9 : SH.Cal l.prog w K mg base CX0 _ "_law_blocks" [] _ := ⟨f18, _, _, _, PySem.W.mg_of X G a18, k18, (F18.binds (ps := ["_law_keys_here", "_law_cell"]) fun _ _ _ _ _ _ us hl => match us, hl with | [_, _], _ => rfl), .nil, O__law_blocks⟩
  have X10 : SH.Cal l.prog w K mg base CX0 _ "_law_digits" [] _ := ⟨f17, _, _, _, PySem.W.mg_of X G a17, k17, (F17.binds (ps := ["_law_script", "_law_k", "_law_base"]) fun _ _ _ _ _ _ us hl => match us, hl with | [_, _, _], _ => rfl), .nil, O__law_digits⟩
  have X11 : SH.Cal l.prog w K mg base CX0 _ "_law_nearly" [] _ := ⟨f19, _, _, _, PySem.W.mg_of X G a19, k19, (F19.binds (ps := ["_law_keys_here", "_law_cell"]) fun _ _ _ _ _ _ us hl => match us, hl with | [_, _], _ => rfl), .nil, O__law_nearly⟩
  have O__law_keys := ok__law_keys (P := l.prog) (w := w) (base := base) F20 T X9 X7 X10 X11 X8
  have X12 : SH.Cal l.prog w K mg base (L2N.CX l.prog w) _ "by_putting" [] _ := ⟨f10, _, _, _, PySem.W.mg_of X G a10, k10, (F10.binds (ps := ["asker"]) fun _ _ _ _ _ _ us hl => match us, hl with | [_], _ => rfl), .nil, O_by_putting⟩
  have X13 : SH.Cal l.prog w K mg base (L2N.CX l.prog w) _ "by_reach" [] _ := ⟨f14, _, _, _, PySem.W.mg_of X G a14, k14, (F14.binds (ps := ["asker", "reach"]) fun _ _ _ _ _ _ us hl => match us, hl with | [_, _], _ => rfl), .nil, O_by_reach⟩
  have X14 : SH.Cal l.prog w K mg base (L2N.CX l.prog w) _ "by_walking" [] _ := ⟨f11, _, _, _, PySem.W.mg_of X G a11, k11, (F11.binds (ps := ["asker"]) fun _ _ _ _ _ _ us hl => match us, hl with | [_], _ => rfl), .nil, O_by_walking⟩
  have X15 : SH.Cal l.prog w K mg base (L2N.CX l.prog w) _ "stretches" [] _ := ⟨f13, _, _, _, PySem.W.mg_of X G a13, k13, (F13.binds (ps := ["asker"]) fun _ _ _ _ _ _ us hl => match us, hl with | [_], _ => rfl), .nil, O_stretches⟩
  have O__law_way := ok__law_way (P := l.prog) (w := w) (base := base) F21 T X4 X12 X13 X14 X15
  have X16 : SH.Cal l.prog w K mg base (L2N.CX l.prog w) _ "_law_way" [] _ := ⟨f21, _, _, _, PySem.W.mg_of X G a21, k21, (F21.binds (ps := ["_law_way_here", "_law_asker"]) fun _ _ _ _ _ _ us hl => match us, hl with | [_, _], _ => rfl), .nil, O__law_way⟩
  have O__law_told := ok__law_told (P := l.prog) (w := w) (base := base) F22 T X16
  have O__law_whole := ok__law_whole (P := l.prog) (w := w) (base := base) F23 T 
  have X17 : SH.Cal l.prog w K mg base CX0 _ "_law_whole" [] _ := ⟨f23, _, _, _, PySem.W.mg_of X G a23, k23, (F23.binds (ps := ["_law_found"]) fun _ _ _ _ _ _ us hl => match us, hl with | [_], _ => rfl), .nil, O__law_whole⟩
  have O__law_each_once := ok__law_each_once (P := l.prog) (w := w) (base := base) F24 T X17
  have O__law_bits := ok__law_bits (P := l.prog) (w := w) (base := base) F25 T X7 X10 X8
  have O__law_bound := ok__law_bound (P := l.prog) (w := w) (base := base) F26 T 
  have O_Asker_answers := ok_Asker_answers (P := l.prog) (w := w) (base := base) F27 T 
  have X18 : SH.CalM l.prog w K mg base CX0 _ A.Asker "answers" [] _ := ⟨T.cl_Asker, f27, _, _, _, ⟨a27_Asker, i27, k27⟩, (F27.binds (ps := ["self"]) fun _ _ _ _ _ _ us hl => match us, hl with | [_], _ => rfl), .nil, O_Asker_answers⟩
  have X19 : SH.CalM l.prog w K mg base CX0 _ A.Asker "widen" [] _ := ⟨T.cl_Asker, f6, _, _, _, ⟨a6_Asker, i6, k6⟩, (F6.binds (ps := ["self", "more"]) fun _ _ _ _ _ _ us hl => match us, hl with | [_, _], _ => rfl), .nil, O_Asker_widen⟩
  have X20 : SH.Cal l.prog w K mg base CX0 _ "_law_bits" [] _ := ⟨f25, _, _, _, PySem.W.mg_of X G a25, k25, (F25.binds (ps := ["_law_script", "_law_mix"]) fun _ _ _ _ _ _ us hl => match us, hl with | [_, _], _ => rfl), .nil, O__law_bits⟩
  have X21 : SH.Cal l.prog w K mg base CX0 _ "_law_bound" [] _ := ⟨f26, _, _, _, PySem.W.mg_of X G a26, k26, (F26.binds (ps := ["_law_way_here", "_law_log", "_law_many"]) fun _ _ _ _ _ _ us hl => match us, hl with | [_, _, _], _ => rfl), .nil, O__law_bound⟩
  have X22 : SH.Cal l.prog w K mg base CX0 _ "_law_each_once" [] _ := ⟨f24, _, _, _, PySem.W.mg_of X G a24, k24, (F24.binds (ps := ["_law_told_here", "_law_many"]) fun _ _ _ _ _ _ us hl => match us, hl with | [_, _], _ => rfl), .nil, O__law_each_once⟩
  have X23 : SH.Cal l.prog w K mg base CX0 _ "_law_keys" [] _ := ⟨f20, _, _, _, PySem.W.mg_of X G a20, k20, (F20.binds (ps := ["_law_script", "_law_most"]) fun _ _ _ _ _ _ us hl => match us, hl with | [_, _], _ => rfl), .nil, O__law_keys⟩
  have X24 : SH.Cal l.prog w K mg base CX0 _ "_law_teller" [] _ := ⟨f1, _, _, _, PySem.W.mg_of X G a1, k1, (.all fun us hl => match us, hl with | [_, _], _ => rfl), .nil, O__law_teller⟩
  have X25 : SH.Cal l.prog w K mg base CX0 _ "_law_told" [] _ := ⟨f22, _, _, _, PySem.W.mg_of X G a22, k22, (F22.binds (ps := ["_law_way_here", "_law_asker"]) fun _ _ _ _ _ _ us hl => match us, hl with | [_, _], _ => rfl), .nil, O__law_told⟩
  have X26 : SH.CalC l.prog w K mg base CX0 _ "AskedRule" A.AskedRule [] _ := ⟨f3, _, _, _, T.g_AskedRule, ⟨mk_AskedRule, a3_AskedRule, i3, kc_AskedRule⟩, (F3.binds (ps := ["self", "teller"]) fun _ _ _ _ _ _ us hl => match us, hl with | [_, _], _ => rfl), .nil, O_AskedRule___init__⟩
  obtain ⟨dsX27, vdX27, bdX27⟩ := F8.binds1 (ps := ["self", "row", "rule", "most"]) 4 1 (by simp) rfl (fun _ _ _ _ _ _ _ us its hu hi => match us, its, hu, hi with | [_, _, _, _], [_], _, _ => ⟨_, rfl, rfl⟩)
  have X27 : SH.CalC l.prog w K mg base CX0 _ "Asker" A.Asker [] _ := ⟨f8, _, _, _, T.g_Asker, ⟨mk_Asker, a8_Asker, i8, kc_Asker⟩, bdX27, vdX27, O_Asker___init__⟩
  obtain ⟨dsX28, vdX28, bdX28⟩ := F8.binds1 (ps := ["self", "row", "rule", "most"]) 3 0 (by simp) rfl (fun _ _ _ _ _ _ _ us its hu hi => match us, its, hu, hi with | [_, _, _], [_], _, _ => ⟨_, rfl, rfl⟩)
  have X28 : SH.CalC l.prog w K mg base CX0 _ "Asker" A.Asker [.non] _ := ⟨f8, _, _, _, T.g_Asker, ⟨mk_Asker, a8_Asker, i8, kc_Asker⟩, bdX28, vdX28, O_Asker___init__⟩
  have O_law := ok_law (P := l.prog) (w := w) (base := base) F28 T X18 X19 X20 X21 X7 X22 X23 X24 X25 X17 X26 X27 X28
  exact O_law
theorem walk {l : PySem.W.OpenLaw} {q : Program} {loose : List Str} {XP : (Str → Option Value) → Heap → Prop} {YP : World → Heap → Prop} {d : DefRec} {K : Params → PySem.W.Frag} (hn : l.most = some 63) (hdf : d.params.defaults = [])
    (hY : ∀ (w : World) (h : Heap), YP w h → (K w.params).In h)
    (F : ∀ (w : World) (mg : Str → Option Value) (fa : Addr) (h : Heap), YP w h → (K w.params).In h → h.Ns mainGlobals mg → mg d.name = some (.ref fa) → LamX.LawAtS l w (K w.params) CX0 8 63 "_law_script" mg fa h) :
    PySem.W.WalkO q loose XP YP l.row.toRowW d [] (fun f vs => PySem.call f vs) :=
  LamX.walk_ofTs (n := 63) (k := 8) (x := "_law_script") (CX := fun _ => CX0) hn (by decide) hdf ⟨rfl, by decide, by decide⟩ hY F fun _ _ _ _ _ z => z
end Law

open PySem PySem.W PyProof.Rows
set_option maxRecDepth 100000 in
set_option maxHeartbeats 0 in
theorem PySem.Challenge.cw_sorthall_k39_whole_stopped_holds : PySem.Challenge.rw_sorthall_k39_whole_stopped.Holds := by
  w_on; o_law; k_head; (case hw => w_witness2)
  k_fill
  refine Law.walk (l := PySem.Challenge.rw_sorthall_k39_whole_stopped) rfl rfl (fun w h Y => PySem.W.km_in_of Y) ?F
  case F =>
    intro w mg fa h Y KX G hmg
    refine' Law.all_mk KX G hmg ?aC_HallError ?aC_TooFar ?aC_Spent ?xL_Spent ?sa_Spent ?in_Spent ?tI_Spent ?na_Spent_asked ?kp_Spent ?sb_Spent ?ty_Spent ?e0_Spent ?e1_Spent ?e2_Spent ?e3_Spent ?e4_Spent ?e5_Spent ?e6_Spent ?e7_Spent ?aC_Asker ?pg_Asker ?hd_Asker ?po_Asker ?sa_Asker ?mk_Asker ?kc_Asker ?na_Asker_row ?na_Asker_rule ?na_Asker_most ?na_Asker_asked ?na_Asker_log ?aC_Rule ?pg_Rule ?hd_Rule ?po_Rule ?sa_Rule ?mk_Rule ?kc_Rule ?aC_AskedRule ?pg_AskedRule ?hd_AskedRule ?po_AskedRule ?sa_AskedRule ?mk_AskedRule ?kc_AskedRule ?na_AskedRule_teller ?a1 ?l1 ?lc1 ?lp1 ?hh1 ?np1 ?gp1 ?tp1 ?c1 ?k1 ?i2 ?l2 ?c2 ?k2 ?a3_AskedRule ?i3 ?l3 ?c3 ?k3 ?a4_AskedRule ?i4 ?l4 ?c4 ?k4 ?a5_Asker ?i5 ?l5 ?c5 ?k5 ?a6_Asker ?i6 ?l6 ?c6 ?k6 ?a7_Asker ?i7 ?l7 ?c7 ?k7 ?a8_Asker ?i8 ?l8 ?lt8 ?c8 ?k8 ?a9 ?l9 ?c9 ?k9 ?a10 ?l10 ?c10 ?k10 ?a11 ?l11 ?c11 ?k11 ?a12 ?l12 ?lt12 ?c12 ?k12 ?a13 ?l13 ?c13 ?k13 ?a14 ?l14 ?c14 ?k14 ?a15 ?l15 ?c15 ?k15 ?a16 ?l16 ?c16 ?k16 ?a17 ?l17 ?c17 ?k17 ?a18 ?l18 ?c18 ?k18 ?a19 ?l19 ?c19 ?k19 ?a20 ?l20 ?c20 ?k20 ?a21 ?l21 ?c21 ?k21 ?a22 ?l22 ?c22 ?k22 ?a23 ?l23 ?c23 ?k23 ?a24 ?l24 ?c24 ?k24 ?a25 ?l25 ?c25 ?k25 ?a26 ?l26 ?c26 ?k26 ?a27_Asker ?i27 ?l27 ?c27 ?k27 ?a28 ?l28 ?c28 ?k28 ?z_ValueError ?z_len ?z_range ?z_sorted ?z_min ?z_list ?z_max ?z_isinstance ?z_int ?z_sum ?z_reversed ?z_bool ?z_enumerate ?xs_Spent_Spent
    (case aC_HallError => k_is); (case aC_TooFar => k_is); (case aC_Spent => k_is); (case xL_Spent => k_is); (case sa_Spent => k_is); (case in_Spent => k_is); (case tI_Spent => k_is); (case na_Spent_asked => k_is); (case kp_Spent => k_is); (case sb_Spent => k_is); (case ty_Spent => k_is); (case e0_Spent => k_is); (case e1_Spent => k_is); (case e2_Spent => k_is); (case e3_Spent => k_is); (case e4_Spent => k_is); (case e5_Spent => k_is); (case e6_Spent => k_is); (case e7_Spent => k_is); (case aC_Asker => k_is); (case pg_Asker => k_is); (case hd_Asker => k_is); (case po_Asker => k_is); (case sa_Asker => k_is); (case mk_Asker => k_is); (case kc_Asker => k_is); (case na_Asker_row => k_is); (case na_Asker_rule => k_is); (case na_Asker_most => k_is); (case na_Asker_asked => k_is); (case na_Asker_log => k_is); (case aC_Rule => k_is); (case pg_Rule => k_is); (case hd_Rule => k_is); (case po_Rule => k_is); (case sa_Rule => k_is); (case mk_Rule => k_is); (case kc_Rule => k_is); (case aC_AskedRule => k_is); (case pg_AskedRule => k_is); (case hd_AskedRule => k_is); (case po_AskedRule => k_is); (case sa_AskedRule => k_is); (case mk_AskedRule => k_is); (case kc_AskedRule => k_is); (case na_AskedRule_teller => k_is); (case a1 => k_is); (case l1 => k_is); (case lc1 => k_is); (case lp1 => rfl); (case hh1 => kernel_rfl); (case np1 => kernel_rfl); (case gp1 => decide); (case tp1 => exact PySem.W.km_tabs_of Y _ (by simp)); (case c1 => k_is); (case k1 => k_is); (case i2 => k_is); (case l2 => k_is); (case c2 => k_is); (case k2 => k_is); (case a3_AskedRule => k_is); (case i3 => k_is); (case l3 => k_is); (case c3 => k_is); (case k3 => k_is); (case a4_AskedRule => k_is); (case i4 => k_is); (case l4 => k_is); (case c4 => k_is); (case k4 => k_is); (case a5_Asker => k_is); (case i5 => k_is); (case l5 => k_is); (case c5 => k_is); (case k5 => k_is); (case a6_Asker => k_is); (case i6 => k_is); (case l6 => k_is); (case c6 => k_is); (case k6 => k_is); (case a7_Asker => k_is); (case i7 => k_is); (case l7 => k_is); (case c7 => k_is); (case k7 => k_is); (case a8_Asker => k_is); (case i8 => k_is); (case l8 => k_is); (case lt8 => k_is); (case c8 => k_is); (case k8 => k_is); (case a9 => k_is); (case l9 => k_is); (case c9 => k_is); (case k9 => k_is); (case a10 => k_is); (case l10 => k_is); (case c10 => k_is); (case k10 => k_is); (case a11 => k_is); (case l11 => k_is); (case c11 => k_is); (case k11 => k_is); (case a12 => k_is); (case l12 => k_is); (case lt12 => k_is); (case c12 => k_is); (case k12 => k_is); (case a13 => k_is); (case l13 => k_is); (case c13 => k_is); (case k13 => k_is); (case a14 => k_is); (case l14 => k_is); (case c14 => k_is); (case k14 => k_is); (case a15 => k_is); (case l15 => k_is); (case c15 => k_is); (case k15 => k_is); (case a16 => k_is); (case l16 => k_is); (case c16 => k_is); (case k16 => k_is); (case a17 => k_is); (case l17 => k_is); (case c17 => k_is); (case k17 => k_is); (case a18 => k_is); (case l18 => k_is); (case c18 => k_is); (case k18 => k_is); (case a19 => k_is); (case l19 => k_is); (case c19 => k_is); (case k19 => k_is); (case a20 => k_is); (case l20 => k_is); (case c20 => k_is); (case k20 => k_is); (case a21 => k_is); (case l21 => k_is); (case c21 => k_is); (case k21 => k_is); (case a22 => k_is); (case l22 => k_is); (case c22 => k_is); (case k22 => k_is); (case a23 => k_is); (case l23 => k_is); (case c23 => k_is); (case k23 => k_is); (case a24 => k_is); (case l24 => k_is); (case c24 => k_is); (case k24 => k_is); (case a25 => k_is); (case l25 => k_is); (case c25 => k_is); (case k25 => k_is); (case a26 => k_is); (case l26 => k_is); (case c26 => k_is); (case k26 => k_is); (case a27_Asker => k_is); (case i27 => k_is); (case l27 => k_is); (case c27 => k_is); (case k27 => k_is); (case a28 => k_is); (case l28 => k_is); (case c28 => k_is); (case k28 => k_is); (case z_ValueError => k_is); (case z_len => k_is); (case z_range => k_is); (case z_sorted => k_is); (case z_min => k_is); (case z_list => k_is); (case z_max => k_is); (case z_isinstance => k_is); (case z_int => k_is); (case z_sum => k_is); (case z_reversed => k_is); (case z_bool => k_is); (case z_enumerate => k_is); (case xs_Spent_Spent => (first | rfl | k_is))
#print axioms PySem.Challenge.cw_sorthall_k39_whole_stopped_holds

