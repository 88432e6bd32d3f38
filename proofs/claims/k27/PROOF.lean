import PyProof.Rows.All
import Wide.All
import OpenK.AllK
import Wide.FinOn
import HandS.ForMost
import HandS.ForExc
import HandS.Wide
import HandS.WideBits
import HandS.IsInst
import HandS.Conv
import HandS.Walk
import HandS.SortInts
import HandS.SortRule
import HandS.Nested
import HandS.More
import HandS.Defaults
import HandS.EndTab
import HandS.Rev
import HandS.RevTup
import HandS.SortKw
import KE.DataMinMax
import HandS.Dict
import HandS.Style
import KE.DataCmp
import KE.KDictCopyH
import HandS.MakeKw
import HandS.CallLocal
import PySem.Challenge.RW_sorthall_k27_whole_asks_that_show
set_option Elab.async false
set_option linter.all false
set_option maxRecDepth 100000
set_option maxHeartbeats 4000000
/-! SHA: steps of the heap, rules that look at the values themselves, readings one by one -/
namespace SH
open PySem PySem.Spec PyProof.Rows L2

/-! ### what a heap becomes -/
/-- what never changes -/
def Fix : HO → Prop
  | .tup _ => True
  | .ext _ => True
  | .frz _ _ => True
  | _ => False
/-- H' has all that H has, but what stands at M may be another (no tuple, no function, no cell) -/
structure Stp (M : List Addr) (H H' : Hp) : Prop where
  same : ∀ b o, H b = some o → (b ∉ M ∨ Fix o) → H' b = some o
  dom : ∀ b, H' b = none → H b = none
theorem Stp.refl (M : List Addr) (H : Hp) : Stp M H H := ⟨fun _ _ h _ => h, fun _ h => h⟩
theorem Stp.mono {M M' : List Addr} {H H' : Hp} (s : Stp M H H') (h : ∀ b ∈ M, b ∈ M') : Stp M' H H' := ⟨fun b o e n => s.same b o e (n.imp (fun n z => n (h b z)) id), s.dom⟩
theorem Stp.trans {M : List Addr} {H H1 H2 : Hp} (a : Stp M H H1) (b : Stp M H1 H2) : Stp M H H2 := ⟨fun c o e n => b.same c o (a.same c o e n) n, fun c h => a.dom c (b.dom c h)⟩
/-- what the second changes is new, or the first one's -/
theorem Stp.then {M M' : List Addr} {H H1 H2 : Hp} (a : Stp M H H1) (b : Stp M' H1 H2) (h : ∀ m ∈ M', m ∈ M ∨ H m = none) : Stp M H H2 :=
  ⟨fun c o e n => b.same c o (a.same c o e n) (n.imp (fun n z => (h c z).elim n fun q => (by rw [q] at e; cases e)) id), fun c h => a.dom c (b.dom c h)⟩
theorem Stp.then0 {M : List Addr} {H H1 H2 : Hp} (a : Stp M H H1) (b : Stp [] H1 H2) : Stp M H H2 := a.then b (by simp)
theorem Stp.new {M : List Addr} {H H1 : Hp} {p : Addr} {o : HO} (a : Stp M H H1) (h : H1 p = none) : Stp M H (upd H1 p o) :=
  ⟨fun c u e n => by have q := a.same c u e n; rw [upd_ne (ne_of_none q h)]; exact q, fun c q => a.dom c (by
    by_cases z : c = p
    · subst z; exact h
    · rw [upd_ne z] at q; exact q)⟩
theorem Stp.putM {M : List Addr} {H H1 : Hp} {p : Addr} {o o1 : HO} (a : Stp M H H1) (h : p ∈ M) (h1 : H1 p = some o1) (nf : ¬ Fix o1) : Stp M H (upd H1 p o) :=
  ⟨fun c u e n => by
    by_cases z : c = p
    · subst z
      rcases n with n | n
      · exact (n h).elim
      · have q := a.same c u e (.inr n)
        rw [h1] at q; cases q; exact (nf n).elim
    · rw [upd_ne z]; exact a.same c u e n, fun c q => a.dom c (by
    by_cases z : c = p
    · subst z; rw [upd_same] at q; cases q
    · rw [upd_ne z] at q; exact q)⟩
theorem Stp.putN {M : List Addr} {H H1 : Hp} {p : Addr} {o : HO} (a : Stp M H H1) (h : H p = none) : Stp M H (upd H1 p o) :=
  ⟨fun c u e n => by
    rw [upd_ne (fun z => by subst z; rw [h] at e; cases e)]
    exact a.same c u e n, fun c q => a.dom c (by
    by_cases z : c = p
    · subst z; rw [upd_same] at q; cases q
    · rw [upd_ne z] at q; exact q)⟩
theorem Stp.free {M : List Addr} {H H' : Hp} {p : Addr} (s : Stp M H H') (h : H' p = none) : H p = none := s.dom p h
theorem Stp.keep {M : List Addr} {H H' : Hp} {p : Addr} {o : HO} (s : Stp M H H') (h : H p = some o) (n : p ∉ M) : H' p = some o := s.same p o h (.inl n)
theorem Stp.keep0 {H H' : Hp} {p : Addr} {o : HO} (s : Stp [] H H') (h : H p = some o) : H' p = some o := s.same p o h (.inl (by simp))
theorem Stp.fix {M : List Addr} {H H' : Hp} {p : Addr} {o : HO} (s : Stp M H H') (h : H p = some o) (n : Fix o) : H' p = some o := s.same p o h (.inr n)
theorem Stp.tup {M : List Addr} {H H' : Hp} {p : Addr} {xs : List V} (s : Stp M H H') (h : H p = some (.tup xs)) : H' p = some (.tup xs) := s.fix h True.intro
theorem Stp.keep1 {m : Addr} {H H' : Hp} {p : Addr} {o : HO} (s : Stp [m] H H') (h : H p = some o) (n : p ≠ m) : H' p = some o := s.same p o h (.inl (by simpa using n))
theorem Stp.rd {M : List Addr} {H H' : Hp} {a : Addr} {u : HO} (s : Stp M H H') (h : Rd H a u) (n : a ∉ M) : Rd H' a u := by
  rcases h with h | ⟨o, h⟩
  · exact .inl (s.same _ _ h (.inl n))
  · exact .inr ⟨o, s.same _ _ h (.inr True.intro)⟩
theorem Stp.sql {K : PySem.W.Frag} {M : List Addr} {H H' : Hp} {a : Addr} {xs : List V} (s : Stp M H H') (h : SqL K H a xs) (n : a ∉ M) : SqL K H' a xs := by
  rcases h with h | h
  · exact .inl (s.rd h n)
  · exact .inr h
theorem Stp.sqt {K : PySem.W.Frag} {M : List Addr} {H H' : Hp} {a : Addr} {xs : List V} (s : Stp M H H') (h : SqT K H a xs) (n : a ∉ M) : SqT K H' a xs := by
  rcases h with h | h
  · exact .inl (s.rd h n)
  · exact .inr h
theorem Stp.sqtM {K : PySem.W.Frag} {M : List Addr} {H H' : Hp} {a : Addr} {xs : List V} (s : Stp M H H') (h : SqT K H a xs) : SqT K H' a xs := by
  rcases h with (h | ⟨o, h⟩) | h
  · exact .inl (.inl (s.fix h True.intro))
  · exact .inl (.inr ⟨o, s.fix h True.intro⟩)
  · exact .inr h
theorem Stp.sql1 {K : PySem.W.Frag} {m : Addr} {H H' : Hp} {a : Addr} {xs : List V} (s : Stp [m] H H') (h : SqL K H a xs) (n : a ≠ m) : SqL K H' a xs := s.sql h (by simpa using n)
theorem Stp.sql0 {K : PySem.W.Frag} {H H' : Hp} {a : Addr} {xs : List V} (s : Stp [] H H') (h : SqL K H a xs) : SqL K H' a xs := s.sql h (by simp)
theorem Stp.sqt0 {K : PySem.W.Frag} {H H' : Hp} {a : Addr} {xs : List V} (s : Stp [] H H') (h : SqT K H a xs) : SqT K H' a xs := s.sqt h (by simp)
theorem Stp.not {M : List Addr} {H H' : Hp} {p : Addr} (s : Stp M H H') (h : H' p = none) (hm : ∀ m ∈ M, H m ≠ none) : p ∉ M := fun z => hm p z (s.dom p h)
theorem upd_old {H : Hp} {a p : Addr} {o u : HO} (h : H a = some o) (hp : H p = none) : upd H p u a = some o := by rw [upd_ne (ne_of_none h hp)]; exact h
theorem upd_far {H : Hp} {a p : Addr} {o : Option HO} {u : HO} (n : a ≠ p) (h : H a = o) : upd H p u a = o := by rw [upd_ne n]; exact h
theorem upd_free {H : Hp} {a p : Addr} {u : HO} (h : upd H p u a = none) : H a = none ∧ a ≠ p := by
  by_cases z : a = p
  · subst z; rw [upd_same] at h; cases h
  · rw [upd_ne z] at h; exact ⟨h, z⟩
theorem sql_upd {K : PySem.W.Frag} {H : Hp} {a p : Addr} {xs : List V} {u : HO} (h : SqL K H a xs) (hp : H p = none) : SqL K (upd H p u) a xs := (Stp.refl [] H |>.new hp).sql h (by simp)
theorem sqt_upd {K : PySem.W.Frag} {H : Hp} {a p : Addr} {xs : List V} {u : HO} (h : SqT K H a xs) (hp : H p = none) : SqT K (upd H p u) a xs := (Stp.refl [] H |>.new hp).sqt h (by simp)
theorem sql_far {K : PySem.W.Frag} {H : Hp} {a p : Addr} {xs : List V} {u : HO} (h : SqL K H a xs) (n : a ≠ p) : SqL K (upd H p u) a xs := by
  rcases h with (h | ⟨o, h⟩) | h
  · exact .inl (.inl (upd_far n h))
  · exact .inl (.inr ⟨o, upd_far n h⟩)
  · exact .inr h
theorem sqt_far {K : PySem.W.Frag} {H : Hp} {a p : Addr} {xs : List V} {u : HO} (h : SqT K H a xs) (n : a ≠ p) : SqT K (upd H p u) a xs := by
  rcases h with (h | ⟨o, h⟩) | h
  · exact .inl (.inl (upd_far n h))
  · exact .inl (.inr ⟨o, upd_far n h⟩)
  · exact .inr h

/-! ### the slots -/
theorem set_z {x y : Option V} {xs : L2.St} : (x :: xs).set 0 y = y :: xs := rfl
theorem set_s {x y : Option V} {xs ys : L2.St} {n : Nat} (h : xs.set n y = ys) : (x :: xs).set (n + 1) y = x :: ys := by subst h; rfl
theorem get_z {x : V} {xs : L2.St} : (some x :: xs)[0]? = some (some x) := rfl
theorem get_s {x : Option V} {xs : L2.St} {n : Nat} {v : V} (h : xs[n]? = some (some v)) : (x :: xs)[n + 1]? = some (some v) := h

/-! ### two-place operations by the values -/
/-- the ways of + -/
def aAdd (K : PySem.W.Frag) : R2 := fun x y H Q => match x, y with
  | .int i, .int j => Q (.int (i + j)) H
  | .str a, .str b => a.length + b.length ≤ sizeLine ∧ Q (.str (a ++ b)) H
  | .ref a, .ref b => (∃ xs ys, H a = some (.lst xs) ∧ H b = some (.lst ys) ∧ xs.length + ys.length ≤ sizeLine ∧ ∀ p, H p = none → Q (.ref p) (upd H p (.lst (xs ++ ys)))) ∨ rCatT K (.ref a) (.ref b) H Q
  | _, _ => False
def aSub : R2 := fun x y H Q => match x, y with
  | .int i, .int j => Q (.int (i - j)) H
  | _, _ => False
def aMul : R2 := fun x y H Q => match x, y with
  | .int i, .int j => IntMulOk i j ∧ Q (.int (i * j)) H
  | .ref a, .int k => ∃ xs, H a = some (.lst xs) ∧ -(2 ^ 63) ≤ k ∧ k < 2 ^ 63 ∧ xs.length * k.toNat ≤ sizeLine ∧ ∀ p, H p = none → Q (.ref p) (upd H p (.lst ((List.replicate k.toNat xs).flatten)))
  | _, _ => False
def aDiv : R2 := fun x y H Q => match x, y with
  | .int i, .int j => 0 < j ∧ Builtin.divisionGoesByPylong i j = false ∧ Q (.int (i / j)) H
  | _, _ => False
def aMod : R2 := fun x y H Q => match x, y with
  | .int i, .int j => 0 < j ∧ Q (.int (i % j)) H
  | _, _ => False
def aPow : R2 := fun x y H Q => match x, y with
  | .int i, .int j => CPow i j ∧ Q (.int (i ^ j.toNat)) H
  | _, _ => False
def aShl : R2 := fun x y H Q => match x, y with
  | .int i, .int j => CShl i j ∧ Q (.int (i * 2 ^ j.toNat)) H
  | _, _ => False
def aShr : R2 := fun x y H Q => match x, y with
  | .int i, .int j => 0 ≤ j ∧ Q (.int (i / 2 ^ j.toNat)) H
  | _, _ => False
def aAnd : R2 := fun x y H Q => match x, y with
  | .int i, .int j => Q (.int (Builtin.bitAnd i j)) H
  | _, _ => False
def aLt (K : PySem.W.Frag) : R2 := fun x y H Q => match x, y with
  | .int i, .int j => Q (.bl (decide (i < j))) H
  | .ref a, .ref b => rLtT K (.ref a) (.ref b) H Q
  | _, _ => False
def aLe : R2 := fun x y H Q => match x, y with
  | .int i, .int j => Q (.bl (decide (i ≤ j))) H
  | _, _ => False
def aGt : R2 := fun x y H Q => match x, y with
  | .int i, .int j => Q (.bl (decide (j < i))) H
  | _, _ => False
def aGe : R2 := fun x y H Q => match x, y with
  | .int i, .int j => Q (.bl (decide (j ≤ i))) H
  | _, _ => False
def aEq (K : PySem.W.Frag) : R2 := fun x y H Q => (scal x y = true ∧ Q (.bl (decide (x = y))) H) ∨ rEqD K x y H Q
def aNe (K : PySem.W.Frag) : R2 := fun x y H Q => (scal x y = true ∧ Q (.bl (!decide (x = y))) H) ∨ rNeD K x y H Q
def aIsN : R2 := fun x y H Q => y = .non ∧ Q (.bl (decide (x = .non))) H
def aNotN : R2 := fun x y H Q => y = .non ∧ Q (.bl (!decide (x = .non))) H

section
variable {X : Cx}
theorem oAdd : OpR X (binaryOp .Add) (aAdd X.K) := by
  intro pins s σ H x y v u Q I rx ry h
  cases x <;> cases y <;> first | exact False.elim h | skip
  · exact op_add pins s σ H _ _ v u Q I rx ry ⟨_, _, rfl, rfl, h⟩
  · exact op_add_str pins s σ H _ _ v u Q I rx ry ⟨_, _, rfl, rfl, h.1, h.2⟩
  · rcases h with ⟨xs, ys, h1, h2, h3, h4⟩ | h
    · exact op_cat pins s σ H _ _ v u Q I rx ry ⟨_, _, xs, ys, rfl, rfl, h1, h2, h3, h4⟩
    · exact op_catT pins s σ H _ _ v u Q I rx ry h
theorem oSub : OpR X (binaryOp .Sub) aSub := by
  intro pins s σ H x y v u Q I rx ry h
  cases x <;> cases y <;> first | exact False.elim h | skip
  exact op_sub pins s σ H _ _ v u Q I rx ry ⟨_, _, rfl, rfl, h⟩
theorem oMul : OpR X (binaryOp .Mult) aMul := by
  intro pins s σ H x y v u Q I rx ry h
  cases x <;> cases y <;> first | exact False.elim h | skip
  · obtain ⟨t, rfl⟩ := rx
    obtain ⟨t', rfl⟩ := ry
    exact mul_int ⟨.int _, H, I.tok _, ⟨_, rfl⟩, h.2⟩ h.1
  · obtain ⟨xs, h1, h2, h3, h4, h5⟩ := h
    exact op_rep pins s σ H _ _ v u Q I rx ry ⟨_, _, xs, rfl, rfl, h1, h2, h3, h4, h5⟩
theorem oDiv : OpR X (binaryOp .FloorDiv) aDiv := by
  intro pins s σ H x y v u Q I rx ry h
  cases x <;> cases y <;> first | exact False.elim h | skip
  obtain ⟨t, rfl⟩ := rx
  obtain ⟨t', rfl⟩ := ry
  obtain ⟨h0, h1, q⟩ := h
  exact floordiv_int (by omega) (by rw [Int.fdiv_eq_ediv_of_nonneg _ (by omega)]; exact ⟨.int _, H, I.tok _, ⟨_, rfl⟩, q⟩) (.inl h1)
theorem oMod : OpR X (binaryOp .Mod) aMod := by
  intro pins s σ H x y v u Q I rx ry h
  cases x <;> cases y <;> first | exact False.elim h | skip
  exact op_mod pins s σ H _ _ v u Q I rx ry ⟨_, _, rfl, rfl, h⟩
theorem oPow : OpR X (binaryOp .Pow) aPow := by
  intro pins s σ H x y v u Q I rx ry h
  cases x <;> cases y <;> first | exact False.elim h | skip
  exact op_pow pins s σ H _ _ v u Q I rx ry ⟨_, _, rfl, rfl, h⟩
theorem oShl : OpR X (binaryOp .LShift) aShl := by
  intro pins s σ H x y v u Q I rx ry h
  cases x <;> cases y <;> first | exact False.elim h | skip
  exact op_shlW pins s σ H _ _ v u Q I rx ry ⟨_, _, rfl, rfl, h⟩
theorem oShr : OpR X (binaryOp .RShift) aShr := by
  intro pins s σ H x y v u Q I rx ry h
  cases x <;> cases y <;> first | exact False.elim h | skip
  exact op_shr pins s σ H _ _ v u Q I rx ry ⟨_, _, rfl, rfl, h⟩
theorem oAnd : OpR X (binaryOp .BitAnd) aAnd := by
  intro pins s σ H x y v u Q I rx ry h
  cases x <;> cases y <;> first | exact False.elim h | skip
  exact op_and pins s σ H _ _ v u Q I rx ry ⟨_, _, rfl, rfl, h⟩
theorem oLt (hu : X.A.units < cLine) : OpR X (compareOp .Lt) (aLt X.K) := by
  intro pins s σ H x y v u Q I rx ry h
  cases x <;> cases y <;> first | exact False.elim h | skip
  · exact op_lt pins s σ H _ _ v u Q I rx ry ⟨_, _, rfl, rfl, h⟩
  · exact op_ltT hu pins s σ H _ _ v u Q I rx ry h
theorem oLe : OpR X (compareOp .LtE) aLe := by
  intro pins s σ H x y v u Q I rx ry h
  cases x <;> cases y <;> first | exact False.elim h | skip
  exact op_le pins s σ H _ _ v u Q I rx ry ⟨_, _, rfl, rfl, h⟩
theorem oGt : OpR X (compareOp .Gt) aGt := by
  intro pins s σ H x y v u Q I rx ry h
  cases x <;> cases y <;> first | exact False.elim h | skip
  exact op_gt pins s σ H _ _ v u Q I rx ry ⟨_, _, rfl, rfl, h⟩
theorem oGe : OpR X (compareOp .GtE) aGe := by
  intro pins s σ H x y v u Q I rx ry h
  cases x <;> cases y <;> first | exact False.elim h | skip
  exact op_ge pins s σ H _ _ v u Q I rx ry ⟨_, _, rfl, rfl, h⟩
theorem oEq (hu : X.A.units + 64 < cLine) : OpR X (compareOp .Eq) (aEq X.K) := op_eq.or (op_eqD hu)
theorem oNe (hu : X.A.units + 64 < cLine) : OpR X (compareOp .NotEq) (aNe X.K) := op_ne.or (op_neD hu)
theorem oIsN : OpR X (compareOp .Is) aIsN := op_isN
theorem oNotN : OpR X (compareOp .IsNot) aNotN := op_notN
theorem ipAdd : PIp X .Add (fun x y H Q => match x, y with
  | .int i, .int j => Q (.int (i + j)) H
  | _, _ => False) := by
  intro pins s σ H x y v u Q I rx ry h
  cases x <;> cases y <;> first | exact False.elim h | skip
  exact ip_add pins s σ H _ _ v u Q I rx ry ⟨_, _, rfl, rfl, h⟩
theorem ipSub : PIp X .Sub (fun x y H Q => match x, y with
  | .int i, .int j => Q (.int (i - j)) H
  | _, _ => False) := by
  intro pins s σ H x y v u Q I rx ry h
  cases x <;> cases y <;> first | exact False.elim h | skip
  exact ip_sub pins s σ H _ _ v u Q I rx ry ⟨_, _, rfl, rfl, h⟩
end
end SH

set_option Elab.async false
set_option linter.all false
set_option maxRecDepth 100000
set_option maxHeartbeats 4000000
/-! SHB: readings, one lemma a word -/
namespace SH
open PySem PySem.Spec PyProof.Rows L2

section
variable {K : PySem.W.Frag} {D : Ends} {σ σ' : L2.St} {H : Hp} {Q : VK} {QA : List V → Hp → Prop} {QT : Bool → Hp → Prop} {QO : Option Int → Hp → Prop} {QG : L2.St → Hp → Prop} {i j : Nat} {v x y : V} {vs : List V} {ta tb tc te : TE} {t u tt : TT} {tr as : TA} {t1 t2 : TS} {g : TG} {gs : TGs} {r r' : R2} {b : Bool} {A B : Prop}

/-! the start -/
theorem st_c {x : Str} {N : List Str} {v : V} {vs : List V} {τ : L2.St} (h : L2.start N vs = τ) : L2.start (x :: N) (v :: vs) = some v :: τ := by
  rw [← h]; show _ :: (_ ++ List.replicate (N.length + 1 - (vs.length + 1)) none) = _; rw [Nat.add_sub_add_right]; rfl
theorem st_n {x : Str} {N : List Str} {τ : L2.St} (h : L2.start N [] = τ) : L2.start (x :: N) [] = none :: τ := by rw [← h]; rfl
theorem st_z : L2.start [] [] = [] := rfl
theorem r_start {N : List Str} {t : TS} (e : L2.start N vs = σ) (h : t D σ H) : t D (L2.start N vs) H := by rw [e]; exact h

theorem wp_z {f : Str × Nat → Nat} : wipe σ (List.map f []) = σ := rfl
theorem wp_s {a : Str} {n : Nat} {l : List (Str × Nat)} {τ τ' : L2.St} (h : wipe σ (l.map (fun x => x.2)) = τ) (e : τ.set n none = τ') : wipe σ (((a, n) :: l).map (fun x => x.2)) = τ' := by
  show (wipe σ (l.map (fun x => x.2))).set n none = τ'
  rw [h, e]
theorem r_gnw {ws : List Nat} {τ : L2.St} (e : wipe σ ws = τ) (h : gName i v τ H QG) : gName i v (wipe σ ws) H QG := by rw [e]; exact h
theorem r_gtw {ws : List Nat} {n : Nat} {τ : L2.St} (e : wipe σ ws = τ) (h : gTup K n gs v τ H QG) : gTup K n gs v (wipe σ ws) H QG := by rw [e]; exact h
theorem r_wp {ws : List Nat} {τ : L2.St} (e : wipe σ ws = wipe τ ws) (h : A) : wipe σ ws = wipe τ ws ∧ A := ⟨e, h⟩

/-! statements -/
theorem r_seq (h : t1 { D with nx := t2 D } σ H) : tSeq t1 t2 D σ H := h
theorem r_next (h : D.nx σ H) : tNext D σ H := h
theorem r_nx (e : σ.set i (some v) = σ') (h : D.nx σ' H) : D.nx (σ.set i (some v)) H := by rw [e]; exact h
theorem r_asg (h : te σ H fun x H1 => g x σ H1 D.nx) : tAsg te g D σ H := h
theorem r_gname (e : σ.set i (some v) = σ') (h : QG σ' H) : gName i v σ H QG := by subst e; exact h
theorem r_aug {rd : TIp} (hx : σ[i]? = some (some x)) (h : te σ H fun y H1 => rd x y H1 fun z H2 => D.nx (σ.set i (some z)) H2) : tAug i te rd D σ H := ⟨x, hx, h⟩
theorem r_drop (h : te σ H fun _ H1 => D.nx σ H1) : tDrop te D σ H := h
theorem r_ret (h : te σ H D.rt) : tRet te D σ H := h
theorem r_retN (h : D.rt .non H) : tRetN D σ H := h
theorem r_ifS (h : tt σ H fun b H1 => if b = true then t1 D σ H1 else t2 D σ H1) : tIfS tt t1 t2 D σ H := h
theorem r_brk (h : D.bk σ H) : tBreak D σ H := h
theorem r_cont (h : D.ct σ H) : tCont D σ H := h
theorem r_gtup {n : Nat} {a : Addr} {xs : List V} (hq : SqT K H a xs) (hl : xs.length = n) (h : gs xs σ H QG) : gTup K n gs (.ref a) σ H QG := ⟨a, xs, rfl, hq, hl, h⟩
theorem r_glst {n : Nat} {a : Addr} {xs : List V} (hq : SqL K H a xs) (hl : xs.length = n) (h : gs xs σ H QG) : gLst K n gs (.ref a) σ H QG := ⟨a, xs, rfl, hq, hl, h⟩
theorem r_gcons (h : g v σ H fun σ' H' => gs vs σ' H' QG) : gCons g gs (v :: vs) σ H QG := ⟨v, vs, rfl, h⟩
theorem r_gnil (h : QG σ H) : gNil [] σ H QG := ⟨rfl, h⟩
theorem r_gsub {to ti : TE} {ts : TSet} (h : to σ H fun o H1 => ti σ H1 fun i H2 => ts o i v H2 fun H3 => QG σ H3) : gSub to ti ts v σ H QG := h

/-! expressions -/
theorem r_var (h : σ[i]? = some (some v)) (k : Q v H) : tVar i σ H Q := ⟨v, h, k⟩
theorem r_c (k : Q v H) : tC v σ H Q := k
theorem r_op (h : ta σ H fun x H1 => tb σ H1 fun y H2 => r x y H2 Q) : tOp r ta tb σ H Q := h
theorem r_un {ru : V → Hp → VK → Prop} (h : ta σ H fun x H1 => ru x H1 Q) : tUn ru ta σ H Q := h
theorem r_neg {n : Int} (k : Q (.int (-n)) H) : rU (fun i => .int (-i)) (.int n) H Q := ⟨n, rfl, k⟩
theorem r_if (h : t σ H fun c H1 => if c = true then ta σ H1 Q else tb σ H1 Q) : tIf t ta tb σ H Q := h
theorem r_nil (h : QA [] H) : tNil σ H QA := h
theorem r_cons (h : ta σ H fun x H1 => tr σ H1 fun xs H2 => QA (x :: xs) H2) : tCons ta tr σ H QA := h
def kTup (Q : VK) : List V → Hp → Prop := fun xs H1 => xs.length ≤ sizeLine ∧ ∀ p, H1 p = none → Q (.ref p) (upd H1 p (.tup xs))
def kLst (Q : VK) : List V → Hp → Prop := fun xs H1 => xs.length ≤ sizeLine ∧ ∀ p, H1 p = none → Q (.ref p) (upd H1 p (.lst xs))
theorem r_tup (h : as σ H (kTup Q)) : tTup as σ H Q := h
theorem r_lst (h : as σ H (kLst Q)) : tLst as σ H Q := h
theorem v_tup (hl : vs.length ≤ 1000) (h : ∀ p, H p = none → Q (.ref p) (upd H p (.tup vs))) : kTup Q vs H := ⟨Nat.le_trans hl (by decide), h⟩
theorem v_lst (hl : vs.length ≤ 1000) (h : ∀ p, H p = none → Q (.ref p) (upd H p (.lst vs))) : kLst Q vs H := ⟨Nat.le_trans hl (by decide), h⟩
theorem v_tup2 (h : ∀ p, H p = none → Q (.ref p) (upd H p (.tup [x, y]))) : kTup Q [x, y] H := v_tup (by simp) h
theorem v_tup3 (h : ∀ p, H p = none → Q (.ref p) (upd H p (.tup [x, y, v]))) : kTup Q [x, y, v] H := v_tup (by simp) h
theorem v_lst0 (h : ∀ p, H p = none → Q (.ref p) (upd H p (.lst []))) : kLst Q [] H := v_lst (by simp) h
theorem v_lst1 (h : ∀ p, H p = none → Q (.ref p) (upd H p (.lst [x]))) : kLst Q [x] H := v_lst (by simp) h
theorem v_lst2 (h : ∀ p, H p = none → Q (.ref p) (upd H p (.lst [x, y]))) : kLst Q [x, y] H := v_lst (by simp) h
theorem v_lst3 (h : ∀ p, H p = none → Q (.ref p) (upd H p (.lst [x, y, v]))) : kLst Q [x, y, v] H := v_lst (by simp) h
theorem v_lst4 {z : V} (h : ∀ p, H p = none → Q (.ref p) (upd H p (.lst [x, y, v, z]))) : kLst Q [x, y, v, z] H := v_lst (by simp) h
theorem r_len0 {n : Nat} (h : n ≤ 1000) : n ≤ sizeLine := Nat.le_trans h (by decide)
theorem r_call {sp : Sp} {dvs : List V} {E : XK} (h : as σ H fun vs H1 => sp (vs ++ dvs) H1 Q E) : tCall sp dvs E as σ H Q := h
theorem r_cb {rc : List V → Hp → VK → Prop} (h : as σ H fun vs H1 => rc vs H1 Q) : tCB rc as σ H Q := h
theorem r_andV (h : ta σ H fun x H1 => ∃ c, x = .bl c ∧ if c = true then tb σ H1 Q else Q (.bl false) H1) : tAndV ta tb σ H Q := h
theorem r_orV (h : ta σ H fun x H1 => ∃ c, x = .bl c ∧ if c = true then Q (.bl true) H1 else tb σ H1 Q) : tOrV ta tb σ H Q := h
theorem r_notV (h : ta σ H fun x H1 => ∃ c, x = .bl c ∧ Q (.bl (!c)) H1) : tNotV ta σ H Q := h
theorem r_bl {P : Bool → Prop} (h : P b) : ∃ c, V.bl b = .bl c ∧ P c := ⟨b, rfl, h⟩
theorem r_test (h : te σ H fun x H1 => ∃ k, x = .bl k ∧ QT k H1) : tTest te σ H QT := h
theorem r_B (h : te σ H fun x H1 => ∃ k, x = .bl k ∧ QT k H1) : tB te σ H QT := h
theorem r_and (h : t σ H fun c H1 => if c = true then u σ H1 QT else QT false H1) : tAnd t u σ H QT := h
theorem r_or (h : t σ H fun c H1 => if c = true then QT true H1 else u σ H1 QT) : tOr t u σ H QT := h
theorem r_not (h : t σ H fun c H1 => QT (!c) H1) : tNot t σ H QT := h
theorem r_yes (h : QT true H) : tYes σ H QT := h
theorem r_nopart (h : QO none H) : tNoPart σ H QO := h
theorem r_part (h : te σ H fun x H1 => ∃ i, x = .int i ∧ QO (some i) H1) : tPart te σ H QO := h
theorem r_int {P : Int → Prop} {n : Int} (h : P n) : ∃ i, V.int n = .int i ∧ P i := ⟨n, rfl, h⟩
theorem r_sl {rs : V → Option Int → Option Int → Hp → VK → Prop} {tl th : TO} (h : te σ H fun x H1 => tl σ H1 fun l H2 => th σ H2 fun u H3 => rs x l u H3 Q) : tSl rs te tl th σ H Q := h
theorem r_chain (h : ta σ H fun x H1 => tb σ H1 fun y H2 => r x y H2 fun z H3 => ∃ k, z = .bl k ∧ (if k = true then tc σ H3 fun w' H4 => r' y w' H4 Q else Q (.bl false) H3)) : tChain r r' ta tb tc σ H Q := h
theorem r_bm {T : String} {rb : V → List V → Hp → VK → Prop} (h : te σ H fun x H1 => tyV K T x H1 ∧ as σ H1 fun xs H2 => rb x xs H2 Q) : tBM K T rb te as σ H Q := h
theorem r_bm0 {T : String} {rb : V → List V → Hp → VK → Prop} (h : te σ H fun x H1 => tyV K T x H1 ∧ rb x [] H1 Q) : tBM0 K T rb te σ H Q := h

/-! values -/
theorem v_addI {n m : Int} (h : Q (.int (n + m)) H) : aAdd K (.int n) (.int m) H Q := h
theorem v_addL {a c : Addr} {xs ys : List V} (h1 : H a = some (.lst xs)) (h2 : H c = some (.lst ys)) (h3 : xs.length + ys.length ≤ sizeLine) (h : ∀ p, H p = none → Q (.ref p) (upd H p (.lst (xs ++ ys)))) : aAdd K (.ref a) (.ref c) H Q := .inl ⟨xs, ys, h1, h2, h3, h⟩
theorem v_subI {n m : Int} (h : Q (.int (n - m)) H) : aSub (.int n) (.int m) H Q := h
theorem v_mulI {n m : Int} (h0 : IntMulOk n m) (h : Q (.int (n * m)) H) : aMul (.int n) (.int m) H Q := ⟨h0, h⟩
theorem v_mulL {a : Addr} {k : Int} {xs : List V} (h1 : H a = some (.lst xs)) (h2 : -(2 ^ 63) ≤ k ∧ k < 2 ^ 63) (h3 : xs.length * k.toNat ≤ sizeLine) (h : ∀ p, H p = none → Q (.ref p) (upd H p (.lst ((List.replicate k.toNat xs).flatten)))) : aMul (.ref a) (.int k) H Q := ⟨xs, h1, h2.1, h2.2, h3, h⟩
theorem v_div {n m : Int} (h0 : 0 < m) (h1 : Builtin.divisionGoesByPylong n m = false) (h : Q (.int (n / m)) H) : aDiv (.int n) (.int m) H Q := ⟨h0, h1, h⟩
theorem v_divS {n m : Int} (h0 : 0 < m) (h1 : m < 1073741824) (h : Q (.int (n / m)) H) : aDiv (.int n) (.int m) H Q := ⟨h0, PyProof.noPylong_small (by omega), h⟩
theorem v_divW {n m : Int} (h0 : 0 < m) (h1 : m.natAbs.log2 < 9000) (h : Q (.int (n / m)) H) : aDiv (.int n) (.int m) H Q := ⟨h0, PyProof.noPylong_of_log2 h1, h⟩
theorem v_mod {n m : Int} (h0 : 0 < m) (h : Q (.int (n % m)) H) : aMod (.int n) (.int m) H Q := ⟨h0, h⟩
theorem v_pow {n m : Int} (h0 : CPow n m) (h : Q (.int (n ^ m.toNat)) H) : aPow (.int n) (.int m) H Q := ⟨h0, h⟩
theorem v_shl {n m : Int} (h0 : CShl n m) (h : Q (.int (n * 2 ^ m.toNat)) H) : aShl (.int n) (.int m) H Q := ⟨h0, h⟩
theorem v_shr {n m : Int} (h0 : 0 ≤ m) (h : Q (.int (n / 2 ^ m.toNat)) H) : aShr (.int n) (.int m) H Q := ⟨h0, h⟩
theorem v_and {n m : Int} (h : Q (.int (Builtin.bitAnd n m)) H) : aAnd (.int n) (.int m) H Q := h
theorem v_ltI {n m : Int} (h : Q (.bl (decide (n < m))) H) : aLt K (.int n) (.int m) H Q := h
theorem v_ltT {a c : Addr} {ns ms : List Int} (h1 : SqT K H a (ns.map V.int)) (h2 : SqT K H c (ms.map V.int)) (h : Q (.bl (HT.lexLt ns ms)) H) : aLt K (.ref a) (.ref c) H Q := ⟨a, c, ns, ms, rfl, rfl, h1, h2, h⟩
theorem v_leI {n m : Int} (h : Q (.bl (decide (n ≤ m))) H) : aLe (.int n) (.int m) H Q := h
theorem v_gtI {n m : Int} (h : Q (.bl (decide (m < n))) H) : aGt (.int n) (.int m) H Q := h
theorem v_geI {n m : Int} (h : Q (.bl (decide (m ≤ n))) H) : aGe (.int n) (.int m) H Q := h
theorem dec_i {n m : Int} : decide (V.int n = V.int m) = decide (n = m) := by simp
theorem v_eqI {n m : Int} (h : Q (.bl (decide (n = m))) H) : aEq K (.int n) (.int m) H Q := .inl ⟨rfl, by rw [dec_i]; exact h⟩
theorem v_neI {n m : Int} (h : Q (.bl (!decide (n = m))) H) : aNe K (.int n) (.int m) H Q := .inl ⟨rfl, by rw [dec_i]; exact h⟩
theorem v_eqB {n m : Bool} (h : Q (.bl (decide (n = m))) H) : aEq K (.bl n) (.bl m) H Q := .inl ⟨rfl, by rw [show decide (V.bl n = V.bl m) = decide (n = m) by simp]; exact h⟩
theorem v_neB {n m : Bool} (h : Q (.bl (!decide (n = m))) H) : aNe K (.bl n) (.bl m) H Q := .inl ⟨rfl, by rw [show decide (V.bl n = V.bl m) = decide (n = m) by simp]; exact h⟩
theorem v_eqS {n m : Str} (h : Q (.bl (decide (n = m))) H) : aEq K (.str n) (.str m) H Q := .inl ⟨rfl, by rw [show decide (V.str n = V.str m) = decide (n = m) by simp]; exact h⟩
theorem v_neS {n m : Str} (h : Q (.bl (!decide (n = m))) H) : aNe K (.str n) (.str m) H Q := .inl ⟨rfl, by rw [show decide (V.str n = V.str m) = decide (n = m) by simp]; exact h⟩
theorem v_eqO (hs : scal x y = true) (h : Q (.bl (decide (x = y))) H) : aEq K x y H Q := .inl ⟨hs, h⟩
theorem v_neO (hs : scal x y = true) (h : Q (.bl (!decide (x = y))) H) : aNe K x y H Q := .inl ⟨hs, h⟩
theorem v_eqD {d e : PyData} (h1 : Dp K H x d) (h2 : Dp K H y e) (h3 : SeqAt.shaped d = true) (h4 : SeqAt.shaped e = true) (h : Q (.bl (PyData.eqv d e)) H) : aEq K x y H Q := .inr ⟨d, e, h1, h2, h3, h4, h⟩
theorem v_neD {d e : PyData} (h1 : Dp K H x d) (h2 : Dp K H y e) (h3 : SeqAt.shaped d = true) (h4 : SeqAt.shaped e = true) (h : Q (.bl (!PyData.eqv d e)) H) : aNe K x y H Q := .inr ⟨d, e, h1, h2, h3, h4, h⟩
theorem v_isN (h : Q (.bl (decide (x = .non))) H) : aIsN x .non H Q := ⟨rfl, h⟩
theorem v_notN (h : Q (.bl (!decide (x = .non))) H) : aNotN x .non H Q := ⟨rfl, h⟩
theorem v_ipAdd {n m : Int} (h : Q (.int (n + m)) H) : (fun (x y : V) (H : Hp) (Q : VK) => match x, y with | .int i, .int j => Q (.int (i + j)) H | _, _ => False) (.int n) (.int m) H Q := h
def aIpAdd : TIp := fun x y H Q => match x, y with
  | .int i, .int j => Q (.int (i + j)) H
  | _, _ => False
def aIpSub : TIp := fun x y H Q => match x, y with
  | .int i, .int j => Q (.int (i - j)) H
  | _, _ => False
theorem ip_add' {X : Cx} : PIp X .Add aIpAdd := ipAdd
theorem ip_sub' {X : Cx} : PIp X .Sub aIpSub := ipSub
theorem v_ipA {n m : Int} (h : Q (.int (n + m)) H) : aIpAdd (.int n) (.int m) H Q := h
theorem v_ipS {n m : Int} (h : Q (.int (n - m)) H) : aIpSub (.int n) (.int m) H Q := h

/-! ways -/
theorem r_T (h : A) : if true = true then A else B := by rw [if_pos rfl]; exact h
theorem r_F (h : B) : if false = true then A else B := by rw [if_neg Bool.false_ne_true]; exact h
theorem r_nT (h : B) : if (!true) = true then A else B := by rw [if_neg (by decide)]; exact h
theorem r_nF (h : A) : if (!false) = true then A else B := by rw [if_pos (by decide)]; exact h
theorem r_w {c : Prop} [Decidable c] (h1 : c → A) (h2 : ¬ c → B) : if decide c = true then A else B := by
  by_cases h : c
  · rw [decide_eq_true h, if_pos rfl]; exact h1 h
  · rw [decide_eq_false h, if_neg Bool.false_ne_true]; exact h2 h
theorem r_nw {c : Prop} [Decidable c] (h1 : ¬ c → A) (h2 : c → B) : if (!decide c) = true then A else B := by
  by_cases h : c
  · rw [decide_eq_true h]; exact r_nT (h2 h)
  · rw [decide_eq_false h]; exact r_nF (h1 h)
theorem r_b (h1 : b = true → A) (h2 : b = false → B) : if b = true then A else B := by
  cases b with
  | true => exact r_T (h1 rfl)
  | false => exact r_F (h2 rfl)
theorem r_nb (h1 : b = false → A) (h2 : b = true → B) : if (!b) = true then A else B := by
  cases b with
  | true => exact r_nT (h2 rfl)
  | false => exact r_nF (h1 rfl)
theorem r_wT {c : Prop} [Decidable c] (hc : c) (h : A) : if decide c = true then A else B := r_w (fun _ => h) fun n => (n hc).elim
theorem r_wF {c : Prop} [Decidable c] (hc : ¬ c) (h : B) : if decide c = true then A else B := r_w (fun n => (hc n).elim) fun _ => h
theorem r_nwT {c : Prop} [Decidable c] (hc : ¬ c) (h : A) : if (!decide c) = true then A else B := r_nw (fun _ => h) fun n => (hc n).elim
theorem r_nwF {c : Prop} [Decidable c] (hc : c) (h : B) : if (!decide c) = true then A else B := r_nw (fun n => (n hc).elim) fun _ => h

/-! loops -/
/-- while: W by a measure; the body is read for the next turn -/
theorem r_while {c : TT} (W : Nat → L2.St → Hp → Prop) (h0 : ∃ m, W m σ H)
    (hs : ∀ m σ H, W m σ H → c σ H fun b H1 => if b = true then ∃ N : L2.St → Hp → Prop, (∀ σ' H', N σ' H' → ∃ m', m' < m ∧ W m' σ' H') ∧ t1 { D with nx := N, ct := N, bk := D.nx } σ H1 else D.nx σ H1) : tWhile c t1 D σ H := ⟨W, h0, hs⟩
theorem r_next_turn {W : Nat → L2.St → Hp → Prop} {m : Nat} {P : (L2.St → Hp → Prop) → Prop} (h : P (fun σ' H' => ∃ m', m' < m ∧ W m' σ' H')) : ∃ N : L2.St → Hp → Prop, (∀ σ' H', N σ' H' → ∃ m', m' < m ∧ W m' σ' H') ∧ P N := ⟨_, fun _ _ h => h, h⟩
theorem r_rng1 {J : It → Hp → Prop} {n : Int} (h0 : -(2 ^ 62) ≤ n ∧ n < 2 ^ 62) (h : J (Itr 0 n.toNat) H) (ha : as σ H = fun QA => QA [.int n] H) : iRng1 as σ H J := by
  unfold iRng1
  rw [ha]
  exact ⟨n, rfl, h0.1, h0.2, h⟩
end

/-! ### defs by their names -/
/-- the module's name x holds a def that keeps sp; dvs: its defaults -/
structure Cal (P : Program) (w : World) (K : PySem.W.Frag) (mg : Str → Option Value) (base : Heap) (CX : CXT) (k : Nat) (x : Str) (dvs : List V) (sp : Sp) : Prop where
  ex : ∃ (f : Addr) (fd : FuncData) (ps : List Str) (ds : List Value), mg x = some (.ref f) ∧ PySem.W.keepIn K (.ref f) = true ∧ Binds K fd ps ds ∧ Vals dvs ds ∧ FnOk P w K mg base CX k f fd ps sp
/-- the class at C has a method m that keeps sp -/
structure CalM (P : Program) (w : World) (K : PySem.W.Frag) (mg : Str → Option Value) (base : Heap) (CX : CXT) (k : Nat) (C : Addr) (m : Str) (dvs : List V) (sp : Sp) : Prop where
  cl : Cls K C
  ex : ∃ (f : Addr) (fd : FuncData) (ps : List Str) (ds : List Value), Meth K C m f ∧ Binds K fd ps ds ∧ Vals dvs ds ∧ FnOk P w K mg base CX k f fd ps sp
/-- the name x holds the class at C, made by an __init__ that keeps sp -/
structure CalC (P : Program) (w : World) (K : PySem.W.Frag) (mg : Str → Option Value) (base : Heap) (CX : CXT) (k : Nat) (x : Str) (C : Addr) (dvs : List V) (sp : Sp) : Prop where
  ex : ∃ (f : Addr) (fd : FuncData) (ps : List Str) (ds : List Value), mg x = some (.ref C) ∧ Mk K C f ∧ Binds K fd ps ds ∧ Vals dvs ds ∧ FnOk P w K mg base CX k f fd ps sp
section
variable {X : Cx} {CX : CXT} {k j : Nat} {C : Addr} {sp : Sp} {dvs : List V} {E : XK} {x m : Str} {p pos apos : Pos} {e o : Expr} {es : List Expr} {ta : TE} {t : TA}
theorem pe_callF (c : Cal X.prog X.w X.K X.mg X.base CX j x dvs sp) (hr : Room k X.A) (hg : Gl X x) (hx : Passes CX X E) (ha : PA X (e :: es) t) (hk : j ≤ k := by decide)
    (hdb : (x == ("__debug__" : Str)) = false := by decide) (he : starEach (e :: es) X.env = (false, eval e X.env) :: starEach es X.env := by rfl) (hpl : (backTo pos (starEach es X.env)).any (·.1) = false := by rfl) :
    PE X (.Call (.Name x p) (e :: es) [] pos) (tCall sp dvs E t) := by
  obtain ⟨f, fd, ps, ds, h1, h2, h3, h4, h5⟩ := c.ex
  exact pe_call h5 (hr.mono hk) hg h1 h2 h3 h4 hx ha hdb he hpl
theorem pe_callF0 (c : Cal X.prog X.w X.K X.mg X.base CX j x dvs sp) (hr : Room k X.A) (hg : Gl X x) (hx : Passes CX X E) (hk : j ≤ k := by decide)
    (hdb : (x == ("__debug__" : Str)) = false := by decide) : PE X (.Call (.Name x p) [] [] pos) (tCall sp dvs E tNil) := by
  obtain ⟨f, fd, ps, ds, h1, h2, h3, h4, h5⟩ := c.ex
  exact pe_call0 h5 (hr.mono hk) hg h1 h2 h3 h4 hx hdb
theorem pe_methF {pl : Sem Bool} (he : PE X o ta) (c : CalM X.prog X.w X.K X.mg X.base CX j C m dvs sp) (hr : Room k X.A) (hx : Passes CX X E) (ha : PA X (e :: es) t) (hk : j ≤ k := by decide)
    (hst : starEach (e :: es) X.env = (false, eval e X.env) :: starEach es X.env := by rfl) (hpl : (backTo pos (starEach es X.env)).any (·.1) = false := by rfl)
    (ht : eval (.Call (.Attribute o m apos) (e :: es) [] pos) X.env = (do
      let ov ← eval o X.env
      standAt apos.atName
      let (f, first) ← holding [ov] (getMethod ov m pl)
      callWith pos f first (backTo pos (starEach (e :: es) X.env)) (backToKw pos (keywordEach [] X.env))) := by rfl) :
    PE X (.Call (.Attribute o m apos) (e :: es) [] pos) (tMeth C m sp dvs E ta t) := by
  obtain ⟨f, fd, ps, ds, h1, h3, h4, h5⟩ := c.ex
  exact pe_meth he c.cl h1 h5 (hr.mono hk) h3 h4 hx ha hst hpl ht
theorem pe_methF0 {pl : Sem Bool} (he : PE X o ta) (c : CalM X.prog X.w X.K X.mg X.base CX j C m dvs sp) (hr : Room k X.A) (hx : Passes CX X E) (hk : j ≤ k := by decide)
    (ht : eval (.Call (.Attribute o m apos) [] [] pos) X.env = (do
      let ov ← eval o X.env
      standAt apos.atName
      let (f, first) ← holding [ov] (getMethod ov m pl)
      callWith pos f first (backTo pos (starEach [] X.env)) (backToKw pos (keywordEach [] X.env))) := by rfl) :
    PE X (.Call (.Attribute o m apos) [] [] pos) (tMeth C m sp dvs E ta tNil) := by
  obtain ⟨f, fd, ps, ds, h1, h3, h4, h5⟩ := c.ex
  exact pe_meth0 he c.cl h1 h5 (hr.mono hk) h3 h4 hx ht
theorem pe_makeF (c : CalC X.prog X.w X.K X.mg X.base CX j x C dvs sp) (hr : Room k X.A) (hg : Gl X x) (hx : Passes CX X E) (ha : PA X (e :: es) t) (hk : j + 1 ≤ k := by decide)
    (hdb : (x == ("__debug__" : Str)) = false := by decide) (he : starEach (e :: es) X.env = (false, eval e X.env) :: starEach es X.env := by rfl) (hpl : (backTo pos (starEach es X.env)).any (·.1) = false := by rfl) :
    PE X (.Call (.Name x p) (e :: es) [] pos) (tMake C sp dvs E t) := by
  obtain ⟨f, fd, ps, ds, h1, h2, h3, h4, h5⟩ := c.ex
  exact pe_make h2 h5 (hr.mono hk) hg h1 h3 h4 hx ha hdb he hpl
theorem pe_makeF0 (c : CalC X.prog X.w X.K X.mg X.base CX j x C dvs sp) (hr : Room k X.A) (hg : Gl X x) (hx : Passes CX X E) (hk : j + 1 ≤ k := by decide)
    (hdb : (x == ("__debug__" : Str)) = false := by decide) : PE X (.Call (.Name x p) [] [] pos) (tMake C sp dvs E tNil) := by
  obtain ⟨f, fd, ps, ds, h1, h2, h3, h4, h5⟩ := c.ex
  exact pe_make0 h2 h5 (hr.mono hk) hg h1 h3 h4 hx hdb
end
/-- a walked thing in a for, in a comprehension -/
theorem r_for {wi : TI} {g : TG} {tb : TS} {D : Ends} {σ : L2.St} {H : Hp} (h : wi σ H fun J H1 => ∃ W : Nat → Nat → L2.St → Hp → Prop, (∃ m, W 0 m σ H1) ∧ ∀ i m σ H, W i m σ H →
  (J.stop i H ∧ D.nx σ H) ∨ (J.go i H ∧ ∃ N : L2.St → Hp → Prop, (∀ σ' H', N σ' H' → ∃ m', m' < m ∧ W (i + 1) m' σ' H') ∧ ∀ x H', J.yld i H x H' → g x σ H' fun σ2 H2 => tb { D with nx := N, ct := N, bk := D.nx } σ2 H2)) : tFor wi g tb D σ H := h
theorem r_lc {wi : TI} {g : TG} {tt : TT} {te : TE} {vs : List Nat} {σ : L2.St} {H : Hp} {Q : VK} (h : wi σ H fun J H1 => ∀ D, H1 D = none → ∃ W : Nat → Nat → Hp → Prop, (∃ m, W 0 m (upd H1 D (.lst []))) ∧ ∀ i m H, W i m H →
  (J.stop i H ∧ Q (.ref D) H) ∨ (J.go i H ∧ ∃ Nx : Hp → Prop, (∀ H', Nx H' → ∃ m', m' < m ∧ W (i + 1) m' H') ∧ ∀ x H', J.yld i H x H' → g x (wipe σ vs) H' fun σ2 H2 => wipe σ2 vs = wipe σ vs ∧ tt σ2 H2 fun b H3 =>
    if b = true then te σ2 H3 fun y H4 => ∃ acc, H4 D = some (.lst acc) ∧ acc.length < sizeLine ∧ Nx (upd H4 D (.lst (acc ++ [y]))) else Nx H3)) : tLc wi g tt te vs σ H Q := h
section
variable {K : PySem.W.Frag} {tl : TE} {as : TA} {σ : L2.St} {H : Hp} {R : It → Hp → Prop}
def kList (K : PySem.W.Frag) (R : It → Hp → Prop) : V → Hp → Prop := fun x H1 => ∃ a, x = .ref a ∧ (∃ xs, SqL K H1 a xs) ∧ R (Itl K a) H1
def kTupI (K : PySem.W.Frag) (R : It → Hp → Prop) : V → Hp → Prop := fun x H1 => ∃ a, x = .ref a ∧ (∃ xs, SqT K H1 a xs) ∧ R (Itt K a) H1
def kRng1 (R : It → Hp → Prop) : List V → Hp → Prop := fun vs H1 => ∃ j : Int, vs = [.int j] ∧ -(2 ^ 62) ≤ j ∧ j < 2 ^ 62 ∧ R (Itr 0 j.toNat) H1
def kRng2 (R : It → Hp → Prop) : List V → Hp → Prop := fun vs H1 => ∃ i j : Int, vs = [.int i, .int j] ∧ (-(2 ^ 62) ≤ i ∧ i < 2 ^ 62 ∧ -(2 ^ 62) ≤ j ∧ j < 2 ^ 62) ∧ R (Itr i (j - i).toNat) H1
def kRng3 (R : It → Hp → Prop) : List V → Hp → Prop := fun vs H1 => ∃ (i j c : Int) (n : Nat), vs = [.int i, .int j, .int c] ∧ RgC i j c n ∧ R (Itc i c n) H1
def kEnum (K : PySem.W.Frag) (R : It → Hp → Prop) : List V → Hp → Prop := fun vs H1 => ∃ a xs, vs = [.ref a] ∧ SqL K H1 a xs ∧ R (Ite K a) H1
def kZip (K : PySem.W.Frag) (R : It → Hp → Prop) : List V → Hp → Prop := fun vs H1 => ∃ a b xs ys, vs = [.ref a, .ref b] ∧ SqL K H1 a xs ∧ SqL K H1 b ys ∧ R (Itz K a b) H1
def kRev (K : PySem.W.Frag) (R : It → Hp → Prop) : List V → Hp → Prop := fun vs H1 => ∃ (a : Addr) (xs : List V), vs = [.ref a] ∧ SqL K H1 a xs ∧ R (Itv K a xs.length) H1
theorem r_iList (h : tl σ H (kList K R)) : iList K tl σ H R := h
theorem r_iTup (h : tl σ H (kTupI K R)) : iTup K tl σ H R := h
theorem r_iRng1 (h : as σ H (kRng1 R)) : iRng1 as σ H R := h
theorem r_iRng2 (h : as σ H (kRng2 R)) : iRng2 as σ H R := h
theorem r_iRng3 (h : as σ H (kRng3 R)) : iRng3 as σ H R := h
theorem r_iEnum (h : as σ H (kEnum K R)) : iEnum K as σ H R := h
theorem r_iZip (h : as σ H (kZip K R)) : iZip K as σ H R := h
theorem r_iRev (h : as σ H (kRev K R)) : iRev K as σ H R := h
theorem v_iList {a : Addr} {xs : List V} (h : SqL K H a xs) (k : R (Itl K a) H) : kList K R (.ref a) H := ⟨a, rfl, ⟨xs, h⟩, k⟩
theorem v_iTup {a : Addr} {xs : List V} (h : SqT K H a xs) (k : R (Itt K a) H) : kTupI K R (.ref a) H := ⟨a, rfl, ⟨xs, h⟩, k⟩
theorem v_rng1 {n : Int} (h0 : -(2 ^ 62) ≤ n ∧ n < 2 ^ 62) (k : R (Itr 0 n.toNat) H) : kRng1 R [.int n] H := ⟨n, rfl, h0.1, h0.2, k⟩
theorem v_rng2 {n m : Int} (h0 : -(2 ^ 62) ≤ n ∧ n < 2 ^ 62 ∧ -(2 ^ 62) ≤ m ∧ m < 2 ^ 62) (k : R (Itr n (m - n).toNat) H) : kRng2 R [.int n, .int m] H := ⟨n, m, rfl, h0, k⟩
theorem v_rng3 {i j c : Int} {n : Nat} (h0 : RgC i j c n) (k : R (Itc i c n) H) : kRng3 R [.int i, .int j, .int c] H := ⟨i, j, c, n, rfl, h0, k⟩
theorem v_enum {a : Addr} {xs : List V} (h : SqL K H a xs) (k : R (Ite K a) H) : kEnum K R [.ref a] H := ⟨a, xs, rfl, h, k⟩
theorem v_zip {a b : Addr} {xs ys : List V} (h : SqL K H a xs) (h2 : SqL K H b ys) (k : R (Itz K a b) H) : kZip K R [.ref a, .ref b] H := ⟨a, b, xs, ys, rfl, h, h2, k⟩
theorem v_rev1 {a : Addr} {xs : List V} (h : SqL K H a xs) (k : R (Itv K a xs.length) H) : kRev K R [.ref a] H := ⟨a, xs, rfl, h, k⟩
end
end SH


set_option Elab.async false
set_option linter.all false
set_option maxRecDepth 100000
set_option maxHeartbeats 4000000
/-! SHC: lengths, places, fields, constants -/
namespace SH
open PySem PySem.Spec PyProof.Rows L2

def Sq (K : PySem.W.Frag) (H : Hp) (a : Addr) (xs : List V) : Prop := SqL K H a xs ∨ SqT K H a xs
def aLen (K : PySem.W.Frag) : List V → Hp → VK → Prop := fun vs H Q => match vs with
  | [.ref p] => ∃ xs, Sq K H p xs ∧ Q (.int xs.length) H
  | [.str y] => y.length ≤ sizeLine ∧ Q (.int y.length) H
  | _ => False
def aIx (K : PySem.W.Frag) : R2 := fun x y H Q => match x, y with
  | .ref p, .int i => ∃ xs v, Sq K H p xs ∧ atI xs i = some v ∧ Q v H
  | .str z, .int i => ∃ c, z.length ≤ sizeLine ∧ atI z.cps.toList i = some c ∧ Q (.str ⟨#[c]⟩) H
  | _, _ => False
section
variable {X : Cx} {o e value : Expr} {f : Str} {pos tpos pos' : Pos} {ta tv : TE} {C : Addr}
theorem cLen : CallR X (.builtin "len") (aLen X.K) := by
  intro pins s σ H xs us Q I r h
  match xs, r, h with
  | [], _, h => exact False.elim h
  | [.ref p], r, h =>
    obtain ⟨ys, hq, q⟩ := h
    exact call_len pins s σ H _ us Q I r ⟨.ref p, ys.length, rfl, hq.elim (fun z => .inl ⟨ys, z, rfl⟩) fun z => .inr ⟨ys, z, rfl⟩, q⟩
  | [.str y], r, h => exact call_len pins s σ H _ us Q I r ⟨.str y, y.length, rfl, ⟨h.1, rfl⟩, h.2⟩
  | [.non], _, h => exact False.elim h
  | [.bl _], _, h => exact False.elim h
  | [.int _], _, h => exact False.elim h
  | [.byt _], _, h => exact False.elim h
  | [.flt _], _, h => exact False.elim h
  | [.ty _], _, h => exact False.elim h
  | _ :: _ :: _, _, h => revert h; intro h; simp [aLen] at h
theorem ixA : IxR X (aIx X.K) := by
  intro value slice pins s σ H x y v u Q I rx ry h hs
  cases x <;> cases y <;> first | exact False.elim h | skip
  · obtain ⟨c, h1, h2, q⟩ := h
    exact ix_str value slice pins s σ H _ _ v u Q I rx ry ⟨_, _, c, rfl, rfl, h1, h2, q⟩ hs
  · obtain ⟨xs, w, hq, h2, q⟩ := h
    rcases hq with hq | hq
    · exact ix_list value slice pins s σ H _ _ v u Q I rx ry ⟨_, xs, _, w, rfl, rfl, hq, h2, q⟩ hs
    · exact ix_tup value slice pins s σ H _ _ v u Q I rx ry ⟨_, xs, _, w, rfl, rfl, hq, h2, q⟩ hs
/-- e.f, the class known -/
def tFldF (C : Addr) (ta : TE) (f : Str) : TE := fun σ H Q => ta σ H fun x H1 => ∃ a dx fs v, x = .ref a ∧ H1 a = some (.ins C dx fs) ∧ fs.lookup f = some v ∧ Q v H1
theorem pe_fldF (cl : Cls X.K C) (na : NoAttr X.K C f) (he : PE X e ta) (hb : attributeBase e f X.env (eval e X.env) = eval e X.env := by rfl) : PE X (.Attribute e f pos) (tFldF C ta f) := by
  refine ⟨fun pins s σ H Q I h => ?_⟩
  refine attr_of hb (thn (he.run pins s σ H _ I h) fun u s1 ⟨x, H1, I1, rx, a, dx, fs, v, ex, ea, l, q⟩ => ?_)
  subst ex
  obtain rfl : u = Value.ref a := rx
  exact getattr_ok I1 ea cl na l fun u' s2 I2 ru => ⟨v, H1, I2, ru, q⟩
def sFldF (C : Addr) (ta tv : TE) (f : Str) : TS := fun D σ H => tv σ H fun y H1 => ta σ H1 fun x H2 => ∃ a dx fs, x = .ref a ∧ H2 a = some (.ins C dx fs) ∧ fs.length < 1000 ∧ D.nx σ (upd H2 a (.ins C dx (putF f y fs)))
theorem ps_fldF (cl : Cls X.K C) (na : NoAttr X.K C f) (ha : PE X o ta) (hv : PE X value tv) (hs : swapsWith value (some (.Attribute o f pos')) pos.line X.env = pure false) : PS X (.Assign [.Attribute o f pos'] value pos) (sFldF C ta tv f) := by
  refine ⟨fun pins s σ H D I h => ?_⟩
  refine plainObj_wpAny_Assign_Attribute (thn (hv.run pins s σ H _ I h) fun u s1 ⟨y, H1, I1, ry, q⟩ => thn (ha.run pins s1 σ H1 _ I1 q) fun ov s2 ⟨x, H2, I2, rx, a, dx, fs, ex, ea, l, q2⟩ => ?_) hs
  subst ex
  obtain rfl : ov = Value.ref a := rx
  exact setattr_ok I2 ea cl na l ry fun s3 I3 => ⟨σ, _, I3, q2⟩
def sFldAugF (C : Addr) (ta tv : TE) (rd : V → V → Hp → VK → Prop) (f : Str) : TS := fun D σ H => ta σ H fun x H1 => ∃ a dx fs v, x = .ref a ∧ H1 a = some (.ins C dx fs) ∧ fs.lookup f = some v ∧
  tv σ H1 fun y H2 => rd v y H2 fun z H3 => ∃ dx' fs', H3 a = some (.ins C dx' fs') ∧ fs'.length < 1000 ∧ D.nx σ (upd H3 a (.ins C dx' (putF f z fs')))
theorem ps_fldaugF {op : Operator} {rd : V → V → Hp → VK → Prop} (cl : Cls X.K C) (na : NoAttr X.K C f) (ha : PE X o ta) (hv : PE X value tv) (hop : InOp X op rd) : PS X (.AugAssign (.Attribute o f tpos) op value pos) (sFldAugF C ta tv rd f) := by
  refine ⟨fun pins s σ H D I h => ?_⟩
  refine wpAny_AugAssign_AttributeAny (thn (ha.run pins s σ H _ I h) fun ov s1 ⟨x, H1, I1, rx, a, dx, fs, v, ex, ea, l, q⟩ => ?_)
  subst ex
  obtain rfl : ov = Value.ref a := rx
  refine getattr_ok I1 ea cl na l fun u s2 I2 ru => thn (hv.run pins s2 σ H1 _ I2 q) fun w3 s3 ⟨y, H2, I3, ry, q3⟩ => thn (hop pins s3 σ H2 v y u w3 _ I3 ru ry q3) fun w4 s4 ⟨z, H3, I4, rz, dx', fs', ea', l', q4⟩ => ?_
  exact setattr_ok I4 ea' cl na l' rz fun s5 I5 => ⟨σ, _, I5, q4⟩
theorem in_add' : InOp X .Add aIpAdd := ip_add'
theorem in_sub' : InOp X .Sub aIpSub := ip_sub'
/-- a module's constant that is an int -/
theorem pe_k {x : Str} {v : V} (hm : ∃ u, X.mg x = some u ∧ RelV v u) (hg : Gl X x := by rfl) (hd : (x == ("__debug__" : Str)) = false := by decide) : PE X (.Name x pos) (tC v) := by
  obtain ⟨u, h1, h2⟩ := hm
  exact pe_glob hg h1 h2 hd
/-- xs[i], for xs[i] op= e -/
def aGetL (K : PySem.W.Frag) : V → V → Hp → VK → Prop := fun o i H Q => ∃ p xs k v, o = .ref p ∧ i = .int k ∧ H p = some (.lst xs) ∧ 0 ≤ k ∧ k < 2 ^ 63 ∧ xs[k.toNat]? = some v ∧ Q v H
theorem getL : PGet X (aGetL X.K) := by
  intro pins s σ H o i ov iv Q I ro ri h
  obtain ⟨p, xs, k, v, rfl, rfl, hp, h0, h1, hv, q⟩ := h
  cases ro
  obtain ⟨t, rfl⟩ := ri
  obtain ⟨its, r, pl, hz⟩ := I.list (SqL.of (K := X.K) hp)
  obtain ⟨w, ew, rw'⟩ := r.get hv
  exact wpAny_getItem_list pl.isList h0 h1 (by simpa using ew) ⟨v, H, I, rw', q⟩
end
section
variable {K : PySem.W.Frag} {H : Hp} {Q : VK} {x y v : V} {a p dx C : Addr} {fs : List (Str × V)} {f : Str} {xs : List V} {i : Int} {n : Nat} {ta tv : TE} {σ : L2.St} {D : Ends}
theorem v_lenL (h : SqL K H p xs) (k : Q (.int xs.length) H) : aLen K [.ref p] H Q := ⟨xs, .inl h, k⟩
theorem v_lenLm {α : Type} {f : α → V} {ns : List α} (h : SqL K H p (ns.map f)) (k : Q (.int ns.length) H) : aLen K [.ref p] H Q := ⟨_, .inl h, by rw [List.length_map]; exact k⟩
theorem v_lenTm {α : Type} {f : α → V} {ns : List α} (h : SqT K H p (ns.map f)) (k : Q (.int ns.length) H) : aLen K [.ref p] H Q := ⟨_, .inr h, by rw [List.length_map]; exact k⟩
theorem v_lenT (h : SqT K H p xs) (k : Q (.int xs.length) H) : aLen K [.ref p] H Q := ⟨xs, .inr h, k⟩
theorem v_ixL (h : SqL K H p xs) (ha : atI xs i = some v) (k : Q v H) : aIx K (.ref p) (.int i) H Q := ⟨xs, v, .inl h, ha, k⟩
theorem v_ixT (h : SqT K H p xs) (ha : atI xs i = some v) (k : Q v H) : aIx K (.ref p) (.int i) H Q := ⟨xs, v, .inr h, ha, k⟩
/-- at a place n -/
theorem v_ixLn (h : SqL K H p xs) (e : i = (n : Int)) (ha : xs[n]? = some v) (k : Q v H) : aIx K (.ref p) (.int i) H Q := ⟨xs, v, .inl h, by rw [e]; exact atI_nat ha, k⟩
theorem v_ixTn (h : SqT K H p xs) (e : i = (n : Int)) (ha : xs[n]? = some v) (k : Q v H) : aIx K (.ref p) (.int i) H Q := ⟨xs, v, .inr h, by rw [e]; exact atI_nat ha, k⟩
def kFld (C : Addr) (f : Str) (Q : VK) : VK := fun x H1 => ∃ a dx fs v, x = .ref a ∧ H1 a = some (.ins C dx fs) ∧ fs.lookup f = some v ∧ Q v H1
theorem r_fldF (h : ta σ H (kFld C f Q)) : tFldF C ta f σ H Q := h
theorem v_fld (h : H a = some (.ins C dx fs)) (l : fs.lookup f = some v) (k : Q v H) : kFld C f Q (.ref a) H := ⟨a, dx, fs, v, rfl, h, l, k⟩
def kSfld (C : Addr) (f : Str) (y : V) (R : Hp → Prop) : VK := fun x H2 => ∃ a dx fs, x = .ref a ∧ H2 a = some (.ins C dx fs) ∧ fs.length < 1000 ∧ R (upd H2 a (.ins C dx (putF f y fs)))
theorem r_sfldF (h : tv σ H fun y H1 => ta σ H1 (kSfld C f y (D.nx σ))) : sFldF C ta tv f D σ H := h
theorem v_sfld {fs' : List (Str × V)} {R : Hp → Prop} (h : H a = some (.ins C dx fs)) (l : fs.length < 1000) (e : putF f y fs = fs') (k : R (upd H a (.ins C dx fs'))) : kSfld C f y R (.ref a) H := ⟨a, dx, fs, rfl, h, l, by rw [e]; exact k⟩
def kAug1 (C : Addr) (f : Str) (R : V → Addr → Hp → Prop) : VK := fun x H1 => ∃ a dx fs v, x = .ref a ∧ H1 a = some (.ins C dx fs) ∧ fs.lookup f = some v ∧ R v a H1
def kAug2 (C : Addr) (f : Str) (a : Addr) (R : Hp → Prop) : VK := fun z H3 => ∃ dx' fs', H3 a = some (.ins C dx' fs') ∧ fs'.length < 1000 ∧ R (upd H3 a (.ins C dx' (putF f z fs')))
theorem r_sfldAugF {rd : V → V → Hp → VK → Prop} (h : ta σ H (kAug1 C f fun v a H1 => tv σ H1 fun y H2 => rd v y H2 (kAug2 C f a (D.nx σ)))) : sFldAugF C ta tv rd f D σ H := h
theorem v_aug1 {R : V → Addr → Hp → Prop} (h : H a = some (.ins C dx fs)) (l : fs.lookup f = some v) (k : R v a H) : kAug1 C f R (.ref a) H := ⟨a, dx, fs, v, rfl, h, l, k⟩
theorem v_aug2 {fs' : List (Str × V)} {R : Hp → Prop} (h : H a = some (.ins C dx fs)) (l : fs.length < 1000) (e : putF f y fs = fs') (k : R (upd H a (.ins C dx fs'))) : kAug2 C f a R y H := ⟨dx, fs, h, l, by rw [e]; exact k⟩
theorem v_getL (h : H p = some (.lst xs)) (e : i = (n : Int)) (hn : n < 1000000) (ha : xs[n]? = some v) (k : Q v H) : aGetL K (.ref p) (.int i) H Q := ⟨p, xs, i, v, rfl, rfl, h, by omega, by omega, by rw [e]; exact ha, k⟩
theorem ixN_n {m n : Nat} (h : n < m) : ixN m (n : Int) = some n := by
  unfold ixN
  rw [if_pos (by omega), if_pos (by omega)]
  simp
theorem v_setL {P : Hp → Prop} (h : H p = some (.lst xs)) (e : i = (n : Int)) (hn : n < xs.length) (k : P (upd H p (.lst (xs.set n v)))) : rSetL (.ref p) (.int i) v H P := ⟨p, xs, i, n, rfl, rfl, h, by rw [e]; exact ixN_n hn, k⟩
theorem v_append {P : Hp → Prop} (h : H p = some (.lst xs)) (hn : xs.length < 1000000) (k : P (upd H p (.lst (xs ++ [v])))) : tyV K "list" (.ref p) H ∧ rAppend (.ref p) [v] H (fun _ H' => P H') := ⟨.inl ⟨rfl, xs, SqL.of h⟩, p, xs, v, rfl, rfl, h, Nat.lt_trans hn (by decide), k⟩
theorem ty_list (h : H p = some (.lst xs)) : tyV K "list" (.ref p) H := .inl ⟨rfl, xs, SqL.of h⟩
theorem v_app (h : H p = some (.lst xs)) (hn : xs.length < 1000000) (k : Q .non (upd H p (.lst (xs ++ [v])))) : rAppend (.ref p) [v] H Q := ⟨p, xs, v, rfl, rfl, h, Nat.lt_trans hn (by decide), k⟩
theorem v_ext {b : Addr} {ys : List V} (h : H p = some (.lst xs)) (h2 : H b = some (.lst ys)) (hn : xs.length + ys.length ≤ 1000000) (k : Q .non (upd H p (.lst (xs ++ ys)))) : rExtend (.ref p) [.ref b] H Q := ⟨p, b, xs, ys, rfl, rfl, h, h2, Nat.le_trans hn (by decide), k⟩
theorem v_rev (h : H p = some (.lst xs)) (k : Q .non (upd H p (.lst xs.reverse))) : rReverse (.ref p) [] H Q := ⟨p, xs, rfl, rfl, h, k⟩
theorem v_clear (h : H p = some (.lst xs)) (k : Q .non (upd H p (.lst []))) : rClear (.ref p) [] H Q := ⟨p, xs, rfl, rfl, h, k⟩
theorem v_pop (h : H p = some (.lst xs)) (hv : xs[xs.length - 1]? = some v) (k : Q v (upd H p (.lst xs.dropLast))) : rPop (.ref p) [] H Q := ⟨p, xs, v, rfl, rfl, h, hv, k⟩
theorem v_slL {lo hi : Option Int} (h : SqL K H p xs) (k : ∀ q, H q = none → Q (.ref q) (upd H q (.lst (cutV xs lo hi)))) : rSlL K (.ref p) lo hi H Q := ⟨p, xs, rfl, h, k⟩
theorem v_listL (h : SqL K H p xs) (k : ∀ l, H l = none → Q (.ref l) (upd H l (.lst xs))) : ∃ p' ys, [V.ref p] = [.ref p'] ∧ (SqL K H p' ys ∨ SqT K H p' ys) ∧ ∀ l, H l = none → Q (.ref l) (upd H l (.lst ys)) := ⟨p, xs, rfl, .inl h, k⟩
theorem v_listT (h : SqT K H p xs) (k : ∀ l, H l = none → Q (.ref l) (upd H l (.lst xs))) : ∃ p' ys, [V.ref p] = [.ref p'] ∧ (SqL K H p' ys ∨ SqT K H p' ys) ∧ ∀ l, H l = none → Q (.ref l) (upd H l (.lst ys)) := ⟨p, xs, rfl, .inr h, k⟩
theorem v_sum {ns : List Int} (h : SqL K H p (ns.map V.int)) (k : Q (.int ns.sum) H) : rSum K [.ref p] H Q := ⟨p, ns, rfl, h, k⟩
theorem v_isi {c : V} {t u : Value} {b : Bool} (h1 : ClsV c u) (h2 : TyX K H x t) (h3 : PySem.W.kitOne K t u = some b) (k : Q (.bl b) H) : rIsi K [x, c] H Q := ⟨x, c, t, u, b, rfl, h1, h2, h3, k⟩
theorem v_max2 {n m : Int} (k : Q (.int (if m > n then m else n)) H) : ∃ i j, [V.int n, V.int m] = [.int i, .int j] ∧ Q (.int (if j > i then j else i)) H := ⟨n, m, rfl, k⟩
theorem v_min2 {n m : Int} (k : Q (.int (if m < n then m else n)) H) : ∃ i j, [V.int n, V.int m] = [.int i, .int j] ∧ Q (.int (if j < i then j else i)) H := ⟨n, m, rfl, k⟩
theorem v_bits {n : Int} (k : Q (.int (Builtin.Int.intBits n : Nat)) H) : ∃ i, V.int n = .int i ∧ Q (.int (Builtin.Int.intBits i : Nat)) H := ⟨n, rfl, k⟩
theorem r_bits (h : ta σ H fun x H1 => ∃ i, x = .int i ∧ Q (.int (Builtin.Int.intBits i : Nat)) H1) : tBits ta σ H Q := h
end

/-- 10 ** 60 -/
def big60 : Int := 10 ^ 60
theorem big60_pos : 0 < big60 := by unfold big60; decide
theorem big60_lt : big60 < 2 ^ 200 := by unfold big60; decide +kernel
section
variable {K : PySem.W.Frag} {H : Hp} {Q : VK} {x : V}
theorem v_pow60 (k : Q (.int big60) H) : aPow (.int 10) (.int 60) H Q := ⟨⟨by decide, by decide, by decide⟩, k⟩
theorem v_isiIT {n : Int} (k : Q (.bl true) H) : rIsi K [.int n, .ty "int"] H Q := ⟨.int n, .ty "int", .type "int", .type "int", true, rfl, .ty _, .base (.int n), by rfl, k⟩
theorem v_isiIB {n : Int} (k : Q (.bl false) H) : rIsi K [.int n, .ty "bool"] H Q := ⟨.int n, .ty "bool", .type "int", .type "bool", false, rfl, .ty _, .base (.int n), by rfl, k⟩
end
theorem map_at {α : Type} {f : α → V} {ns : List α} {i : Nat} {x : V} (h : (ns.map f)[i]? = some x) : ∃ n, ns[i]? = some n ∧ x = f n := by
  rw [List.getElem?_map] at h
  cases e : ns[i]? with
  | none => rw [e] at h; cases h
  | some n => rw [e] at h; exact ⟨n, rfl, (Option.some.inj h).symm⟩
/-- a cut of any list -/
def cutL {α : Type} (xs : List α) (lo hi : Option Int) : List α := (xs.drop (HT.sIx xs.length 0 lo)).take (HT.sIx xs.length xs.length hi - HT.sIx xs.length 0 lo)
theorem cut_map {α : Type} (f : α → V) (ns : List α) (lo hi : Option Int) : cutV (ns.map f) lo hi = (cutL ns lo hi).map f := by
  unfold cutV cutL
  rw [List.length_map, List.map_take, List.map_drop]
theorem cutL_mem {α : Type} {xs : List α} {lo hi : Option Int} {x : α} (h : x ∈ cutL xs lo hi) : x ∈ xs := List.mem_of_mem_drop (List.mem_of_mem_take h)
theorem cutL_len {α : Type} (xs : List α) (lo hi : Option Int) : (cutL xs lo hi).length ≤ xs.length := by
  unfold cutL
  rw [List.length_take, List.length_drop]
  omega
theorem cutL_upto {α : Type} (xs : List α) (k : Nat) : cutL xs none (some (k : Int)) = xs.take k := by
  unfold cutL
  rw [HT.sIx_none, HT.sIx_nat, List.drop_zero, Nat.sub_zero, List.take_eq_take_iff]
  omega
theorem cutL_from {α : Type} (xs : List α) (k : Nat) : cutL xs (some (k : Int)) none = xs.drop k := by
  unfold cutL
  rw [HT.sIx_none, HT.sIx_nat]
  by_cases h : k ≤ xs.length
  · rw [Nat.min_eq_left h, List.take_of_length_le (by rw [List.length_drop]; omega)]
  · have e1 : min k xs.length = xs.length := by omega
    rw [e1, List.drop_length, List.drop_of_length_le (by omega), List.take_nil]
theorem cutL_span {α : Type} (xs : List α) (i j : Nat) : cutL xs (some (i : Int)) (some (j : Int)) = (xs.drop i).take (j - i) := by
  unfold cutL
  rw [HT.sIx_nat, HT.sIx_nat]
  by_cases h : i ≤ xs.length
  · rw [Nat.min_eq_left h]
    by_cases h2 : j ≤ xs.length
    · rw [Nat.min_eq_left h2]
    · rw [Nat.min_eq_right (by omega), List.take_of_length_le (by rw [List.length_drop]; omega), List.take_of_length_le (by rw [List.length_drop]; omega)]
  · have e1 : min i xs.length = xs.length := by omega
    rw [e1, List.drop_length, List.drop_of_length_le (by omega), List.take_nil, List.take_nil]
/-- what a law is asked: the script's ints in, True out -/
def lawSp (K : PySem.W.Frag) : Sp := fun vs H Q _ => ∃ (a : Addr) (ns : List Int), vs = [.ref a] ∧ SqL K H a (ns.map V.int) ∧ ns.length ≤ 63 ∧ ∀ H', Q (.bl true) H'
end SH

set_option Elab.async false
set_option linter.all false
set_option maxRecDepth 100000
set_option maxHeartbeats 4000000
/-! SHD: functions that are made by a def and handed out -/
namespace SH
open PySem PySem.Spec PyProof.Rows L2 NdefX LamX

/-- the cell at c holds v -/
def cellO (c : Addr) (v : V) : HO := .ext fun h => ∃ u, L2.RelV v u ∧ h.IsCell c (some u)
theorem cellO_ok {P : Program} {w : World} {H : Hp} {h : Heap} {c : Addr} {v : V} {u : Value} (r : L2.RelV v u) (e : h.IsCell c (some u)) : ObjOk P w H h c (cellO c v) := by
  refine ⟨⟨u, r, e⟩, ?_, fun h1 h2 ⟨u', r', o, ho, hd⟩ st => ⟨u', r', o, st o ho, hd⟩⟩
  obtain ⟨o, ho, _⟩ := e
  exact ⟨o, ho⟩
theorem cellO_at {P : Program} {w : World} {H : Hp} {h : Heap} {c : Addr} {v : V} (hok : HOk P w H h) (e : H c = some (cellO c v)) : ∃ u, L2.RelV v u ∧ h.IsCell c (some u) := (hok c _ e).1
/-- at f stands a function of the text st, made in the def of the name before it; its captured names fr hold ws -/
structure Clo (H : Hp) (f : Addr) (st : Stmt) (name qual : Str) (fr : List Str) (ws : List V) (cl : List (Str × Addr)) (c' : Addr) : Prop where
  fn : H f = some (FnO f (NF.of st name qual cl c'))
  code : H c' = some (CodeO c' qual)
  len : ws.length = fr.length
  cells : ∀ y c, (y, c) ∈ cl → ∃ v, H c = some (cellO c v)
  inj : ∀ x y c, cl.lookup x = some c → cl.lookup y = some c → x = y
  has : ∀ (i : Nat) (y : Str), fr[i]? = some y → ∃ c v, cl.lookup y = some c ∧ ws[i]? = some v ∧ H c = some (cellO c v)
theorem Clo.step {M : List Addr} {H H' : Hp} {f : Addr} {st : Stmt} {name qual : Str} {fr : List Str} {ws : List V} {cl : List (Str × Addr)} {c' : Addr} (c : Clo H f st name qual fr ws cl c') (s : Stp M H H') : Clo H' f st name qual fr ws cl c' := by
  refine ⟨s.fix c.fn True.intro, s.fix c.code True.intro, c.len, fun y a e => ?_, c.inj, fun i y e => ?_⟩
  · obtain ⟨v, h⟩ := c.cells y a e
    exact ⟨v, s.fix h True.intro⟩
  · obtain ⟨a, v, h1, h2, h3⟩ := c.has i y e
    exact ⟨a, v, h1, h2, s.fix h3 True.intro⟩

/-- the cells of a list tracked too -/
def track (cl : List (Str × Addr)) (val : Addr → HO) (H : Hp) : Hp := fun b => match H b with
  | some o => some o
  | none => if b ∈ cl.map (·.2) then some (val b) else none
theorem track_some {cl : List (Str × Addr)} {val : Addr → HO} {H : Hp} {b : Addr} {o : HO} (h : H b = some o) : track cl val H b = some o := by
  unfold track; rw [h]
theorem track_cell {cl : List (Str × Addr)} {val : Addr → HO} {H : Hp} {b : Addr} (h : H b = none) (m : b ∈ cl.map (·.2)) : track cl val H b = some (val b) := by
  unfold track; rw [h]; exact if_pos m
theorem track_out {cl : List (Str × Addr)} {val : Addr → HO} {H : Hp} {b : Addr} (m : b ∉ cl.map (·.2)) : track cl val H b = H b := by
  unfold track
  cases h : H b with
  | some o => rfl
  | none => exact if_neg m
theorem track_none {cl : List (Str × Addr)} {val : Addr → HO} {H : Hp} {b : Addr} (h : track cl val H b = none) : H b = none ∧ b ∉ cl.map (·.2) := by
  unfold track at h
  cases e : H b with
  | some o => rw [e] at h; cases h
  | none =>
    rw [e] at h
    refine ⟨rfl, fun m => ?_⟩
    have h : (if b ∈ cl.map (·.2) then some (val b) else none) = none := h
    rw [if_pos m] at h
    cases h
theorem track_ok {P : Program} {w : World} {H : Hp} {h : Heap} {cl : List (Str × Addr)} {val : Addr → HO} (hok : HOk P w H h) (hv : ∀ b ∈ cl.map (·.2), H b = none → ObjOk P w (track cl val H) h b (val b)) : HOk P w (track cl val H) h := fun b o e => by
  cases q : H b with
  | some u =>
    rw [track_some q] at e
    cases e
    exact (hok b o q).stay (fun _ _ _ z => z) (fun c z => track_some z) fun c xs z => track_some z
  | none =>
    by_cases m : b ∈ cl.map (·.2)
    · rw [track_cell q m] at e
      cases e
      exact hv b m q
    · rw [track_out m, q] at e; cases e

/-- the body of a def that makes a function and hands it out has come to its end -/
def Made (X : Cx) (σ : L2.St) (H : Hp) (T : List NTab) (i : Nat) (st : Stmt) (nm : Str) : Flow → Shared → Prop := fun fl s' => ∃ f' c' H1, Inv X [] (σ.set i (some (.ref f'))) H1 s' ∧ fl = .ret (.ref f') ∧ ExtN H H1 ∧ (∀ b, H1 b = Option.none → H b = Option.none) ∧ TabsN T H1 ∧ H f' = none ∧
  H1 f' = some (FnO f' (NF.of st nm (X.env.qual ++ nm) (cloFrom X.env.cells (C8.fnScope st).names []) c')) ∧ H1 c' = some (CodeO c' (X.env.qual ++ nm))
theorem mk_body {X : Cx} {σ : L2.St} {H : Hp} {s : Shared} {c P' : Addr} {nm : Str} {pos pos2 pos3 : Pos} {T : List NTab} {nmf : Nat → Nat → Str} {i : Nat} {st : Stmt} (I : Inv X [] σ H s)
    (hst : st = .FunctionDef nm (C8.fnArgs st) (C8.fnBody st) [] none [] (C8.fnScope st) none nm pos)
    (TB : TabB X.base X.mg c P') (hcode : X.env.code = .ref c) (hm : (P', nmf) ∈ T) (hn : nmf pos.line pos.col = X.env.qual ++ nm) (hu : ∀ p ∈ T, p.1 = P' → p.2 = nmf)
    (hfree : ∀ y ∈ (C8.fnScope st).names, y.2 = .free → X.env.scope.names.lookup y.1 = some .cell)
    (hd0 : (C8.fnArgs st).defaults = []) (hk0 : (C8.fnArgs st).kw_defaults = []) (ha : annTrees (C8.fnArgs st) none X.env = []) (hN : X.N.Nodup) (hf : X.fn nm = true ∨ X.env.scope.names.lookup nm = some .local)
    (hi : X.N[i]? = some nm) (hx : X.env.scope.names.lookup nm = some .local) (hdb : (nm == ("__debug__" : Str)) = false) (hcb : (nm == ("__classdict__" : Str)) = false) (hT : TabsN T H) :
    wpAny (model X.prog X.w) X.A (execs [st, .Return (some (.Name nm pos3)) pos2] X.env) (Made X σ H T i st nm) X.xe s := by
  have first := ps_ndefMS (X := X) (i := i) (T := T) (nm := nmf) (P := P') (c := c) hst TB hcode hm hn hu (fun y hy e => .inl (hfree y hy e)) hd0 hk0 ha hN hi (.inl hx) hf
  refine wpAny_execs_cons (thn (first.run [] s σ H ⟨fun σ1 H1 => ∃ f' c', σ1 = σ.set i (some (.ref f')) ∧ ExtN H H1 ∧ (∀ b, H1 b = Option.none → H b = Option.none) ∧ TabsN T H1 ∧ H f' = none ∧
      H1 f' = some (FnO f' (NF.of st nm (X.env.qual ++ nm) (cloFrom X.env.cells (C8.fnScope st).names []) c')) ∧ H1 c' = some (CodeO c' (X.env.qual ++ nm)), fun _ _ => False, fun _ _ => False, fun _ _ => False⟩ I
        ⟨hT, fun f' c' H1 e n t z e1 e2 => ⟨f', c', rfl, e, n, t, z, e1, e2⟩⟩) fun fl s2 q => ?_)
  cases fl with
  | next =>
    obtain ⟨σ1, H1, I1, f', c', rfl, e1, e2, e3, e4, e5, e6⟩ := q
    have hv : (σ.set i (some (V.ref f')))[i]? = some (some (.ref f')) := by
      have hlt : i < X.N.length := (List.getElem?_eq_some_iff.mp hi).1
      rw [List.getElem?_set_self (by rw [I.len]; exact hlt)]
    refine wpAny_execs_cons (wpAny_Return_some (pos := pos2) (thn ((pe_var (X := X) (pos := pos3) hi (.inl hx) hdb hcb).run [] s2 _ H1 (fun v H2 => v = .ref f' ∧ H2 = H1) I1 ⟨.ref f', hv, rfl, rfl⟩) fun u s3 q3 => ?_))
    obtain ⟨v, H2, I2, r2, ev, eH⟩ := q3
    subst ev
    subst eH
    obtain rfl : u = Value.ref f' := r2
    exact ⟨f', c', _, I2, rfl, e1, e2, e3, e4, e5, e6⟩
  | ret v => obtain ⟨_, _, _, _, _, z⟩ := q; exact z.elim
  | brk => obtain ⟨_, _, _, z⟩ := q; exact z.elim
  | cont => obtain ⟨_, _, _, z⟩ := q; exact z.elim
section
variable {P : Program} {w : World} {K : PySem.W.Frag} {mg : Str → Option Value} {base : Heap} {CX : CXT}

/-- a def that makes a function of its parameters and hands it out -/
theorem maker {k : Nat} {f c P' : Addr} {name qual nm : Str} {params : Arguments} {body : List Stmt} {scope : Scope} {dV kV doc pm ct oc : Value} {an od : Option Addr} {pos pos2 pos3 : Pos}
    {osl : Array (Option Value)} {N ps fr : List Str} {sp : Sp} {T : List NTab} {nmf : Nat → Nat → Str} {i : Nat} {st : Stmt} {ix : List Nat} (lk : K.lookup f = some ⟨oc, od, .func (PySem.W.fnOf name qual params body scope dV kV doc pm an (.ref c) ct), osl⟩) (hcd : PySem.W.codeIn K (.ref c) qual = true) (S : FnScope N ps scope)
    (hst : st = .FunctionDef nm (C8.fnArgs st) (C8.fnBody st) [] none [] (C8.fnScope st) none nm pos)
    (hbody : body = [st, .Return (some (.Name nm pos3)) pos2])
    (TB : TabB base mg c P') (hm : (P', nmf) ∈ T) (hn : nmf pos.line pos.col = (qual ++ ".<locals>.") ++ nm) (hu : ∀ p ∈ T, p.1 = P' → p.2 = nmf) (hq : ∀ n g, (envOfC qual scope n g (.ref c)).qual = qual ++ ".<locals>.")
    (hfree : ∀ y ∈ (C8.fnScope st).names, y.2 = .free → scope.names.lookup y.1 = some .cell) (hfr : ∀ y ∈ fr, (y, NameKind.free) ∈ (C8.fnScope st).names) (hfr2 : ∀ y ∈ (C8.fnScope st).names, y.2 = .free → y.1 ∈ fr)
    (hd0 : (C8.fnArgs st).defaults = []) (hk0 : (C8.fnArgs st).kw_defaults = []) (ha : ∀ env, annTrees (C8.fnArgs st) none env = [])
    (hi : N[i]? = some nm) (hx : scope.names.lookup nm = some .local) (hip : ps.length ≤ i) (hdb : (nm == ("__debug__" : Str)) = false) (hcb : (nm == ("__classdict__" : Str)) = false)
    (hix : ix.map (fun j => ps[j]?) = fr.map some)
    (len : ∀ vs H Q E, sp vs H Q E → vs.length = ps.length)
    (hsp : ∀ vs H Q E, sp vs H Q E → TabsN T H ∧ ∀ (f' : Addr) (H' : Hp) (cl : List (Str × Addr)) (c' : Addr), ExtN H H' → (∀ b, H' b = Option.none → H b = Option.none) → TabsN T H' → H f' = none → Clo H' f' st nm ((qual ++ ".<locals>.") ++ nm) fr (ix.map fun j => vs.getD j .non) cl c' → Q (.ref f') H') :
    FnOk P w K mg base CX (k + 1) f (PySem.W.fnOf name qual params body scope dV kV doc pm an (.ref c) ct) ps sp := by
  refine ⟨len, fun A outer s H args us vs Q E hr e0 hb r hs => ?_⟩
  have hl := len _ _ _ _ hs
  have KX : K.In s.heap := e0.mod.kin.keeps fun b o e => (e0.bs b o e).1
  have lim : s.heap.NoLimit := e0.mod.nolimit.keeps fun b o e => (e0.bs b o e).1
  have hkind : ∀ y ∈ ps.zip us, scope.names.lookup y.1 = some .local ∨ (scope.names.lookup y.1 = some .cell ∧ ((cellsFrom (s.heap.objs.size + 1) scope.names []).lookup y.1).isSome = true) := fun ⟨n, v⟩ hy => by
    rcases S.par n (List.of_mem_zip hy).1 with q | q
    · exact .inl q
    · exact .inr ⟨q, PySem.W.cellsFrom_some _ _ _ (.inl q)⟩
  refine codeAny_call_function hr.depth (KX _ _ lk) rfl S.co S.gen rfl (PySem.W.codeRec_of KX hcd) (hb _ _ _ _ ?_)
  refine wpAny_newFunctionEnv_cells S.kind hkind fun env he s1 x => ?_
  subst he
  refine ⟨lim.keeps x.toInCall.keep, codeAny_func ?_⟩
  obtain ⟨hT, hend⟩ := hsp vs H Q E hs
  have I : Inv (cxOf CX P w K mg base N qual scope f (.ref c) A outer s H E) [] (L2.start N vs) H s1 := inv_start S hr.hd e0 hl r x
  have X0 : (cxOf CX P w K mg base N qual scope f (.ref c) A outer s H E).env.qual = qual ++ ".<locals>." := hq _ _
  have B := mk_body (X := cxOf CX P w K mg base N qual scope f (.ref c) A outer s H E) (pos2 := pos2) (pos3 := pos3) I hst TB rfl hm (by rw [X0]; exact hn) hu hfree hd0 hk0 (ha _) S.nd (.inl rfl) hi hx hdb hcb hT
  rw [← hbody] at B
  refine wpAny_mono B (fun fl s' hs => ?_) fun e s' hs => hs
  obtain ⟨f', c', H1, J, rfl, e1, e2, e3, e4, e5, e6⟩ := hs
  rw [X0] at e5 e6
  generalize hcl : cloFrom (cxOf CX P w K mg base N qual scope f (.ref c) A outer s H E).env.cells (C8.fnScope st).names [] = cl at e5
  have hcells : ∀ y ∈ (C8.fnScope st).names, y.2 = .free → ∃ a, (cxOf CX P w K mg base N qual scope f (.ref c) A outer s H E).env.cells.lookup y.1 = some a := fun y hy e => J.ok.has _ (.inl (hfree y hy e))
  have clm : ∀ y a, cl.lookup y = some a → (cxOf CX P w K mg base N qual scope f (.ref c) A outer s H E).env.cells.lookup y = some a := fun y a e => clo_cm hcells (by rw [hcl]; exact e)
  have clf : ∀ y a, (y, a) ∈ cl → y ∈ fr ∧ cl.lookup y = some a := fun y a m => by
    rw [← hcl] at m
    rcases cloFrom_mem m with z | ⟨z1, z2⟩
    · cases z
    · obtain ⟨a1, h1⟩ := hcells _ z1 rfl
      have h1 : (cxOf CX P w K mg base N qual scope f (.ref c) A outer s H E).env.cells.lookup y = some a1 := h1
      have h2 := clo_has hcells z1 h1
      rw [hcl] at h2
      have e : a = a1 := by rw [z2, h1]; rfl
      rw [e]
      exact ⟨hfr2 _ z1 rfl, h2⟩
  -- what each captured name holds
  have val : ∀ y ∈ fr, ∃ a v u, cl.lookup y = some a ∧ L2.RelV v u ∧ s'.heap.IsCell a (some u) ∧ ∀ m : Nat, fr[m]? = some y → (ix.map fun j => vs.getD j .non)[m]? = some v := by
    intro y hy
    obtain ⟨m, hm'⟩ := List.mem_iff_getElem?.mp hy
    have q : (ix.map fun j => ps[j]?)[m]? = some (some y) := by rw [hix, List.getElem?_map, hm']; rfl
    rw [List.getElem?_map] at q
    cases ej : ix[m]? with
    | none => rw [ej] at q; cases q
    | some j =>
      rw [ej] at q
      have hj : ps[j]? = some y := Option.some.inj q
      have hjl : j < ps.length := (List.getElem?_eq_some_iff.mp hj).1
      have hNj : N[j]? = some y := by
        rw [← hj, ← S.pre, List.getElem?_take_of_lt hjl]
      obtain ⟨v, hv⟩ : ∃ v, vs[j]? = some v := ⟨vs[j]'(by omega), by simp [show j < vs.length by omega]⟩
      have hs : ((L2.start N vs).set i (some (V.ref f')))[j]? = some (some v) := by
        rw [List.getElem?_set_ne (by omega)]
        unfold L2.start
        rw [List.getElem?_append_left (by rw [List.length_map]; omega), List.getElem?_map, hv] <;> rfl
      have kc : scope.names.lookup y = some .cell := hfree _ (hfr y hy) rfl
      obtain ⟨mm, hn2, hl2⟩ := J.loc
      obtain ⟨u, ru, lk2⟩ := hl2 j y v hNj hs (.inr (.inl kc))
      rcases lk2 with ⟨z, _⟩ | ⟨_, a, ha2, hcell⟩
      · have z' : scope.names.lookup y = some .local := z
        rw [kc] at z'; cases z'
      · have h2 := clo_has hcells (hfr y hy) ha2
        rw [hcl] at h2
        refine ⟨a, v, u, h2, ru, hcell, fun m' hm2 => ?_⟩
        -- any place of y
        have q2 : (ix.map fun j => ps[j]?)[m']? = some (some y) := by rw [hix, List.getElem?_map, hm2]; rfl
        rw [List.getElem?_map] at q2
        cases ej2 : ix[m']? with
        | none => rw [ej2] at q2; cases q2
        | some j2 =>
          rw [ej2] at q2
          have hj2 : ps[j2]? = some y := Option.some.inj q2
          have ndP : ps.Nodup := by rw [← S.pre]; exact S.nd.sublist (List.take_sublist _ _)
          have : j2 = j := L2.nodup_ix ndP hj2 hj
          subst this
          rw [List.getElem?_map, ej2]
          show some (vs.getD j2 .non) = some v
          rw [List.getD_eq_getElem?_getD, hv] <;> rfl
  let pick : Addr → HO := fun a => cellO a (match cl.find? (fun p => p.2 == a) with | some p => (match fr.findIdx? (fun z => z == p.1) with | some m => (ix.map fun j => vs.getD j .non).getD m .non | none => .non) | none => .non)
  have pick_of : ∀ y a, cl.lookup y = some a → ∀ v, (∀ m : Nat, fr[m]? = some y → (ix.map fun j => vs.getD j .non)[m]? = some v) → y ∈ fr → pick a = cellO a v := by
    intro y a hya v hv hy
    show cellO a _ = cellO a v
    have hmem : (y, a) ∈ cl := PySem.mem_of_lookup hya
    cases ef : cl.find? (fun p => p.2 == a) with
    | none =>
      have := List.find?_eq_none.mp ef (y, a) hmem
      simp at this
    | some p =>
      have hp1 := List.find?_some ef
      have hp2 := List.mem_of_find?_eq_some ef
      have e1 : p.2 = a := by simpa using hp1
      obtain ⟨hpf, hpl⟩ := clf p.1 p.2 hp2
      rw [e1] at hpl
      have ey : p.1 = y := J.ok.inj _ _ _ (clm _ _ hpl) (clm _ _ hya)
      show cellO a (match fr.findIdx? (fun z => z == p.1) with | some m => (ix.map fun j => vs.getD j .non).getD m .non | none => .non) = cellO a v
      rw [ey]
      cases ei : fr.findIdx? (fun z => z == y) with
      | none =>
        have := List.findIdx?_eq_none_iff.mp ei y hy
        simp at this
      | some m =>
        obtain ⟨hm1, hm2, _⟩ := List.findIdx?_eq_some_iff_getElem.mp ei
        have e2 : fr[m] = y := by simpa using hm2
        have := hv m (by rw [List.getElem?_eq_getElem hm1, e2])
        show cellO a ((ix.map fun j => vs.getD j .non).getD m .non) = cellO a v
        rw [List.getD_eq_getElem?_getD, this] <;> rfl
  have offc : ∀ a, a ∈ cl.map (·.2) → H1 a = none ∧ s.heap.objs.size ≤ a := fun a m => by
    obtain ⟨p, hp, rfl⟩ := List.mem_map.mp m
    obtain ⟨_, h2⟩ := clf p.1 p.2 hp
    exact ⟨J.freeC _ _ (clm _ _ h2), J.ok.cab _ _ rfl (clm _ _ h2)⟩
  have hok2 : HOk P w (track cl pick H1) s'.heap := track_ok J.hok fun a m _ => by
    obtain ⟨p, hp, rfl⟩ := List.mem_map.mp m
    obtain ⟨hy, h2⟩ := clf p.1 p.2 hp
    obtain ⟨a', v, u, h3, h4, h5, h6⟩ := val p.1 hy
    rw [h2] at h3
    cases h3
    rw [pick_of _ _ h2 v h6 hy]
    exact cellO_ok h4 h5
  have un2 : Un (frs outer) [] H (track cl pick H1) s.heap s'.heap := by
    have u := J.base
    refine ⟨u.keep, u.slot, fun b o q n hb => ?_, u.there, fun b xs q => track_some (u.tups b xs q), fun b o xs q => track_some (u.frzs b o xs q), fun b xs q => ?_⟩
    · rw [track_out fun m => absurd (Heap.lt_size q) (Nat.not_lt.mpr (offc b m).2)]
      exact u.free b o q n hb
    · obtain ⟨more, h2⟩ := u.tbls b xs q
      exact ⟨more, track_some h2⟩
  refine ⟨.ref f', track cl pick H1, J.os, J.bare, un2, hok2, rfl, hend f' _ cl c' (fun b o q n => track_some (e1 b o q n)) (fun b q => e2 b (track_none q).1) (e3.ext fun b o q => track_some q) e4 ?_⟩
  refine ⟨track_some e5, track_some e6, ?_, fun y a e => ?_, fun x y a h1 h2 => J.ok.inj _ _ _ (clm _ _ h1) (clm _ _ h2), fun m y e => ?_⟩
  · have := congrArg List.length hix
    rw [List.length_map, List.length_map] at this
    rw [List.length_map]; exact this
  · have m : a ∈ cl.map (·.2) := List.mem_map.mpr ⟨(y, a), e, rfl⟩
    exact ⟨_, track_cell (offc a m).1 m⟩
  · have hy := List.mem_of_getElem? e
    obtain ⟨a, v, u, h3, h4, h5, h6⟩ := val y hy
    have m' : a ∈ cl.map (·.2) := List.mem_map.mpr ⟨(y, a), PySem.mem_of_lookup h3, rfl⟩
    refine ⟨a, v, h3, h6 m e, ?_⟩
    rw [track_cell (offc a m').1 m', pick_of _ _ h3 v h6 hy]

/-! ### such a function called -/
def untrack (cl : List (Str × Addr)) (H : Hp) : Hp := fun b => if b ∈ cl.map (·.2) then none else H b
def retrack (cl : List (Str × Addr)) (H H' : Hp) : Hp := fun b => match H' b with
  | some o => some o
  | none => if b ∈ cl.map (·.2) then H b else none
theorem retrack_some {cl : List (Str × Addr)} {H H' : Hp} {b : Addr} {o : HO} (h : H' b = some o) : retrack cl H H' b = some o := by unfold retrack; rw [h]
theorem retrack_cell {cl : List (Str × Addr)} {H H' : Hp} {b : Addr} (h : H' b = none) (m : b ∈ cl.map (·.2)) : retrack cl H H' b = H b := by unfold retrack; rw [h]; exact if_pos m
theorem retrack_out {cl : List (Str × Addr)} {H H' : Hp} {b : Addr} (m : b ∉ cl.map (·.2)) : retrack cl H H' b = H' b := by
  unfold retrack
  cases h : H' b with
  | some o => rfl
  | none => exact if_neg m
theorem untrack_out {cl : List (Str × Addr)} {H : Hp} {b : Addr} (m : b ∉ cl.map (·.2)) : untrack cl H b = H b := if_neg m
theorem untrack_in {cl : List (Str × Addr)} {H : Hp} {b : Addr} (m : b ∈ cl.map (·.2)) : untrack cl H b = none := if_pos m
theorem untrack_some {cl : List (Str × Addr)} {H : Hp} {b : Addr} {o : HO} (h : untrack cl H b = some o) : b ∉ cl.map (·.2) ∧ H b = some o := by
  unfold untrack at h
  by_cases m : b ∈ cl.map (·.2)
  · rw [if_pos m] at h; cases h
  · rw [if_neg m] at h; exact ⟨m, h⟩
/-- no function, no cell -/
def Low : HO → Prop
  | .ext _ => False
  | _ => True
/-- what such a function promises; fin hands its end back to the caller's heap -/
structure COk (P : Program) (w : World) (K : PySem.W.Frag) (mg : Str → Option Value) (base : Heap) (CX : CXT) (k : Nat) (st : Stmt) (nm qual : Str) (ps fr : List Str) (sp : List V → Sp) : Prop where
  len : ∀ ws vs H Q E, sp ws vs H Q E → vs.length = ps.length
  run : ∀ (A : Around) (outer : List Env) (s : Shared) (H : Hp) (us : List Value) (vs : List V) (f : Addr) (cl : List (Str × Addr)) (c' : Addr) (ws : List V) (Q : VK) (E : XK), Room k A → Env0 P w K mg base A outer s H → Clo H f st nm qual fr ws cl c' → Vals vs us → sp ws vs H Q E →
    codeAny (model P w) A (.call (.ref f) ⟨us, []⟩) (CR CX0 outer P w H s Q E) s
theorem clo_mem {H : Hp} {f : Addr} {st : Stmt} {nm qual : Str} {fr : List Str} {ws : List V} {cl : List (Str × Addr)} {c' : Addr} (C : Clo H f st nm qual fr ws cl c') {b : Addr} (m : b ∈ cl.map (·.2)) : ∃ v, H b = some (cellO b v) := by
  obtain ⟨p, hp, rfl⟩ := List.mem_map.mp m
  exact C.cells p.1 p.2 hp
theorem cok_of {k : Nat} {st : Stmt} {nm qual : Str} {N ps fr : List Str} {sp : List V → Sp} (S : NScope N ps fr (C8.fnScope st))
    (hb : ∀ (cl : List (Str × Addr)) (c' : Addr) (doc pm ctv : Value) (us : List Value), us.length = ps.length → bindArgs ((NF.of st nm qual cl c').fd doc pm ctv) ⟨us, []⟩ = pure (ps.zip us)) (len : ∀ ws vs H Q E, sp ws vs H Q E → vs.length = ps.length)
    (hbody : ∀ (A : Around) (outer : List Env) (s : Shared) (f : Addr) (cl : List (Str × Addr)) (c' : Addr) (H H0 : Hp) (vs : List V) (ws : List V) (Q Q0 : VK) (E : XK), Room k (A.deeper (envF (NF.of st nm qual cl c') f s.heap.objs.size)) → sp ws vs H Q E → ws.length = fr.length →
      (∀ b o, H b = some o → Low o → H0 b = some o) → (∀ (v : V) (M : List Addr) (H2 : Hp), Stp M H0 H2 → (∀ H', Stp M H H' → (∀ b o, H2 b = some o → H' b = some o) → Q v H') → Q0 v H2) →
      ∃ t, PSs (ncx CX0 P w K mg base N (NF.of st nm qual cl c') f A outer s H0 E) (C8.fnBody st) t ∧ t { nx := fun _ H' => Q0 .non H', rt := Q0 } (startF N vs (ws.map some)) H0) :
    COk P w K mg base CX (k + 1) st nm qual ps fr sp := by
  refine ⟨len, fun A outer s H us vs f cl c' ws Q E hr e0 C r hsp => ?_⟩
  have cellN : ∀ b, b ∈ cl.map (·.2) → ∃ v, H b = some (cellO b v) := fun b m => clo_mem C m
  have lo : ∀ b o, H b = some o → (∀ v, o ≠ cellO b v) → untrack cl H b = some o := fun b o e n => by
    rw [untrack_out fun m => ?_]
    · exact e
    · obtain ⟨v, hv⟩ := cellN b m
      rw [e] at hv
      exact n v (Option.some.inj hv)
  have nf : untrack cl H f = some (FnO f (NF.of st nm qual cl c')) := by
    have ho := fnO_at e0.hok C.fn
    rw [untrack_out fun m => ?_]
    · exact C.fn
    · obtain ⟨v, hv⟩ := cellN f m
      obtain ⟨u, _, o, h1, h2⟩ := cellO_at e0.hok hv
      obtain ⟨od, sl, doc, pm, ctv, h3⟩ := ho
      rw [h1] at h3
      cases h3
      cases h2
  have nc : untrack cl H c' = some (CodeO c' qual) := by
    have ho := codeO_at e0.hok C.code
    rw [untrack_out fun m => ?_]
    · exact C.code
    · obtain ⟨v, hv⟩ := cellN c' m
      obtain ⟨u, _, o, h1, h2⟩ := cellO_at e0.hok hv
      obtain ⟨c2, oc, vs2, t, e1, h3, h4, _⟩ := ho
      cases e1
      rw [h1] at h3
      cases h3
      rw [h2] at h4
      cases h4
  have hok0 : HOk P w (untrack cl H) s.heap := fun b o e => by
    obtain ⟨m, e⟩ := untrack_some e
    refine (e0.hok b o e).stay (fun _ _ _ z => z) (fun d z => lo d _ z fun v q => ?_) fun d xs z => lo d _ z fun v q => ?_
    · cases q
    · cases q
  have env0 : Env0 P w K mg base A outer s (untrack cl H) := ⟨e0.frames, e0.mod, fun b o e => ⟨(e0.bs b o e).1, by
      unfold untrack
      split
      · rfl
      · exact (e0.bs b o e).2⟩, e0.bsz, e0.funs, fun b hb => by
      unfold untrack
      split
      · rfl
      · exact e0.frf b hb, hok0, e0.bare⟩
  have cells : CellsAt cl fr (ws.map some) s.heap (untrack cl H) := by
    refine ⟨by rw [List.length_map]; exact C.len, fun y a e => ?_, C.inj, fun i y e => ?_⟩
    · have m : a ∈ cl.map (·.2) := List.mem_map.mpr ⟨(y, a), PySem.mem_of_lookup e, rfl⟩
      obtain ⟨v, hv⟩ := cellN a m
      obtain ⟨u, _, z⟩ := cellO_at e0.hok hv
      exact ⟨untrack_in m, _, z⟩
    · obtain ⟨a, v, h1, h2, h3⟩ := C.has i y e
      refine ⟨a, h1, fun v' e' => ?_⟩
      rw [List.getElem?_map, h2] at e'
      cases e'
      exact cellO_at e0.hok h3
  let Q0 : VK := fun v H2 => (∀ b ∈ cl.map (·.2), H2 b = none) → Q v (retrack cl H H2)
  have nok : NOk P w K mg base CX0 (k + 1) f (NF.of st nm qual cl c') ps fr (fun ws' vs' H' Q' E' => ws' = ws.map some ∧ vs' = vs ∧ H' = untrack cl H ∧ Q' = Q0 ∧ E' = E) := by
    refine nok_of S (hb cl c') (fun _ _ _ _ _ h => by obtain ⟨_, rfl, _⟩ := h; exact len _ _ _ _ _ hsp) fun A1 outer1 s1 H1 vs1 ws1 Q1 E1 hr1 hf hc hl h => ?_
    obtain ⟨rfl, rfl, rfl, rfl, rfl⟩ := h
    refine hbody A1 outer1 s1 f cl c' H _ vs1 ws Q Q0 E1 hr1 hsp C.len (fun b o e n => lo b o e fun v q => ?_) fun v M H2 st2 hq hc2 => ?_
    · subst q; exact n
    · refine hq _ ⟨fun b o e n => ?_, fun b e => ?_⟩ fun b o e => retrack_some e
      · by_cases m : b ∈ cl.map (·.2)
        · rw [retrack_cell (hc2 b m) m]; exact e
        · exact retrack_some (st2.same b o (by rw [untrack_out m]; exact e) n)
      · by_cases m : b ∈ cl.map (·.2)
        · rw [retrack_cell (hc2 b m) m] at e; exact e
        · rw [retrack_out m] at e
          have := st2.dom b e
          rw [untrack_out m] at this
          exact this
  refine codeAny_mono (nok.run A outer s _ us vs _ Q0 E hr env0 nf nc cells r ⟨rfl, rfl, rfl, rfl, rfl⟩) fun rr s' hq => ?_
  cases rr with
  | error e => exact hq
  | ok fl =>
    cases fl with
    | next => exact hq
    | brk => exact hq
    | cont => exact hq
    | ret u =>
      obtain ⟨v, H2, os, bare, un, hok2, rv, q⟩ := hq
      have cellAt : ∀ b, b ∈ cl.map (·.2) → ∃ v u o, H b = some (cellO b v) ∧ L2.RelV v u ∧ s.heap.get? b = some o ∧ o.data = .cell (some u) ∧ untrack cl H b = none := fun b m => by
        obtain ⟨v, hv⟩ := cellN b m
        obtain ⟨u, h1, o, h2, h3⟩ := cellO_at e0.hok hv
        exact ⟨v, u, o, hv, h1, h2, h3, untrack_in m⟩
      have free2 : ∀ b ∈ cl.map (·.2), H2 b = none := fun b m => by
        obtain ⟨v, u, o, h1, h2, h3, h4, h5⟩ := cellAt b m
        exact un.free b o h3 h5 (by simp)
      refine ⟨v, retrack cl H H2, os, bare, ?_, ?_, rv, q free2⟩
      · have un0 : ∀ b, H b = none → untrack cl H b = none := fun b e => by
          unfold untrack
          split
          · rfl
          · exact e
        refine ⟨fun b o e n hb hx => un.keep b o e (un0 b n) hb hx, fun b o e n hb hx => un.slot b o e (un0 b n) hb hx, fun b o e n hx => ?_, un.there, fun b xs e => ?_, fun b o xs e => ?_, fun b xs e => ?_⟩
        · have m : b ∉ cl.map (·.2) := fun m => by
            obtain ⟨v, hv⟩ := cellN b m
            rw [n] at hv; cases hv
          rw [retrack_out m]
          exact un.free b o e (un0 b n) hx
        · exact retrack_some (un.tups b xs (lo b _ e fun v q => by cases q))
        · exact retrack_some (un.frzs b o xs (lo b _ e fun v q => by cases q))
        · obtain ⟨more, h2⟩ := un.tbls b xs (lo b _ e fun v q => by cases q)
          exact ⟨more, retrack_some h2⟩
      · intro b o e
        cases q2 : H2 b with
        | some u2 =>
          rw [retrack_some q2] at e
          cases e
          exact (hok2 b o q2).stay (fun _ _ _ z => z) (fun d z => retrack_some z) fun d xs z => retrack_some z
        | none =>
          by_cases m : b ∈ cl.map (·.2)
          · rw [retrack_cell q2 m] at e
            obtain ⟨v, u, o1, h1, h2, h3, h4, h5⟩ := cellAt b m
            rw [h1] at e
            cases e
            obtain ⟨sl, h6⟩ := un.any h3 h5 (by simp)
            exact cellO_ok h2 ⟨_, h6, h4⟩
          · rw [retrack_out m, q2] at e; cases e

/-- functions that a name may hold, by what they promise -/
structure TelOk (P : Program) (w : World) (K : PySem.W.Frag) (mg : Str → Option Value) (base : Heap) (k : Nat) (at_ : Addr → Hp → Prop) (sp : Addr → Sp) : Prop where
  fn : ∀ (H : Hp) (h : Heap) (f : Addr), HOk P w H h → at_ f H → PySem.W.FnAt f h
  ok : ∀ f vs H Q E, sp f vs H Q E → at_ f H
  run : ∀ (A : Around) (outer : List Env) (s : Shared) (H : Hp) (us : List Value) (vs : List V) (f : Addr) (Q : VK) (E : XK), Room k A → Env0 P w K mg base A outer s H → Vals vs us → sp f vs H Q E →
    codeAny (model P w) A (.call (.ref f) ⟨us, []⟩) (CR CX0 outer P w H s Q E) s
theorem COk.tel {k : Nat} {st : Stmt} {nm qual : Str} {ps fr : List Str} {sp : List V → Sp} (c : COk P w K mg base CX k st nm qual ps fr sp) :
    TelOk P w K mg base k (fun f H => ∃ ws cl c', Clo H f st nm qual fr ws cl c') (fun f vs H Q E => ∃ ws cl c', Clo H f st nm qual fr ws cl c' ∧ sp ws vs H Q E) := by
  refine ⟨fun H h f hok ⟨ws, cl, c', C⟩ => ?_, fun f vs H Q E ⟨ws, cl, c', C, _⟩ => ⟨ws, cl, c', C⟩, fun A outer s H us vs f Q E hr e0 r ⟨ws, cl, c', C, q⟩ => c.run A outer s H us vs f cl c' ws Q E hr e0 C r q⟩
  obtain ⟨od, sl, doc, pm, ctv, ho⟩ := fnO_at hok C.fn
  exact ⟨_, od, _, sl, ho⟩
theorem TelOk.or {k : Nat} {a1 a2 : Addr → Hp → Prop} {s1 s2 : Addr → Sp} (t1 : TelOk P w K mg base k a1 s1) (t2 : TelOk P w K mg base k a2 s2) :
    TelOk P w K mg base k (fun f H => a1 f H ∨ a2 f H) (fun f vs H Q E => s1 f vs H Q E ∨ s2 f vs H Q E) :=
  ⟨fun H h f hok a => a.elim (t1.fn H h f hok) (t2.fn H h f hok), fun f vs H Q E q => q.imp (t1.ok f vs H Q E) (t2.ok f vs H Q E), fun A outer s H us vs f Q E hr e0 r q => q.elim (t1.run A outer s H us vs f Q E hr e0 r) (t2.run A outer s H us vs f Q E hr e0 r)⟩
end
/-- f(..), f a local name -/
def tTel (i : Nat) (at_ : Addr → Hp → Prop) (sp : Addr → Sp) (t : TA) : TE := fun σ H Q => ∃ f, σ[i]? = some (some (.ref f)) ∧ at_ f H ∧ t σ H fun vs H1 => sp f vs H1 Q (fun _ _ _ => False)
section
variable {X : Cx} {k j i : Nat} {at_ : Addr → Hp → Prop} {sp : Addr → Sp} {t : TA} {x : Str} {e : Expr} {es : List Expr} {p pos : Pos}
theorem pe_callTel (c : TelOk X.prog X.w X.K X.mg X.base j at_ sp) (hr : Room k X.A) (hN : X.N[i]? = some x) (hv : Vis X.env.scope x) (ha : PA X (e :: es) t) (hk : j ≤ k := by decide)
    (hd : (x == ("__debug__" : Str)) = false := by decide) (hcd : (x == ("__classdict__" : Str)) = false := by decide)
    (he : starEach (e :: es) X.env = (false, eval e X.env) :: starEach es X.env := by rfl) (hpl : (backTo pos (starEach es X.env)).any (·.1) = false := by rfl) :
    PE X (.Call (.Name x p) (e :: es) [] pos) (tTel i at_ sp t) := by
  refine ⟨fun pins s σ H Q I h => ?_⟩
  obtain ⟨f, hs, hf, ht⟩ := h
  refine wpAny_Call_Name_kw (thn ((pe_var (pos := p) hN hv hd hcd).run pins s σ H (fun v H1 => v = .ref f ∧ H1 = H) I ⟨.ref f, hs, rfl, rfl⟩) fun u s1 ⟨v, H1, I1, r1, q1⟩ => ?_)
  obtain ⟨ev, eH⟩ := q1
  subst ev
  subst eH
  obtain rfl : u = Value.ref f := r1
  refine PySem.W.callWith_F (first := []) (c.fn H1 s1.heap f I1.hok hf) (thn (ha.run pos pins s1 σ H1 _ I1 ht) fun us s2 ⟨vs, H2, I2, r, q⟩ => ⟨c.fn H2 s2.heap f I2.hok (c.ok f vs H2 _ _ q), ?_⟩) he hpl
  show wpAny _ _ (call (.ref f) us) _ _ _
  refine wpAny_call (codeAny_mono (c.run X.A X.stack s2 H2 us vs f Q _ (hr.mono hk) I2.env0 r q) fun r s' hq => ?_)
  cases r with
  | error e => exact hq.elim
  | ok fl =>
    cases fl with
    | ret u => exact I2.after hq
    | next => exact False.elim hq
    | brk => exact False.elim hq
    | cont => exact False.elim hq
theorem r_tel {σ : L2.St} {H : Hp} {Q : VK} {f : Addr} (hs : σ[i]? = some (some (.ref f))) (h : at_ f H) (k : t σ H fun vs H1 => sp f vs H1 Q (fun _ _ _ => False)) : tTel i at_ sp t σ H Q := ⟨f, hs, h, k⟩
end
end SH

set_option Elab.async false
set_option linter.all false
set_option maxRecDepth 100000
set_option maxHeartbeats 4000000
/-! SHE: data, and what == tells of it -/
namespace SH
open PySem PySem.Spec PyProof.Rows L2

/-- Lean values that stand in the heap as data; n: how deep -/
class Enc (α : Type) where
  dec : DecidableEq α
  d : α → PyData
  n : Nat
  lay : ∀ x, (d x).canLay0 = true
  deep : ∀ x, (d x).depth ≤ n
  eqv : ∀ x y, PyData.eqv (d x) (d y) = @decide (x = y) (dec x y)
/-- a tuple of one kind of things -/
structure Tu (α : Type) where
  l : List α
theorem Enc.deepAll {α : Type} [Enc α] : ∀ xs : List α, PyData.depthAll (xs.map Enc.d) ≤ Enc.n α
  | [] => by simp [PyData.depthAll]
  | x :: xs => by
    have h1 := Enc.deep x
    have h2 := Enc.deepAll xs
    simp only [List.map_cons, PyData.depthAll]
    omega
theorem Enc.layAll {α : Type} [Enc α] : ∀ xs : List α, PyData.canLayAll0 (xs.map Enc.d) = true
  | [] => by simp [PyData.canLayAll0]
  | x :: xs => by simp only [List.map_cons, PyData.canLayAll0, Enc.lay x, Enc.layAll xs, Bool.and_self]
theorem Enc.eqvAll {α : Type} [Enc α] : ∀ xs ys : List α, PyData.eqvAll (xs.map Enc.d) (ys.map Enc.d) = @decide (xs = ys) (@instDecidableEqList α Enc.dec xs ys)
  | [], [] => by simp [PyData.eqvAll]
  | x :: xs, [] => by simp [PyData.eqvAll]
  | [], y :: ys => by simp [PyData.eqvAll]
  | x :: xs, y :: ys => by
    rw [List.map_cons, List.map_cons, show PyData.eqvAll (Enc.d x :: xs.map Enc.d) (Enc.d y :: ys.map Enc.d) = (PyData.eqv (Enc.d x) (Enc.d y) && PyData.eqvAll (xs.map Enc.d) (ys.map Enc.d)) by simp only [PyData.eqvAll], Enc.eqv, Enc.eqvAll xs ys]
    have : ∀ (A B C : Prop) (a : Decidable A) (b : Decidable B) (c : Decidable C), (C ↔ A ∧ B) → (@decide A a && @decide B b) = @decide C c := by
      intro A B C a b c h
      by_cases ha : A <;> by_cases hb : B <;> simp [ha, hb, h]
    exact this _ _ _ _ _ _ (by simp)
instance : Enc Int := ⟨inferInstance, .int, 0, fun _ => by simp [PyData.canLay0], fun _ => by simp [PyData.depth], fun x y => by by_cases h : x = y <;> simp [PyData.eqv, h]⟩
instance : Enc Bool := ⟨inferInstance, .bool, 0, fun _ => by simp [PyData.canLay0], fun _ => by simp [PyData.depth], fun x y => by by_cases h : x = y <;> simp [PyData.eqv, h]⟩
instance : Enc Nat := ⟨inferInstance, fun n => .int n, 0, fun _ => by simp [PyData.canLay0], fun _ => by simp [PyData.depth], fun x y => by
  rw [show PyData.eqv (.int (x : Int)) (.int (y : Int)) = ((x : Int) == (y : Int)) by simp only [PyData.eqv]]
  by_cases h : x = y
  · subst h; simp
  · rw [decide_eq_false h]
    exact beq_eq_false_iff_ne.mpr (by omega)⟩
instance {α : Type} [e : Enc α] : Enc (List α) := ⟨@instDecidableEqList α e.dec, fun xs => .list (xs.map Enc.d), Enc.n α + 1, fun xs => by simp only [PyData.canLay0]; exact Enc.layAll xs,
  fun xs => by simp only [PyData.depth]; exact Nat.succ_le_succ (Enc.deepAll xs), fun xs ys => by simp only [PyData.eqv]; exact Enc.eqvAll xs ys⟩
instance {α : Type} [e : Enc α] : Enc (Tu α) := ⟨fun a b => @decidable_of_iff _ (a.l = b.l) (by cases a; cases b; simp) (@instDecidableEqList α e.dec a.l b.l), fun xs => .tuple (xs.l.map Enc.d), Enc.n α + 1, fun xs => by simp only [PyData.canLay0]; exact Enc.layAll xs.l,
  fun xs => by simp only [PyData.depth]; exact Nat.succ_le_succ (Enc.deepAll xs.l), fun xs ys => by
    simp only [PyData.eqv]
    rw [Enc.eqvAll xs.l ys.l]
    cases xs; cases ys
    simp⟩
instance {α β : Type} [e : Enc α] [f : Enc β] : Enc (α × β) := ⟨@instDecidableEqProd α β e.dec f.dec, fun x => .tuple [Enc.d x.1, Enc.d x.2], max (Enc.n α) (Enc.n β) + 1,
  fun x => by simp only [PyData.canLay0, PyData.canLayAll0, Enc.lay]; rfl,
  fun x => by
    have h1 := Enc.deep x.1
    have h2 := Enc.deep x.2
    simp only [PyData.depth, PyData.depthAll]; omega, fun x y => by
    simp only [PyData.eqv, PyData.eqvAll, Enc.eqv, Bool.and_true]
    obtain ⟨a, b⟩ := x
    obtain ⟨c, d⟩ := y
    by_cases ha : a = c <;> by_cases hb : b = d <;> simp [ha, hb]⟩
/-- three in a tuple -/
structure T3 (α β γ : Type) where
  a : α
  b : β
  c : γ
deriving DecidableEq
instance {α β γ : Type} [e : Enc α] [f : Enc β] [g : Enc γ] : Enc (T3 α β γ) := ⟨@instDecidableEqT3 α β γ e.dec f.dec g.dec, fun x => .tuple [Enc.d x.a, Enc.d x.b, Enc.d x.c], max (Enc.n α) (max (Enc.n β) (Enc.n γ)) + 1,
  fun x => by simp only [PyData.canLay0, PyData.canLayAll0, Enc.lay]; rfl,
  fun x => by
    have h1 := Enc.deep x.a
    have h2 := Enc.deep x.b
    have h3 := Enc.deep x.c
    simp only [PyData.depth, PyData.depthAll]; omega, fun x y => by
    simp only [PyData.eqv, PyData.eqvAll, Enc.eqv, Bool.and_true]
    obtain ⟨a, b, c⟩ := x
    obtain ⟨a', b', c'⟩ := y
    by_cases ha : a = a' <;> by_cases hb : b = b' <;> by_cases hc : c = c' <;> simp [ha, hb, hc]⟩

/-- a text of plain signs -/
abbrev SOk := { s : Str // PyData.canLay0 (.str s) = true }
instance : Enc SOk := ⟨inferInstance, fun s => .str s.1, 0, fun s => s.2, fun _ => by simp [PyData.depth], fun x y => by
  rw [show PyData.eqv (.str x.1) (.str y.1) = (x.1 == y.1) by simp only [PyData.eqv]]
  by_cases h : x = y
  · subst h; simp
  · rw [decide_eq_false h]
    exact beq_eq_false_iff_ne.mpr fun z => h (Subtype.ext z)⟩

mutual
theorem dp_stp {K : PySem.W.Frag} {H H' : Hp} (S : Stp [] H H') : ∀ (d : PyData) (v : V), Dp K H v d → Dp K H' v d
  | .none, _, h => by cases h; exact .non
  | .bool _, _, h => by cases h; exact .bl _
  | .int _, _, h => by cases h; exact .int _
  | .str _, _, h => by cases h; exact .str _
  | .list ds, _, h => by
    cases h with
    | lst hs ha => exact .lst (S.sql0 hs) (dp_stpAll S ds _ ha)
  | .tuple ds, _, h => by
    cases h with
    | tup hs ha => exact .tup (S.sqt0 hs) (dp_stpAll S ds _ ha)
  | .dict _, _, h => by cases h
theorem dp_stpAll {K : PySem.W.Frag} {H H' : Hp} (S : Stp [] H H') : ∀ (ds : List PyData) (vs : List V), DpAll K H vs ds → DpAll K H' vs ds
  | [], _, h => by cases h; exact .nil
  | d :: ds, _, h => by
    cases h with
    | cons h1 h2 => exact .cons (dp_stp S d _ h1) (dp_stpAll S ds _ h2)
end

mutual
/-- no list in it -/
def noL : PyData → Bool
  | .none | .bool _ | .int _ | .str _ => true
  | .tuple xs => noLs xs
  | .list _ => false
  | .dict _ => false
def noLs : List PyData → Bool
  | [] => true
  | x :: xs => noL x && noLs xs
end
mutual
theorem dp_stpM {K : PySem.W.Frag} {M : List Addr} {H H' : Hp} (S : Stp M H H') : ∀ (d : PyData) (v : V), noL d = true → Dp K H v d → Dp K H' v d
  | .none, _, _, h => by cases h; exact .non
  | .bool _, _, _, h => by cases h; exact .bl _
  | .int _, _, _, h => by cases h; exact .int _
  | .str _, _, _, h => by cases h; exact .str _
  | .list _, _, n, _ => by simp [noL] at n
  | .tuple ds, _, n, h => by
    cases h with
    | tup hs ha => exact .tup (S.sqtM hs) (dp_stpMs S ds _ (by simpa [noL] using n) ha)
  | .dict _, _, _, h => by cases h
theorem dp_stpMs {K : PySem.W.Frag} {M : List Addr} {H H' : Hp} (S : Stp M H H') : ∀ (ds : List PyData) (vs : List V), noLs ds = true → DpAll K H vs ds → DpAll K H' vs ds
  | [], _, _, h => by cases h; exact .nil
  | d :: ds, _, n, h => by
    have n' : noL d = true ∧ noLs ds = true := by simpa [noLs] using n
    cases h with
    | cons h1 h2 => exact .cons (dp_stpM S d _ n'.1 h1) (dp_stpMs S ds _ n'.2 h2)
end
class Flat (α : Type) [Enc α] : Prop where
  fl : ∀ x : α, noL (Enc.d x) = true
instance : Flat Int := ⟨fun _ => by simp [Enc.d, noL]⟩
instance : Flat Nat := ⟨fun _ => by simp [Enc.d, noL]⟩
instance : Flat Bool := ⟨fun _ => by simp [Enc.d, noL]⟩
instance : Flat SOk := ⟨fun _ => by simp [Enc.d, noL]⟩
instance {α β : Type} [Enc α] [Enc β] [Flat α] [Flat β] : Flat (α × β) := ⟨fun x => by simp only [Enc.d, noL, noLs, Flat.fl]; rfl⟩
instance {α β γ : Type} [Enc α] [Enc β] [Enc γ] [Flat α] [Flat β] [Flat γ] : Flat (T3 α β γ) := ⟨fun x => by simp only [Enc.d, noL, noLs, Flat.fl]; rfl⟩
theorem noLs_map {α : Type} [Enc α] [Flat α] : ∀ xs : List α, noLs (xs.map Enc.d) = true
  | [] => by simp [noLs]
  | x :: xs => by simp only [List.map_cons, noLs, Flat.fl, noLs_map xs, Bool.and_self]
instance {α : Type} [Enc α] [Flat α] : Flat (Tu α) := ⟨fun x => by simp only [Enc.d, noL]; exact noLs_map x.l⟩

/-- v is x, in the heap H -/
def Is {α : Type} [Enc α] (K : PySem.W.Frag) (H : Hp) (v : V) (x : α) : Prop := Dp K H v (Enc.d x)
def IsL {α : Type} [Enc α] (K : PySem.W.Frag) (H : Hp) (vs : List V) (xs : List α) : Prop := DpAll K H vs (xs.map Enc.d)
section
variable {K : PySem.W.Frag} {H H' : Hp} {α β γ : Type} [Enc α] [Enc β] [Enc γ] {p : Addr} {vs : List V} {xs : List α} {v u t : V} {x y : α} {b : β} {c : γ} {Q : VK}
theorem is_int {n : Int} : Is K H (.int n) n := .int n
theorem is_nat {n : Nat} : Is K H (.int n) n := .int n
theorem is_str {s : Str} (h : PyData.canLay0 (.str s) = true) : Is K H (.str s) (⟨s, h⟩ : SOk) := .str s
theorem is_stp (S : Stp [] H H') (h : Is K H v x) : Is K H' v x := dp_stp S _ _ h
theorem isl_stp (S : Stp [] H H') (h : IsL K H vs xs) : IsL K H' vs xs := dp_stpAll S _ _ h
theorem is_stpM [Flat α] {M : List Addr} (S : Stp M H H') (h : Is K H v x) : Is K H' v x := dp_stpM S _ _ (Flat.fl x) h
theorem isl_stpM [Flat α] {M : List Addr} (S : Stp M H H') (h : IsL K H vs xs) : IsL K H' vs xs := dp_stpMs S _ _ (noLs_map xs) h
theorem is_bl {b : Bool} : Is K H (.bl b) b := .bl b
theorem is_lst (h : SqL K H p vs) (k : IsL K H vs xs) : Is K H (.ref p) xs := .lst h k
theorem is_tu (h : SqT K H p vs) (k : IsL K H vs xs) : Is K H (.ref p) (Tu.mk xs) := .tup h k
theorem is_pr (h : SqT K H p [v, u]) (k : Is K H v x) (l : Is K H u b) : Is K H (.ref p) (x, b) := .tup h (.cons k (.cons l .nil))
theorem is_t3 (h : SqT K H p [v, u, t]) (k : Is K H v x) (l : Is K H u b) (m : Is K H t c) : Is K H (.ref p) (T3.mk x b c) := .tup h (.cons k (.cons l (.cons m .nil)))
theorem isl_nil : IsL K H [] ([] : List α) := .nil
theorem isl_cons (h : Is K H v x) (k : IsL K H vs xs) : IsL K H (v :: vs) (x :: xs) := .cons h k
theorem isl_map {f : α → V} (h : ∀ x ∈ xs, Is K H (f x) x) : IsL K H (xs.map f) xs := by
  induction xs with
  | nil => exact .nil
  | cons x xs ih => exact .cons (h x (by simp)) (ih fun y hy => h y (by simp [hy]))
theorem isl_map2 {β : Type} {l : List β} {f : β → V} {g : β → α} (h : ∀ b ∈ l, Is K H (f b) (g b)) : IsL K H (l.map f) (l.map g) := by
  induction l with
  | nil => exact .nil
  | cons x xs ih => exact .cons (h x (by simp)) (ih fun y hy => h y (by simp [hy]))
theorem isl_ints {ns : List Int} : IsL K H (ns.map V.int) ns := isl_map fun _ _ => is_int
theorem isl_nats {ns : List Nat} : IsL K H (ns.map fun n : Nat => V.int n) ns := isl_map fun _ _ => is_nat
theorem isl_bls {ns : List Bool} : IsL K H (ns.map V.bl) ns := isl_map fun _ _ => is_bl
theorem isl_app {vs' : List V} {xs' : List α} (h : IsL K H vs xs) (k : IsL K H vs' xs') : IsL K H (vs ++ vs') (xs ++ xs') := by
  induction vs generalizing xs with
  | nil => cases xs with
    | nil => exact k
    | cons x xs => cases h
  | cons v vs ih => cases xs with
    | nil => cases h
    | cons x xs => cases h with | cons h1 h2 => exact .cons h1 (ih (xs := xs) h2)
theorem isl_len (h : IsL K H vs xs) : vs.length = xs.length := by
  induction vs generalizing xs with
  | nil => cases xs with
    | nil => rfl
    | cons x xs => cases h
  | cons v vs ih => cases xs with
    | nil => cases h
    | cons x xs => cases h with | cons h1 h2 => simp [ih (xs := xs) h2]
theorem isl_at {i : Nat} {v : V} (h : IsL K H vs xs) (e : vs[i]? = some v) : ∃ x, xs[i]? = some x ∧ Is K H v x := by
  induction vs generalizing xs i with
  | nil => cases e
  | cons w vs ih => cases xs with
    | nil => cases h
    | cons x xs => cases h with | cons h1 h2 => cases i with
      | zero => cases e; exact ⟨x, rfl, h1⟩
      | succ i => exact ih (xs := xs) h2 e
theorem isl_get {i : Nat} {x : α} (h : IsL K H vs xs) (e : xs[i]? = some x) : ∃ v, vs[i]? = some v ∧ Is K H v x := by
  induction vs generalizing xs i with
  | nil => cases xs with
    | nil => cases e
    | cons x xs => cases h
  | cons w vs ih => cases xs with
    | nil => cases h
    | cons y xs => cases h with | cons h1 h2 => cases i with
      | zero => cases e; exact ⟨w, rfl, h1⟩
      | succ i => exact ih (xs := xs) h2 e
theorem is_shaped (hn : Enc.n α ≤ 64) : SeqAt.shaped (Enc.d x) = true := by
  unfold SeqAt.shaped
  rw [Enc.lay]
  exact decide_eq_true (Nat.le_trans (Enc.deep x) hn)
theorem v_eqE (h1 : Is K H v x) (h2 : Is K H u y) (k : Q (.bl (@decide (x = y) (Enc.dec x y))) H) (hn : Enc.n α ≤ 64 := by decide) : aEq K v u H Q :=
  v_eqD h1 h2 (is_shaped hn) (is_shaped hn) (by rw [Enc.eqv]; exact k)
theorem v_neE (h1 : Is K H v x) (h2 : Is K H u y) (k : Q (.bl (!@decide (x = y) (Enc.dec x y))) H) (hn : Enc.n α ≤ 64 := by decide) : aNe K v u H Q :=
  v_neD h1 h2 (is_shaped hn) (is_shaped hn) (by rw [Enc.eqv]; exact k)
theorem v_eqL {ns ms : List Int} {q : Addr} (h1 : SqL K H p (ns.map V.int)) (h2 : SqL K H q (ms.map V.int)) (k : Q (.bl (decide (ns = ms))) H) : aEq K (.ref p) (.ref q) H Q :=
  v_eqE (is_lst h1 isl_ints) (is_lst h2 isl_ints) (by rw [show @decide (ns = ms) (Enc.dec ns ms) = decide (ns = ms) by congr]; exact k)
theorem v_neL {ns ms : List Int} {q : Addr} (h1 : SqL K H p (ns.map V.int)) (h2 : SqL K H q (ms.map V.int)) (k : Q (.bl (!decide (ns = ms))) H) : aNe K (.ref p) (.ref q) H Q :=
  v_neE (is_lst h1 isl_ints) (is_lst h2 isl_ints) (by rw [show @decide (ns = ms) (Enc.dec ns ms) = decide (ns = ms) by congr]; exact k)
theorem v_neL0 {ns : List Int} {q : Addr} (h1 : SqL K H p (ns.map V.int)) (h2 : SqL K H q []) (k : Q (.bl (!decide (ns = []))) H) : aNe K (.ref p) (.ref q) H Q := v_neL (ms := []) h1 h2 k
theorem v_ixLast {ys : List V} (h : SqL K H p (ys ++ [v])) (k : Q v H) : aIx K (.ref p) (.int (-1)) H Q := ⟨_, v, .inl h, atI_last ys v, k⟩
theorem v_neN0 {ns : List Nat} {q : Addr} (h1 : SqL K H p (ns.map fun n : Nat => V.int n)) (h2 : SqL K H q []) (k : Q (.bl (!decide (ns = []))) H) : aNe K (.ref p) (.ref q) H Q :=
  v_neE (y := []) (is_lst h1 isl_nats) (is_lst h2 isl_nil) (by rw [show @decide (ns = []) (Enc.dec ns []) = decide (ns = []) by congr]; exact k)
theorem v_ixMod {vs : List V} {c : Int} {m : Nat} (h : SqL K H p vs) (hl : vs.length = m) (hm : 0 < m) (k : ∀ v ∈ vs, Q v H) : aIx K (.ref p) (.int (c % (m : Int))) H Q := by
  have h0 := Int.emod_nonneg c (show (m : Int) ≠ 0 by omega)
  have h1 := Int.emod_lt_of_pos c (show (0 : Int) < m by omega)
  have e : c % (m : Int) = ((c % (m : Int)).toNat : Int) := by omega
  have hlt : (c % (m : Int)).toNat < vs.length := by omega
  exact v_ixLn h e (List.getElem?_eq_getElem hlt) (k _ (List.getElem_mem hlt))
theorem v_ixAny {vs : List V} {i : Int} {n : Nat} (h : SqL K H p vs) (e : i = n) (hn : n < vs.length) (k : ∀ v ∈ vs, Q v H) : aIx K (.ref p) (.int i) H Q := v_ixLn h e (List.getElem?_eq_getElem hn) (k _ (List.getElem_mem hn))
/-- all are ints -/
def Ints (vs : List V) : Prop := ∀ v ∈ vs, ∃ n : Int, v = .int n
theorem ints_nil : Ints [] := fun _ h => by cases h
theorem ints_cons {n : Int} {vs : List V} (h : Ints vs) : Ints (.int n :: vs) := fun v hv => by
  rcases List.mem_cons.mp hv with rfl | hv
  · exact ⟨n, rfl⟩
  · exact h v hv
/-- a place of a list of ints -/
def getE (es : List Int) (i : Nat) : Int := es.getD i 0
theorem getE_at {es : List Int} {i : Nat} (h : i < es.length) : (es.map V.int)[i]? = some (V.int (getE es i)) := by simp [getE, h]
theorem getE_app {es : List Int} {i : Nat} {y : Int} (h : i < es.length) : getE (es ++ [y]) i = getE es i := by simp [getE, List.getElem?_append, h]
theorem getE_last {es : List Int} {i : Nat} {y : Int} (h : es.length = i) : getE (es ++ [y]) i = y := by subst h; simp [getE]
theorem v_ixE {es : List Int} {i : Int} {n : Nat} (h : SqL K H p (es.map V.int)) (e : i = n) (hn : n < es.length) (k : Q (.int (getE es n)) H) : aIx K (.ref p) (.int i) H Q := v_ixLn h e (getE_at hn) k
theorem v_ixTE {es : List Int} {i : Int} {n : Nat} (h : SqT K H p (es.map V.int)) (e : i = n) (hn : n < es.length) (k : Q (.int (getE es n)) H) : aIx K (.ref p) (.int i) H Q := v_ixTn h e (getE_at hn) k
theorem v_ixEl {es : List Int} {n : Nat} (h : SqL K H p (es.map V.int)) (e : es.length = n + 1) (k : Q (.int (getE es n)) H) : aIx K (.ref p) (.int (-1)) H Q := by
  rcases List.eq_nil_or_concat es with z | ⟨ys, y, z⟩
  · subst z; cases e
  · have hz : es = ys ++ [y] := by simpa using z
    subst hz
    rw [List.map_append] at h
    have hl : ys.length = n := by simpa using e
    rw [getE_last hl] at k
    exact v_ixLast h k
theorem v_eqLL {ns ms : List Int} {q : Addr} (h1 : SqL K H p (ns.map V.int)) (h2 : SqL K H q (ms.map V.int)) (e : ns = ms) (k : Q (.bl true) H) : aEq K (.ref p) (.ref q) H Q := v_eqL h1 h2 (by rw [decide_eq_true e]; exact k)
theorem v_lenQ {n : Nat} (h : SqL K H p vs) (e : vs.length = n) (k : Q (.int n) H) : aLen K [.ref p] H Q := ⟨_, .inl h, by rw [e]; exact k⟩
theorem v_lenU {n : Nat} (h : SqT K H p vs) (e : vs.length = n) (k : Q (.int n) H) : aLen K [.ref p] H Q := ⟨_, .inr h, by rw [e]; exact k⟩
/-- tuple(xs) -/
theorem v_tuL (h : SqL K H p vs) (k : ∀ l, H l = none → Q (.ref l) (upd H l (.tup vs))) : ∃ p' ys, [V.ref p] = [.ref p'] ∧ ((SqL K H p' ys ∧ ∀ l, H l = none → Q (.ref l) (upd H l (.tup ys))) ∨ (SqT K H p' ys ∧ Q (.ref p') H)) := ⟨p, vs, rfl, .inl ⟨h, k⟩⟩
/-- xs.pop(i) -/
theorem v_popAt {i : Int} {n : Nat} (h : H p = some (.lst vs)) (e : i = n) (hn : n < 1000000) (hv : vs[n]? = some v) (k : Q v (upd H p (.lst (vs.eraseIdx n)))) : rPopAt (.ref p) [.int i] H Q := by
  refine ⟨p, vs, i, n, v, rfl, rfl, h, by omega, by omega, ?_, hv, k⟩
  subst e
  exact (ixN_seq (ixN_n (List.getElem?_eq_some_iff.mp hv).1)).1
/-- sorted(xs), ints -/
theorem v_sortI {ns : List Int} (h : SqL K H p (ns.map V.int)) (k : ∀ (ns' : List Int) (q : Addr), ns'.Perm ns → ns'.Pairwise (· ≤ ·) → H q = none → Q (.ref q) (upd H q (.lst (ns'.map V.int)))) : rSortedI K [.ref p] H Q := ⟨p, ns, rfl, h, k⟩
/-- list(range(n)) -/
def kLrg1 (Q : VK) : VK := fun x H1 => ∃ n : Int, x = .int n ∧ RgOk 0 n ∧ ∀ q, H1 q = none → Q (.ref q) (upd H1 q (.lst (rgV 0 n)))
theorem r_lrg1 {ta : TE} {σ : L2.St} (h : ta σ H (kLrg1 Q)) : tLstRg (tRg1 ta) σ H Q := h
theorem rgV_nat (n : Nat) : rgV 0 (n : Int) = (List.range n).map fun i : Nat => V.int i := by unfold rgV; simp
theorem v_lrg1 {i : Int} {n : Nat} (e : i = n) (hn : n ≤ 1000000) (k : ∀ q, H q = none → Q (.ref q) (upd H q (.lst ((List.range n).map fun i : Nat => V.int i)))) : kLrg1 Q (.int i) H := by
  refine ⟨i, rfl, RgOk.of_le (by omega) (by omega) (by omega) (by omega), ?_⟩
  rw [e, rgV_nat]
  exact k
def kLrg2 (Q : VK) (x : V) : VK := fun y H2 => ∃ i j : Int, x = .int i ∧ y = .int j ∧ RgOk i j ∧ ∀ q, H2 q = none → Q (.ref q) (upd H2 q (.lst (rgV i j)))
theorem r_lrg2 {ta tb : TE} {σ : L2.St} (h : ta σ H fun x H1 => tb σ H1 (kLrg2 Q x)) : tLstRg (tRg2 ta tb) σ H Q := h
theorem rgV_nats (n m : Nat) : rgV (n : Int) (m : Int) = (List.range' n (m - n)).map fun i : Nat => V.int i := by
  unfold rgV
  rw [show ((m : Int) - (n : Int)).toNat = m - n by omega, List.range'_eq_map_range, List.map_map]
  exact List.map_congr_left fun i _ => by simp
theorem v_lrg2 {i j : Int} {n m : Nat} (e : i = n) (e2 : j = m) (hn : n ≤ 1000000) (hm : m ≤ 1000000) (k : ∀ q, H q = none → Q (.ref q) (upd H q (.lst ((List.range' n (m - n)).map fun i : Nat => V.int i)))) : kLrg2 Q (.int i) (.int j) H := by
  refine ⟨i, j, rfl, rfl, RgOk.of_le (by omega) (by omega) (by omega) (by omega), ?_⟩
  rw [e, e2, rgV_nats]
  exact k
end
section
variable {X : Cx} {a b : Expr} {ta tb : TE} {p p2 pos pos2 : Pos}
theorem pe_listrange (hg : Gl X "list") (hm : X.mg "list" = none) (hg2 : Gl X "range") (hm2 : X.mg "range" = none) (ha : PE X a ta) (hc : X.calm = true := by rfl) (na : starEach [a] X.env = (false, eval a X.env) :: starEach [] X.env := by rfl)
    (na2 : starEach [.Call (.Name "range" p2) [a] [] pos2] X.env = (false, eval (.Call (.Name "range" p2) [a] [] pos2) X.env) :: starEach [] X.env := by rfl) : PE X (.Call (.Name "list" p) [.Call (.Name "range" p2) [a] [] pos2] [] pos) (tLstRg (tRg1 ta)) :=
  pe_listRg hc hg hm (prg_1 hg2 hm2 ha na) na2
theorem pe_listrange2 (hg : Gl X "list") (hm : X.mg "list" = none) (hg2 : Gl X "range") (hm2 : X.mg "range" = none) (ha : PE X a ta) (hb : PE X b tb) (hc : X.calm = true := by rfl) (na : starEach [a, b] X.env = (false, eval a X.env) :: starEach [b] X.env := by rfl)
    (nb : starEach [b] X.env = (false, eval b X.env) :: starEach [] X.env := by rfl) (hp : (backTo pos2 (starEach [b] X.env)).any (·.1) = false := by rfl)
    (na2 : starEach [.Call (.Name "range" p2) [a, b] [] pos2] X.env = (false, eval (.Call (.Name "range" p2) [a, b] [] pos2) X.env) :: starEach [] X.env := by rfl) : PE X (.Call (.Name "list" p) [.Call (.Name "range" p2) [a, b] [] pos2] [] pos) (tLstRg (tRg2 ta tb)) :=
  pe_listRg hc hg hm (prg_2 hg2 hm2 ha hb na nb hp) na2
end
section
variable {C : Addr} {m : Str} {sp : Sp} {dvs vs : List V} {E : XK} {ta : TE} {t : TA} {σ : L2.St} {H : Hp} {Q : VK} {a dx : Addr} {fs : List (Str × V)}
def kMeth (C : Addr) (m : Str) (sp : Sp) (dvs : List V) (E : XK) (t : TA) (σ : L2.St) (Q : VK) : VK := fun x H1 => ∃ a dx fs, x = .ref a ∧ H1 a = some (.ins C dx fs) ∧ fs.lookup m = none ∧ t σ H1 fun vs H2 => sp (x :: (vs ++ dvs)) H2 Q E
theorem r_meth (h : ta σ H (kMeth C m sp dvs E t σ Q)) : tMeth C m sp dvs E ta t σ H Q := h
theorem v_meth (h : H a = some (.ins C dx fs)) (l : fs.lookup m = none) (k : t σ H fun vs H2 => sp (.ref a :: (vs ++ dvs)) H2 Q E) : kMeth C m sp dvs E t σ Q (.ref a) H := ⟨a, dx, fs, rfl, h, l, k⟩
def kMake (C : Addr) (sp : Sp) (dvs : List V) (E : XK) (Q : VK) : List V → Hp → Prop := fun vs H1 => ∀ x dx, H1 x = none → H1 dx = none → dx ≠ x → sp (.ref x :: (vs ++ dvs)) (upd (upd H1 dx (.own x)) x (.ins C dx [])) (fun v H2 => v = .non ∧ Q (.ref x) H2) E
theorem r_make (h : t σ H (kMake C sp dvs E Q)) : tMake C sp dvs E t σ H Q := h
theorem v_make (k : ∀ x dx, H x = none → H dx = none → dx ≠ x → sp (.ref x :: (vs ++ dvs)) (upd (upd H dx (.own x)) x (.ins C dx [])) (fun v H2 => v = .non ∧ Q (.ref x) H2) E) : kMake C sp dvs E Q vs H := k
theorem isi_bl_int {K : PySem.W.Frag} {b : Bool} (k : Q (.bl true) H) : rIsi K [.bl b, .ty "int"] H Q := ⟨.bl b, .ty "int", .type "bool", .type "int", true, rfl, .ty _, .base (.bl b), by rfl, k⟩
theorem isi_bl_bool {K : PySem.W.Frag} {b : Bool} (k : Q (.bl true) H) : rIsi K [.bl b, .ty "bool"] H Q := ⟨.bl b, .ty "bool", .type "bool", .type "bool", true, rfl, .ty _, .base (.bl b), by rfl, k⟩
theorem isi_L {K : PySem.W.Frag} {xs : List V} (h : H a = some (.lst xs)) (k : Q (.bl true) H) : rIsi K [.ref a, .ty "list"] H Q := ⟨.ref a, .ty "list", .type "list", .type "list", true, rfl, .ty _, .base (.lst h), by rfl, k⟩
theorem isi_T {K : PySem.W.Frag} {xs : List V} (h : H a = some (.tup xs)) (k : Q (.bl true) H) : rIsi K [.ref a, .ty "tuple"] H Q := ⟨.ref a, .ty "tuple", .type "tuple", .type "tuple", true, rfl, .ty _, .base (.tup h), by rfl, k⟩
end
section
variable {f g : Str} {v x : V} {r r' : List (Str × V)} {a1 a2 a3 a4 a5 a6 : Str × V}
theorem pf_nil : putF f v [] = [(f, v)] := rfl
theorem pf_hit : putF f v ((f, x) :: r) = (f, v) :: r := by simp [putF]
theorem pf_miss (h : g ≠ f) (k : putF f v r = r') : putF f v ((g, x) :: r) = (g, x) :: r' := by simp [putF, h, k]
theorem few0 : ([] : List (Str × V)).length < 1000 := by simp
theorem few1 : [a1].length < 1000 := by simp
theorem few2 : [a1, a2].length < 1000 := by simp
theorem few3 : [a1, a2, a3].length < 1000 := by simp
theorem few4 : [a1, a2, a3, a4].length < 1000 := by simp
theorem few5 : [a1, a2, a3, a4, a5].length < 1000 := by simp
theorem few6 : [a1, a2, a3, a4, a5, a6].length < 1000 := by simp
end
theorem mul64 {i j : Int} (h : -18446744073709551616 < i ∧ i < 18446744073709551616) (k : -18446744073709551616 < j ∧ j < 18446744073709551616) : IntMulOk i j :=
  (mulx_ok (a := 64) (b := 64) (by have : (2 : Nat) ^ 64 = 18446744073709551616 := by decide
                                   omega) (by have : (2 : Nat) ^ 64 = 18446744073709551616 := by decide
                                              omega) (by decide)).ok
theorem ne_of_none' {H : Hp} {a p : Addr} {o : HO} (hp : H p = none) (h : H a = some o) : a ≠ p := ne_of_none h hp
theorem r_ty {K : PySem.W.Frag} {H : Hp} {p : Addr} {xs : List V} {B : Prop} (h : H p = some (.lst xs)) (k : B) : tyV K "list" (.ref p) H ∧ B := ⟨ty_list h, k⟩
/-! built-ins by names of their own -/
def rListOf (K : PySem.W.Frag) : List V → Hp → VK → Prop := fun xs H Q => ∃ p ys, xs = [.ref p] ∧ (SqL K H p ys ∨ SqT K H p ys) ∧ ∀ l, H l = none → Q (.ref l) (upd H l (.lst ys))
def rTupOf (K : PySem.W.Frag) : List V → Hp → VK → Prop := fun xs H Q => ∃ p ys, xs = [.ref p] ∧ ((SqL K H p ys ∧ ∀ l, H l = none → Q (.ref l) (upd H l (.tup ys))) ∨ (SqT K H p ys ∧ Q (.ref p) H))
def rMax2 : List V → Hp → VK → Prop := fun xs H Q => ∃ i j, xs = [.int i, .int j] ∧ Q (.int (if j > i then j else i)) H
def rMin2 : List V → Hp → VK → Prop := fun xs H Q => ∃ i j, xs = [.int i, .int j] ∧ Q (.int (if j < i then j else i)) H
def rIns : V → List V → Hp → VK → Prop := fun x vs H Q => ∃ (l : Addr) (xs : List V) (i : Int) (y : V), x = .ref l ∧ vs = [.int i, y] ∧ H l = some (.lst xs) ∧ xs.length < sizeLine ∧ 0 ≤ i ∧ i < 2 ^ 63 ∧ Q .non (upd H l (.lst (xs.take i.toNat ++ [y] ++ xs.drop i.toNat)))
section
variable {X : Cx} {K : PySem.W.Frag} {H : Hp} {Q : VK} {p : Addr} {vs : List V} {v : V} {i j : Int}
theorem cListOf : CallR X (.type "list") (rListOf X.K) := call_list_of
theorem cTupOf : CallR X (.type "tuple") (rTupOf X.K) := call_tuple_of
theorem cMax2 (hc : X.calm = true) : CallR X (.builtin "max") rMax2 := call_max2 hc
theorem cMin2 (hc : X.calm = true) : CallR X (.builtin "min") rMin2 := call_min2 hc
theorem mIns : MtR X "list.insert" rIns := mt_insert
theorem w_listL (h : SqL K H p vs) (k : ∀ l, H l = none → Q (.ref l) (upd H l (.lst vs))) : rListOf K [.ref p] H Q := ⟨p, vs, rfl, .inl h, k⟩
theorem w_listT (h : SqT K H p vs) (k : ∀ l, H l = none → Q (.ref l) (upd H l (.lst vs))) : rListOf K [.ref p] H Q := ⟨p, vs, rfl, .inr h, k⟩
theorem w_tupL (h : SqL K H p vs) (k : ∀ l, H l = none → Q (.ref l) (upd H l (.tup vs))) : rTupOf K [.ref p] H Q := ⟨p, vs, rfl, .inl ⟨h, k⟩⟩
theorem w_tupT (h : SqT K H p vs) (k : Q (.ref p) H) : rTupOf K [.ref p] H Q := ⟨p, vs, rfl, .inr ⟨h, k⟩⟩
theorem w_max (k : Q (.int (if j > i then j else i)) H) : rMax2 [.int i, .int j] H Q := ⟨i, j, rfl, k⟩
theorem w_min (k : Q (.int (if j < i then j else i)) H) : rMin2 [.int i, .int j] H Q := ⟨i, j, rfl, k⟩
theorem w_ins {n : Nat} (h : H p = some (.lst vs)) (e : i = n) (hn : n < 1000000) (hl : vs.length < 1000000) (k : Q .non (upd H p (.lst (vs.take n ++ [v] ++ vs.drop n)))) : rIns (.ref p) [.int i, v] H Q :=
  ⟨p, vs, i, v, rfl, rfl, h, Nat.lt_trans hl (by decide), by omega, by omega, by rw [e]; exact k⟩
theorem w_insI (h : H p = some (.lst vs)) (h0 : 0 ≤ i) (h1 : i < 1000000) (hl : vs.length < 1000000) (k : Q .non (upd H p (.lst (vs.take i.toNat ++ [v] ++ vs.drop i.toNat)))) : rIns (.ref p) [.int i, v] H Q :=
  ⟨p, vs, i, v, rfl, rfl, h, Nat.lt_trans hl (by decide), h0, by omega, k⟩
end
/-! one layer of a heap taken off -/
section
variable {K : PySem.W.Frag} {H : Hp} {a p : Addr} {xs : List V} {o u : HO}
theorem off_old (hp : H p = none) (h : H a = some o) : upd H p u a = some o := upd_old h hp
theorem off_far (n : a ≠ p) (h : H a = some o) : upd H p u a = some o := upd_far n h
theorem sql_off (hp : H p = none) (h : SqL K H a xs) : SqL K (upd H p u) a xs := sql_upd h hp
theorem sql_offar (n : a ≠ p) (h : SqL K H a xs) : SqL K (upd H p u) a xs := sql_far h n
theorem sqt_off (hp : H p = none) (h : SqT K H a xs) : SqT K (upd H p u) a xs := sqt_upd h hp
theorem sqt_offar (n : a ≠ p) (h : SqT K H a xs) : SqT K (upd H p u) a xs := sqt_far h n
end
/-! x is True, for a truth x -/
def aIsB : R2 := fun x y H Q => ∃ b c, x = .bl b ∧ y = .bl c ∧ Q (.bl (decide (b = c))) H
def aNotB : R2 := fun x y H Q => ∃ b c, x = .bl b ∧ y = .bl c ∧ Q (.bl (!decide (b = c))) H
section
variable {X : Cx} {K : PySem.W.Frag} {H : Hp} {Q : VK} {b c : Bool} {x y : V} {d : PyData}
theorem oIsB : OpR X (compareOp .Is) aIsB := by
  intro pins s σ H x y v u Q I rx ry h
  obtain ⟨b, c, rfl, rfl, q⟩ := h
  cases rx
  cases ry
  show wpAny _ _ ((isSame (Value.bool b) (Value.bool c)) >>= fun z => pure (Value.bool z)) _ _ s
  exact wpAny_bind (wpAny_isSame_plain (by rfl) (wpAny_pure (fin_bl I q (by cases b <;> cases c <;> rfl))))
theorem oNotB : OpR X (compareOp .IsNot) aNotB := by
  intro pins s σ H x y v u Q I rx ry h
  obtain ⟨b, c, rfl, rfl, q⟩ := h
  cases rx
  cases ry
  show wpAny _ _ ((isSame (Value.bool b) (Value.bool c)) >>= fun z => pure (Value.bool (!z))) _ _ s
  exact wpAny_bind (wpAny_isSame_plain (by rfl) (wpAny_pure (fin_bl I q (by cases b <;> cases c <;> rfl))))
theorem w_isB (k : Q (.bl (decide (b = c))) H) : aIsB (.bl b) (.bl c) H Q := ⟨b, c, rfl, rfl, k⟩
theorem w_notB (k : Q (.bl (!decide (b = c))) H) : aNotB (.bl b) (.bl c) H Q := ⟨b, c, rfl, rfl, k⟩
mutual
theorem eqv_refl : ∀ d : PyData, d.canLay0 = true → PyData.eqv d d = true
  | .none, _ => by simp [PyData.eqv]
  | .bool _, _ => by simp [PyData.eqv]
  | .int _, _ => by simp [PyData.eqv]
  | .str _, _ => by simp [PyData.eqv]
  | .list ds, h => by simp only [PyData.eqv]; exact eqvAll_refl ds (by simpa [PyData.canLay0] using h)
  | .tuple ds, h => by simp only [PyData.eqv]; exact eqvAll_refl ds (by simpa [PyData.canLay0] using h)
  | .dict _, h => by simp [PyData.canLay0] at h
theorem eqvAll_refl : ∀ ds : List PyData, PyData.canLayAll0 ds = true → PyData.eqvAll ds ds = true
  | [], _ => by simp [PyData.eqvAll]
  | d :: ds, h => by
    have h' : d.canLay0 = true ∧ PyData.canLayAll0 ds = true := by simpa [PyData.canLayAll0] using h
    simp only [PyData.eqvAll, eqv_refl d h'.1, eqvAll_refl ds h'.2, Bool.and_self]
end
/-- the same data -/
theorem v_eqR (h1 : Dp K H x d) (h2 : Dp K H y d) (hs : SeqAt.shaped d = true) (k : Q (.bl true) H) : aEq K x y H Q :=
  v_eqD h1 h2 hs hs (by rw [eqv_refl d (SeqAt.canLay_of_shaped hs)]; exact k)
theorem v_neR (h1 : Dp K H x d) (h2 : Dp K H y d) (hs : SeqAt.shaped d = true) (k : Q (.bl false) H) : aNe K x y H Q :=
  v_neD h1 h2 hs hs (by rw [eqv_refl d (SeqAt.canLay_of_shaped hs)]; exact k)
end
/-- an if whose two ways meet again -/
theorem r_wJ {c : Prop} [Decidable c] {t1 t2 : TS} {D : Ends} {σ : L2.St} {H : Hp} (W : L2.St → Hp → Prop) (hk : ∀ σ' H', W σ' H' → D.nx σ' H')
    (h1 : c → ∀ N : L2.St → Hp → Prop, (∀ σ' H', W σ' H' → N σ' H') → t1 { D with nx := N } σ H) (h2 : ¬ c → ∀ N : L2.St → Hp → Prop, (∀ σ' H', W σ' H' → N σ' H') → t2 { D with nx := N } σ H) :
    if decide c = true then t1 D σ H else t2 D σ H := r_w (fun h => h1 h D.nx hk) fun h => h2 h D.nx hk
theorem r_nwJ {c : Prop} [Decidable c] {t1 t2 : TS} {D : Ends} {σ : L2.St} {H : Hp} (W : L2.St → Hp → Prop) (hk : ∀ σ' H', W σ' H' → D.nx σ' H')
    (h1 : ¬ c → ∀ N : L2.St → Hp → Prop, (∀ σ' H', W σ' H' → N σ' H') → t1 { D with nx := N } σ H) (h2 : c → ∀ N : L2.St → Hp → Prop, (∀ σ' H', W σ' H' → N σ' H') → t2 { D with nx := N } σ H) :
    if (!decide c) = true then t1 D σ H else t2 D σ H := r_nw (fun h => h1 h D.nx hk) fun h => h2 h D.nx hk
/-! a heap without one address -/
def wo (D : Addr) (H : Hp) : Hp := fun b => if b = D then none else H b
theorem wo_at {D b : Addr} {H : Hp} {o : HO} (n : b ≠ D) (h : H b = some o) : wo D H b = some o := by unfold wo; rw [if_neg n]; exact h
theorem wo_upd {D : Addr} {H : Hp} {o : HO} : wo D (upd H D o) = wo D H := by
  funext b
  unfold wo
  by_cases h : b = D
  · rw [if_pos h, if_pos h]
  · rw [if_neg h, if_neg h, upd_ne h]
theorem wo_stp {D : Addr} {H : Hp} : Stp [] (wo D H) H := ⟨fun b o e _ => by
  unfold wo at e
  by_cases h : b = D
  · rw [if_pos h] at e; cases e
  · rw [if_neg h] at e; exact e, fun b e => by
  unfold wo
  by_cases h : b = D
  · rw [if_pos h]
  · rw [if_neg h]; exact e⟩
theorem wo_mono {D : Addr} {H H' : Hp} (S : Stp [] H H') : Stp [] (wo D H) (wo D H') := ⟨fun b o e _ => by
  unfold wo at e ⊢
  by_cases h : b = D
  · rw [if_pos h] at e; cases e
  · rw [if_neg h] at e ⊢; exact S.keep0 e, fun b e => by
  unfold wo at e ⊢
  by_cases h : b = D
  · rw [if_pos h]
  · rw [if_neg h] at e ⊢; exact S.dom b e⟩
/-- data gathered in the list at D -/
theorem dp_gather {K : PySem.W.Frag} {D : Addr} {H1 H2 : Hp} {us : List V} {ds : List PyData} {x : V} {d : PyData} {o : HO} (S : Stp [] H1 H2) (h : DpAll K (wo D H1) us ds) (k : Dp K (wo D H2) x d) : DpAll K (wo D (upd H2 D o)) (us ++ [x]) (ds ++ [d]) := by
  rw [wo_upd]
  have h2 := dp_stpAll (wo_mono S) _ _ h
  clear h
  induction us generalizing ds with
  | nil => cases h2; exact .cons k .nil
  | cons u us ih => cases h2 with | cons h1 h2 => exact .cons h1 (ih h2)
theorem st_new {M : List Addr} {H H1 : Hp} {p : Addr} {o : HO} (h : H1 p = none) (a : Stp M H H1) : Stp M H (upd H1 p o) := a.new h
theorem st_trans {M : List Addr} {H H1 H2 : Hp} (b : Stp [] H1 H2) (a : Stp M H H1) : Stp M H H2 := a.then0 b
theorem st_put {M : List Addr} {H H1 : Hp} {p : Addr} {o : HO} (h : H p = none) (a : Stp M H H1) : Stp M H (upd H1 p o) := a.putN h
theorem st_fr {H H' : Hp} {p : Addr} (h : H' p = none) (S : Stp [] H H') : H p = none := S.dom p h
theorem dpall_len {K : PySem.W.Frag} {H : Hp} : ∀ {us : List V} {ds : List PyData}, DpAll K H us ds → us.length = ds.length
  | [], _, h => by cases h; rfl
  | u :: us, _, h => by cases h with | cons h1 h2 => simp [dpall_len h2]
theorem dpall_get {K : PySem.W.Frag} {H : Hp} {us : List V} {ds : List PyData} {i : Nat} {d : PyData} (h : DpAll K H us ds) (e : ds[i]? = some d) : ∃ v, us[i]? = some v ∧ Dp K H v d := by
  induction us generalizing ds i with
  | nil => cases h; cases e
  | cons u us ih => cases h with | cons h1 h2 => cases i with
    | zero => cases e; exact ⟨u, rfl, h1⟩
    | succ i => exact ih h2 e
theorem dpall_map {K : PySem.W.Frag} {H : Hp} {β : Type} {l : List β} {f : β → V} {g : β → PyData} (h : ∀ b ∈ l, Dp K H (f b) (g b)) : DpAll K H (l.map f) (l.map g) := by
  induction l with
  | nil => exact .nil
  | cons x xs ih => exact .cons (h x (by simp)) (ih fun y hy => h y (by simp [hy]))
theorem shaped_list {ds : List PyData} (h : ∀ d ∈ ds, PyData.canLay0 d = true ∧ PyData.depth d ≤ 1) : SeqAt.shaped (.list ds) = true := by
  have h1 : PyData.canLayAll0 ds = true ∧ PyData.depthAll ds ≤ 1 := by
    induction ds with
    | nil => exact ⟨by simp [PyData.canLayAll0], by simp [PyData.depthAll]⟩
    | cons d ds ih =>
      obtain ⟨a, b⟩ := h d (by simp)
      obtain ⟨c, e⟩ := ih fun x hx => h x (by simp [hx])
      exact ⟨by simp only [PyData.canLayAll0, a, c, Bool.and_self], by simp only [PyData.depthAll]; omega⟩
  unfold SeqAt.shaped
  rw [show PyData.canLay0 (.list ds) = true by simp only [PyData.canLay0]; exact h1.1]
  exact decide_eq_true (by simp only [PyData.depth]; omega)
/-! defs with defaults -/
section
variable {P : Program} {w : World} {K : PySem.W.Frag} {mg : Str → Option Value} {base : Heap}
theorem funD_mk {x qual : Str} {st : Stmt} {f T : Addr} {oc oT : Value} {od an oU : Option Addr} {osl tsl : Array (Option Value)} {kV doc pm cdv ct : Value} {its : List Value} {n : Nat} {dvs : List V}
    (l : K.lookup f = some ⟨oc, od, .func (PySem.W.fnOf x qual (defArgs st) (defBody st) (defScope st) (.ref T) kV doc pm an cdv ct), osl⟩) (t : K.lookup T = some ⟨oT, oU, .seq its.toArray n, tsl⟩) (r : Vals dvs its) (hd : dvs ≠ [])
    (c : PySem.W.codeIn K cdv qual = true) (k : PySem.W.keepIn K (.ref f) = true) : FunD K x qual (defArgs st) (defBody st) (defScope st) dvs [] f (PySem.W.fnOf x qual (defArgs st) (defBody st) (defScope st) (.ref T) kV doc pm an cdv ct) :=
  ⟨⟨oc, od, _, kV, doc, pm, an, cdv, ct, osl, rfl, l, c, .inr ⟨hd, T, _, its, n, rfl, t, rfl, r⟩, .inl rfl⟩, k⟩
theorem funD_ok {x qual : Str} {st : Stmt} {dvs : List V} {f : Addr} {fd : FuncData} {N ps : List Str} {k : Nat} {sp : Sp} (F : FunD K x qual (defArgs st) (defBody st) (defScope st) dvs [] f fd) (S : FnScope N ps (defScope st)) (len : ∀ vs H Q E, sp vs H Q E → vs.length = ps.length)
    (hb : ∀ (cdv : Value) (A : Around) (outer : List Env) (s : Shared) (H : Hp) (vs : List V) (Q : VK) (E : XK), Room k (A.deeper (envOfC qual (defScope st) s.heap.objs.size f cdv)) → sp vs H Q E →
      ∃ t, PSs (cxOf CX0 P w K mg base N qual (defScope st) f cdv A outer s H E).nox (defBody st) t ∧ t { nx := fun _ H' => Q .non H', rt := Q } (start N vs) H) : FnOk P w K mg base CX0 (k + 1) f fd ps sp :=
  F.ok S len fun cdv A outer s H vs Q E hr h => by
    obtain ⟨t, h1, h2⟩ := hb cdv A outer s H vs Q E hr h
    exact ⟨t, h1.nox, h2⟩
end
theorem Stp.putI {M : List Addr} {H H1 : Hp} {p C d : Addr} {fs : List (Str × V)} {o : HO} (a : Stp M H H1) (h : p ∈ M) (h1 : H1 p = some (.ins C d fs)) : Stp M H (upd H1 p o) := a.putM h h1 (fun z => z)
theorem Stp.putL {M : List Addr} {H H1 : Hp} {p : Addr} {xs : List V} {o : HO} (a : Stp M H H1) (h : p ∈ M) (h1 : H1 p = some (.lst xs)) : Stp M H (upd H1 p o) := a.putM h h1 (fun z => z)
theorem v_tup1 {H : Hp} {Q : VK} {x : V} (h : ∀ p, H p = none → Q (.ref p) (upd H p (.tup [x]))) : SH.kTup Q [x] H := v_tup (by simp) h
/-- a statement of a def's body -/
def inDef (s : Stmt) (j : Nat) : Stmt := (defBody s).getD j (.Pass ⟨0, 0, 0, 0⟩)
/-- a table that tells nothing as yet -/
theorem tabN_empty {H : Hp} {P : Addr} {nm : Nat → Nat → Str} (h : H P = some (.tbl #[])) : NdefX.TabN H P nm := ⟨#[], h, by trivial, fun pos cv hc => by cases hc⟩
/-! rules with the frag by its name (in a comprehension the context is not to be seen from outside) -/
section
variable {X : Cx}
theorem opK {op : Value → Value → Sem Value} (r : PySem.W.Frag → R2) (K : PySem.W.Frag) (h : OpR X op (r X.K)) (e : X.K = K := by rfl) : OpR X op (r K) := e ▸ h
theorem ixK (r : PySem.W.Frag → R2) (K : PySem.W.Frag) (h : IxR X (r X.K)) (e : X.K = K := by rfl) : IxR X (r K) := e ▸ h
theorem crK {v : Value} (r : PySem.W.Frag → List V → Hp → VK → Prop) (K : PySem.W.Frag) (h : CallR X v (r X.K)) (e : X.K = K := by rfl) : CallR X v (r K) := e ▸ h
theorem slK (r : PySem.W.Frag → V → Option Int → Option Int → Hp → VK → Prop) (K : PySem.W.Frag) (h : SlR X (r X.K)) (e : X.K = K := by rfl) : SlR X (r K) := e ▸ h
theorem piK {tg e : Expr} (r : PySem.W.Frag → TI) (K : PySem.W.Frag) (h : PI X tg e (r X.K)) (e' : X.K = K := by rfl) : PI X tg e (r K) := e' ▸ h
theorem peK {e : Expr} (r : PySem.W.Frag → TE) (K : PySem.W.Frag) (h : PE X e (r X.K)) (e' : X.K = K := by rfl) : PE X e (r K) := e' ▸ h
end
end SH

set_option Elab.async false
set_option linter.all false
set_option maxRecDepth 100000
set_option maxHeartbeats 4000000
/-! SHF: list(reversed(xs)), a new list -/
namespace SH
open PySem PySem.Spec PyProof.Rows L2
section
variable {prog : Program} {w : World} {A : Around} {E : Value → Shared → Prop} {s : Shared}
theorem ext_lrev {R : Result → Shared → Prop} {it l : Addr} {items : Array Value} (hh : A.handled = none) (hit : s.heap.IsRevIter it l ((items.size : Int) - 1)) (hl : s.heap.IsList l items) (hne : l ≠ it) (hn : items.size ≤ sizeLine)
    (S : Addr) (c0 : Nat) (hS : s.heap.get? S = some { cls := .type "list", data := .seq #[] c0 }) (nSi : S ≠ it) (nSl : S ≠ l)
    (hR : ∀ h' tk acc c', (∀ b o, b ≠ S → b ≠ it → s.heap.get? b = some o → h'.get? b = some o) → h'.get? S = some { cls := .type "list", dict := none, data := .seq acc c', slots := #[] } →
      ItemsOf (fun i v => items[items.size - 1 - i]? = some v) acc items.size → R (.ok (.ret .none)) { s with heap := h', toks := tk }) :
    wpAny (model prog w) A.in1 (Builtin.List.listExtendWith (.ref S) (.ref it) .none)
      (fun z s' => match z with | .done u => R (.ok u) s' | .again c' => c'.quiet = true ∧ codeAny (model prog w) A c' R s') (fun e s' => R (.error e) s') s := by
  have W := (Walks.listRev (prog := prog) (w := w) (A := A.in1) hh it l hne items).toS
  have nf : S ∉ [it, l] := by simp only [List.mem_cons, List.not_mem_nil, or_false, not_or]; exact ⟨nSi, nSl⟩
  have ty : s.TypeIs (.ref it) "list_reverseiterator" := Heap.IsRevIter.typeIs (s := s) hit
  have same : Builtin.List.listSameRef (.ref S) (.ref it) = false := by simp [Builtin.List.listSameRef, nSi]
  unfold Builtin.List.listExtendWith; refine wpAny_bind (wpAny_typeOf ty ?_); rw [if_neg (by rw [same]; decide)]
  refine wpAny_bind (wpAny_pyIter_revIter (s := s) hit ?_); refine wpAny_bind (wpAny_holding ?_); unfold Builtin.List.listLengthHint
  refine wpAny_bind (wpAny_specialOf ty RT.nolen_lri ?_); show wpAny _ A.in1 (specialOf (Value.ref it) (Str.ofString "__length_hint__") >>= _) _ _ _
  refine wpAny_bind (wpAny_specialOf ty RT.hint_lri ?_); generalize hid : ("list_reverseiterator.__length_hint__" : String) = id0
  wp_delta; rw [show splitId id0 = some ("list_reverseiterator", "__length_hint__") from by subst hid; decide +kernel]; subst hid
  refine wpAny_bind (wpAny_isInstance (b := true) ty (by rw [isSubtype_type]; kernel_rfl) ?_); refine wpAny_pure ?_; rw [if_neg (by decide)]
  have z0 : ((items.size : Nat) : Int) - 1 - ((0 : Nat) : Int) = (items.size : Int) - 1 := by omega
  refine wpAny_pure ⟨plainId_quiet F.plain_extend_loop _, codeAny_extend_loopS W hn _ nf _ items.size 0 _ _ _ rfl (Nat.zero_le _) ⟨Nat.zero_le _, by rw [z0]; exact hit, hl⟩ hS (ItemsOf.nil _) fun s' acc c' hm hS' ha => ?_⟩
  rw [Moved.eq_with hm]; refine hR s'.heap s'.toks acc c' (fun b o n1 n2 e => hm.heap b o (fun hmem => ?_) e) hS' ha
  rcases List.mem_cons.mp hmem with e' | hmem
  · exact n1 e'
  · exact n2 (List.mem_singleton.mp hmem)
theorem call_list_rev {it l : Addr} {items : Array Value} {Q : Value → Shared → Prop} (hh : A.handled = none) (hit : s.heap.IsRevIter it l ((items.size : Int) - 1)) (hl : s.heap.IsList l items) (hne : l ≠ it) (hn : items.size ≤ sizeLine)
    (hQ : ∀ h' tk acc c', (∀ b o, b ≠ it → s.heap.get? b = some o → h'.get? b = some o) → h'.get? s.heap.objs.size = some { cls := .type "list", dict := none, data := .seq acc c', slots := #[] } →
      ItemsOf (fun i v => items[items.size - 1 - i]? = some v) acc items.size → Q (.ref s.heap.objs.size) { s with heap := h', toks := tk }) :
    wpAny (model prog w) A (call (.type "list") [.ref it]) Q E s := by
  refine callType_codes (Q₁ := fun ob s1 => ob = .ref s.heap.objs.size ∧ s1 = { s with heap := s.heap.push { cls := .type "list", data := .seq #[] } }) F.called_list (F.typeCall_list_1 _) F.entry_list_init (code_list_new _ ⟨rfl, rfl⟩) fun ob s1 h1 => ?_
  obtain ⟨e1, e2⟩ := h1; subst e1; subst e2
  have hS : (s.heap.push { cls := .type "list", data := .seq #[] }).get? s.heap.objs.size = some { cls := .type "list", data := .seq #[] } := by exact Heap.get?_push_size _ rfl
  obtain ⟨oi, hoi, _⟩ := id hit; obtain ⟨ol, hol, hol'⟩ := id hl
  have nSi : s.heap.objs.size ≠ it := Nat.ne_of_gt (Heap.lt_size hoi); have nSl : s.heap.objs.size ≠ l := Nat.ne_of_gt (Heap.lt_size hol)
  refine ⟨⟨_, hS, rfl⟩, F.args_list_init_2 _ _, ?_⟩
  show wpAny _ _ (do let old ← Builtin.List.listItems (.ref s.heap.objs.size); Builtin.List.listUpdate (.ref s.heap.objs.size) (fun _ => #[]); letGo old.toList.reverse; Builtin.List.listExtendWith (.ref s.heap.objs.size) (.ref it) .none) _ _ _
  refine wpAny_bind ?_; unfold Builtin.List.listItems; refine wpAny_bind (wpAny_seqItems hS rfl (wpAny_pure ?_))
  show wpAny _ _ (updateSeq s.heap.objs.size (fun _ => #[]) >>= fun _ => letGo (#[] : Array Value).toList.reverse >>= fun _ => Builtin.List.listExtendWith (.ref s.heap.objs.size) (.ref it) .none) _ _ _
  refine wpAny_bind (wpAny_updateSeq hS rfl ?_); have hS2 := Heap.get?_update_self (Obj.mapSeq (fun _ => (#[] : Array Value))) hS rfl
  have oth : ∀ b o, b ≠ s.heap.objs.size → s.heap.get? b = some o → ((s.heap.push { cls := .type "list", data := .seq #[] }).update s.heap.objs.size (Obj.mapSeq (fun _ => (#[] : Array Value)))).get? b = some o :=
    fun b o hb e => (Heap.get?_update_other _ _ (Ne.symm hb)).trans (Heap.get?_push_of_some _ e)
  refine wpAny_bind (wpAny_letGo ?_)
  refine ext_lrev (A := A.in1) (R := wants (fun r s2 => r = Value.none ∧ Q (.ref s.heap.objs.size) s2) E) (s := { s with heap := (s.heap.push { cls := .type "list", data := .seq #[] }).update s.heap.objs.size (Obj.mapSeq (fun _ => (#[] : Array Value))) }) hh (hit.at fun o e => oth it o (Ne.symm nSi) e) ?_ hne hn _ _ hS2 nSi nSl fun h' tk acc c' hk hS' ha => ?_
  · exact ⟨ol, oth l ol (Ne.symm nSl) hol, hol'⟩
  · exact ⟨rfl, hQ h' tk acc c' (fun b o n2 e => hk b o (Nat.ne_of_lt (Heap.lt_size e)) n2 (oth b o (Nat.ne_of_lt (Heap.lt_size e)) e)) hS' ha⟩
end
/-- list(reversed(xs)) -/
def kLstRev (K : PySem.W.Frag) (Q : VK) : VK := fun v H1 => ∃ (a : Addr) (xs : List V), v = .ref a ∧ SqL K H1 a xs ∧ ∀ q, H1 q = none → Q (.ref q) (upd H1 q (.lst xs.reverse))
def tLstRev (K : PySem.W.Frag) (te : TE) : TE := fun σ H Q => te σ H (kLstRev K Q)
theorem r_lrev {K : PySem.W.Frag} {te : TE} {σ : L2.St} {H : Hp} {Q : VK} (h : te σ H (kLstRev K Q)) : tLstRev K te σ H Q := h
theorem v_lrev {K : PySem.W.Frag} {H : Hp} {Q : VK} {a : Addr} {xs : List V} (h : SqL K H a xs) (k : ∀ q, H q = none → Q (.ref q) (upd H q (.lst xs.reverse))) : kLstRev K Q (.ref a) H := ⟨a, xs, rfl, h, k⟩
section
variable {X : Cx}
theorem pe_lstRev {e : Expr} {te : TE} {p p2 pos pos2 : Pos} (hg : Gl X "list") (hm : X.mg "list" = none) (hg2 : Gl X "reversed") (hm2 : X.mg "reversed" = none) (he : PE X e te) (hc : X.calm = true := by rfl)
    (hs : starEach [e] X.env = (false, eval e X.env) :: starEach [] X.env := by rfl)
    (hs2 : starEach [.Call (.Name "reversed" p2) [e] [] pos2] X.env = (false, eval (.Call (.Name "reversed" p2) [e] [] pos2) X.env) :: starEach [] X.env := by rfl) :
    PE X (.Call (.Name "list" p) [.Call (.Name "reversed" p2) [e] [] pos2] [] pos) (tLstRev X.K te) := by
  refine ⟨fun pins s σ H Q I h => ?_⟩
  refine Call_ (ld_blt I hg hm boot_list (PyProof.Rows.callWith_type1 (args_cons (Call_ (ld_blt I hg2 hm2 PyProof.Rows.boot_reversed (PyProof.Rows.callWith_type1 (args_cons (thn (he.run pins s σ H _ I h) fun u s1 ⟨v, H1, I1, r1, q1⟩ => args_nil ?_) hs) hs rfl))) hs2) hs2 rfl))
  obtain ⟨a, xs, ev, hq, q⟩ := q1; subst ev; obtain rfl : u = Value.ref a := r1; obtain ⟨its, rv, p', hz⟩ := I1.list hq
  refine call_reversed_list p'.isList (args_nil ?_)
  have I2 : Inv X pins σ H1 { s1 with heap := s1.heap.push (revObj a ((its.toArray.size : Int) - 1)) } := by exact I1.kept (t' := s1.toks) fun b o e => Heap.get?_push_of_some _ e
  obtain ⟨f0, f1, f2, f3, f4, f5⟩ := I1.fpOk (H' := H1) (b := s1.heap.objs.size) (Nat.le_refl _) (I1.hok.fresh (Nat.le_refl _)); have hl := p'.isList; obtain ⟨ol, hol, _⟩ := id hl
  have hne : a ≠ s1.heap.objs.size := by exact Nat.ne_of_lt (Heap.lt_size hol)
  have hn : its.toArray.size ≤ sizeLine := by rw [List.size_toArray, ← rv.length]; exact (by exact hz)
  refine call_list_rev (s := { s1 with heap := s1.heap.push (revObj a ((its.toArray.size : Int) - 1)) }) (I1.ok.hd hc) ⟨_, Heap.get?_push_size _ rfl, rfl, rfl⟩ (hl.push _) hne hn fun h' tk acc c' hk hS' hi => ?_
  have z : s1.heap.objs.size ≤ (s1.heap.push (revObj a ((its.toArray.size : Int) - 1))).objs.size := by simp [Heap.push]
  have k1 : ∀ b o, s1.heap.get? b = some o → h'.get? b = some o := fun b o e => hk b o (Nat.ne_of_lt (Heap.lt_size e)) (by exact Heap.get?_push_of_some _ e)
  refine ⟨.ref _, upd H1 (s1.heap.push (revObj a ((its.toArray.size : Int) - 1))).objs.size (.lst xs.reverse), I1.laid (t' := tk) k1 z (show ObjOk X.prog X.w _ _ _ (.lst xs.reverse) from ⟨by rw [List.length_reverse]; exact hz, acc.toList, c', RT.vals_rev rv hi, ?_⟩), rfl, q _ (I1.hok.fresh z)⟩
  rw [Array.toArray_toList]; exact (by exact hS')
end
theorem cutL_from_len {α : Type} (xs : List α) (i : Nat) (hi : Option Int) : (cutL xs (some (i : Int)) hi).length ≤ xs.length - i := by
  unfold cutL
  rw [HT.sIx_nat, List.length_take, List.length_drop]
  omega
theorem r_ckw2 {r : List V → List V → Hp → VK → Prop} {t tk : TA} {σ : L2.St} {H : Hp} {Q : VK} (h : t σ H fun vs H1 => tk σ H1 fun zs H2 => r vs zs H2 Q) : tCKw r t tk σ H Q := h
end SH

set_option Elab.async false
set_option linter.all false
set_option maxRecDepth 100000
set_option maxHeartbeats 4000000
/-! SHG: max(xs, default=d), ints -/
namespace SH
open PySem PySem.Spec PyProof.Rows L2
def rMaxDef (K : PySem.W.Frag) : List V → List V → Hp → VK → Prop := fun vs zs H Q => ∃ (a : Addr) (ns : List Int) (d : Int), vs = [V.ref a] ∧ zs = [V.int d] ∧ SqL K H a (ns.map V.int) ∧ (ns = [] → Q (.int d) H) ∧ ∀ m, m ∈ ns → (∀ y, y ∈ ns → y ≤ m) → Q (.int m) H
theorem foldl_max : ∀ (r : List Int) (n : Int), r.foldl max n ∈ n :: r ∧ ∀ y ∈ n :: r, y ≤ r.foldl max n
  | [], n => ⟨by simp, by simp⟩
  | k :: r, n => by
    obtain ⟨h1, h2⟩ := foldl_max r (max n k)
    rw [List.foldl_cons]
    constructor
    · rcases List.mem_cons.mp h1 with e | e
      · rw [e]
        by_cases z : n ≤ k
        · rw [Int.max_eq_right z]; simp
        · rw [Int.max_eq_left (by omega)]; simp
      · simp [e]
    · intro y hy
      have hm := h2 (max n k) (by simp)
      rcases List.mem_cons.mp hy with e | hy
      · omega
      · rcases List.mem_cons.mp hy with e | hy
        · omega
        · exact h2 y (by simp [hy])
theorem depth_ints : ∀ ns : List Int, PyData.depthAll (ns.map PyData.int) = 0
  | [] => by simp [PyData.depthAll]
  | n :: r => by simp [PyData.depthAll, PyData.depth, depth_ints r]
theorem dp_ints {K : PySem.W.Frag} {H : Hp} : ∀ ns : List Int, DpAll K H (ns.map V.int) (ns.map PyData.int)
  | [] => .nil
  | n :: r => .cons (.int n) (dp_ints r)
section
variable {X : Cx}
theorem cr_maxDef (hc : X.calm = true) (hu : X.A.units + 64 < cLine) : CallRK X (.builtin "max") [Str.ofString "default"] (rMaxDef X.K) := by
  intro pins s σ H vs zs us ws Q I r rz h
  obtain ⟨a, ns, d, rfl, rfl, hs, h0, h1⟩ := h
  obtain rfl := Vals.ref1 r
  obtain ⟨w1, rfl, e1⟩ := vals1 rz
  obtain ⟨t, rfl⟩ := e1
  obtain ⟨its, rv, hl, hz⟩ := I.list hs
  obtain ⟨as, hr⟩ := Dp.readsAll I (ns.map PyData.int) _ its (dp_ints ns) rv
  have al : PySem.W.AlikeAll (ns.map PyData.int) := ⟨fun x hx y hy => by
    obtain ⟨i, _, rfl⟩ := List.mem_map.mp hx
    obtain ⟨j, _, rfl⟩ := List.mem_map.mp hy
    rfl, fun x hx => by
    obtain ⟨i, _, rfl⟩ := List.mem_map.mp hx
    intro z; cases z⟩
  refine PySem.W.max_list_default (xs := ns.map PyData.int) (I.ok.hd hc) hl.isList (by simpa using hr) al (by rw [depth_ints]; omega) (fun e h' tk hk => ⟨.int d, H, I.kept hk, ⟨t, rfl⟩, h0 (by simpa using e)⟩) fun y ys i v h' tk bs e hv hR hk => ?_
  cases ns with
  | nil => cases e
  | cons n r =>
    rw [List.map_cons] at e
    cases e
    rw [PySem.W.maxD_ints] at hR
    obtain ⟨m1, m2⟩ := foldl_max r n
    generalize r.foldl max n = m at hR m1 m2
    cases hR
    exact ⟨.int m, H, I.kept hk, ⟨_, rfl⟩, h1 m m1 m2⟩
end
theorem r_ckw {r : List V → List V → Hp → VK → Prop} {t tk : TA} {σ : L2.St} {H : Hp} {Q : VK} (h : t σ H fun vs H1 => tk σ H1 fun zs H2 => r vs zs H2 Q) : tCKw r t tk σ H Q := h
end SH

set_option Elab.async false
set_option linter.all false
set_option maxRecDepth 100000
set_option maxHeartbeats 4000000
/-! SHI: xs[i] op= e, dicts with tuples as keys, int(truth) -/
namespace SH
open PySem PySem.Spec PyProof.Rows L2
section
variable {K : PySem.W.Frag} {σ : L2.St} {H : Hp} {Q : VK} {D : Ends} {to ti te td ty tv : TE} {tget : V → V → Hp → VK → Prop} {tip : TIp} {tset : TSet} {P : Hp → Prop} {d b : Addr} {kvs : List (List Key × V)} {ks : List Key} {v x y : V}
/-- a, b = x, y -/
def kPar2 (i j : Nat) (σ : L2.St) (P : L2.St → Hp → Prop) : List V → Hp → Prop := fun vs H1 => ∃ v w, vs = [v, w] ∧ P ((σ.set i (some v)).set j (some w)) H1
theorem r_par {i j : Nat} {ta : TA} (h : ta σ H (kPar2 i j σ D.nx)) : tPar i j ta D σ H := h
theorem v_par {i j : Nat} {w : V} {σ1 σ2 : L2.St} {R : L2.St → Hp → Prop} (e1 : σ.set i (some v) = σ1) (e2 : σ1.set j (some w) = σ2) (h : R σ2 H) : kPar2 i j σ R [v, w] H := ⟨v, w, rfl, by rw [e1, e2]; exact h⟩
def kPar3 (i j l : Nat) (σ : L2.St) (P : L2.St → Hp → Prop) : List V → Hp → Prop := fun vs H1 => ∃ u v w, vs = [u, v, w] ∧ P (((σ.set i (some u)).set j (some v)).set l (some w)) H1
theorem r_par3 {i j l : Nat} {ta : TA} (h : ta σ H (kPar3 i j l σ D.nx)) : tPar3 i j l ta D σ H := h
theorem v_par3 {i j l : Nat} {u w : V} {σ1 σ2 σ3 : L2.St} {R : L2.St → Hp → Prop} (e1 : σ.set i (some u) = σ1) (e2 : σ1.set j (some v) = σ2) (e3 : σ2.set l (some w) = σ3) (h : R σ3 H) : kPar3 i j l σ R [u, v, w] H := ⟨u, v, w, rfl, by rw [e1, e2, e3]; exact h⟩
theorem r_augS (h : to σ H fun o H1 => ti σ H1 fun i H2 => tget o i H2 fun x H3 => te σ H3 fun y H4 => tip x y H4 fun z H5 => tset o i z H5 fun H6 => D.nx σ H6) : tAugS to ti te tget tip tset D σ H := h
theorem r_dnewT (h : ∀ p, H p = none → Q (.ref p) (upd H p (.dT []))) : tDNewT σ H Q := h
theorem r_dnewK (h : ∀ p, H p = none → Q (.ref p) (upd H p (.dK []))) : tDNewK σ H Q := h
def kDPut (x y v : V) (H3 : Hp) (P : Hp → Prop) : Prop := ∃ a H4, x = .ref a ∧ DPut H3 a y v H4 ∧ P H4
theorem r_dput (h : tv σ H fun v H1 => td σ H1 fun x H2 => ty σ H2 fun y H3 => kDPut x y v H3 (D.nx σ)) : sDPut td ty tv D σ H := h
theorem v_dputT (hd : H d = some (.dT kvs)) (hk : H b = some (.tup (ks.map kV))) (hl : kvs.length < 1000000) (k : P (upd H d (.dT (putK kvs ks v)))) : kDPut (.ref d) (.ref b) v H P := ⟨d, _, rfl, DPut.t hd hk (Nat.lt_trans hl (by decide)), k⟩
def kDGet1 (ty : TE) (σ : L2.St) (Q : VK) : VK := fun x H1 => ∃ a, x = .ref a ∧ IsD H1 a ∧ ty σ H1 fun y H2 => ∃ o, DGet H2 a y o ∧ Q (o.getD .non) H2
theorem r_dget1 (h : td σ H (kDGet1 ty σ Q)) : tDGet1 td ty σ H Q := h
theorem v_dget1 (hd : H d = some (.dT kvs)) (h : ty σ H fun y H2 => ∃ o, DGet H2 d y o ∧ Q (o.getD .non) H2) : kDGet1 ty σ Q (.ref d) H := ⟨d, rfl, .inr ⟨kvs, .inl hd⟩, h⟩
theorem v_dgetT {R : Option V → Prop} (hd : H d = some (.dT kvs)) (hk : H b = some (.tup (ks.map kV))) (q : R (valV kvs ks)) : ∃ o, DGet H d (.ref b) o ∧ R o := ⟨_, DGet.t hd hk, q⟩
def kDGet (x y : V) (H2 : Hp) (Q : VK) : Prop := ∃ a v, x = .ref a ∧ DGet H2 a y (some v) ∧ Q v H2
theorem r_dgetI (h : td σ H fun x H1 => ty σ H1 fun y H2 => kDGet x y H2 Q) : tDGet td ty σ H Q := h
theorem v_dgetI (hd : H d = some (.dT kvs)) (hk : H b = some (.tup (ks.map kV))) (e : valV kvs ks = some v) (q : Q v H) : kDGet (.ref d) (.ref b) H Q := ⟨d, v, rfl, by rw [← e]; exact DGet.t hd hk, q⟩
def kDIn (y x : V) (H2 : Hp) (Q : VK) : Prop := ∃ a o, x = .ref a ∧ DGet H2 a y o ∧ Q (.bl o.isSome) H2
def kDNi (y x : V) (H2 : Hp) (Q : VK) : Prop := ∃ a o, x = .ref a ∧ DGet H2 a y o ∧ Q (.bl (!o.isSome)) H2
theorem r_din (h : ty σ H fun y H1 => td σ H1 fun x H2 => kDIn y x H2 Q) : tDIn ty td σ H Q := h
theorem r_dnotin (h : ty σ H fun y H1 => td σ H1 fun x H2 => kDNi y x H2 Q) : tDNotIn ty td σ H Q := h
theorem v_din (hd : H d = some (.dT kvs)) (hk : H b = some (.tup (ks.map kV))) (q : Q (.bl (valV kvs ks).isSome) H) : kDIn (.ref b) (.ref d) H Q := ⟨d, _, rfl, DGet.t hd hk, q⟩
theorem v_dnotin (hd : H d = some (.dT kvs)) (hk : H b = some (.tup (ks.map kV))) (q : Q (.bl (!(valV kvs ks).isSome)) H) : kDNi (.ref b) (.ref d) H Q := ⟨d, _, rfl, DGet.t hd hk, q⟩
end
/-- int(truth) or int(int) -/
def rInt1 : List V → Hp → VK → Prop := fun xs H Q => (∃ i, xs = [.int i] ∧ Q (.int i) H) ∨ ∃ k, xs = [.bl k] ∧ Q (.int (if k then 1 else 0)) H
section
variable {X : Cx} {H : Hp} {Q : VK} {i : Int} {b : Bool}
theorem cInt1 : CallR X (.type "int") rInt1 := call_int1
theorem w_intI (k : Q (.int i) H) : rInt1 [.int i] H Q := .inl ⟨i, rfl, k⟩
theorem w_intB (k : Q (.int (b.toNat : Nat)) H) : rInt1 [.bl b] H Q := .inr ⟨b, rfl, by cases b <;> exact k⟩
end
/-! a dict of answers -/
def pk (a b : Nat) : List Key := [.inl (a : Int), .inl (b : Int)]
theorem pk_map {a b : Nat} : (pk a b).map kV = [.int (a : Nat), .int (b : Nat)] := rfl
theorem pk_inj {a b c d : Nat} : pk a b = pk c d ↔ a = c ∧ b = d := by
  unfold pk
  constructor
  · intro h
    injection h with h1 h2
    injection h2 with h2 _
    injection h1 with h1
    injection h2 with h2
    exact ⟨by omega, by omega⟩
  · rintro ⟨rfl, rfl⟩; rfl
/-- what is known behind so many answers -/
def kn (es : List (T3 Nat Nat Bool)) : List (List Key × V) := es.foldl (fun acc e => putK acc (pk e.a e.b) (.bl e.c)) []
theorem kn_app {es : List (T3 Nat Nat Bool)} {e : T3 Nat Nat Bool} : kn (es ++ [e]) = putK (kn es) (pk e.a e.b) (.bl e.c) := by simp [kn]
theorem kn_len (es : List (T3 Nat Nat Bool)) : (kn es).length ≤ es.length := by
  have : ∀ (es : List (T3 Nat Nat Bool)) (acc : List (List Key × V)), (es.foldl (fun acc e => putK acc (pk e.a e.b) (.bl e.c)) acc).length ≤ acc.length + es.length := by
    intro es
    induction es with
    | nil => intro acc; simp
    | cons e es ih => intro acc; have := ih (putK acc (pk e.a e.b) (.bl e.c)); have := length_putK acc (pk e.a e.b) (.bl e.c); simp only [List.foldl_cons, List.length_cons]; omega
  simpa [kn] using this es []
theorem kn_val {es : List (T3 Nat Nat Bool)} {f : Nat → Nat → Bool} (h : ∀ e ∈ es, e.c = f e.a e.b) (a b : Nat) [Decidable (∃ e ∈ es, e.a = a ∧ e.b = b)] : valV (kn es) (pk a b) = if (∃ e ∈ es, e.a = a ∧ e.b = b) then some (.bl (f a b)) else none := by
  have key : ∀ (es : List (T3 Nat Nat Bool)), (∀ e ∈ es, e.c = f e.a e.b) → ((∃ e ∈ es, e.a = a ∧ e.b = b) → valV (kn es) (pk a b) = some (.bl (f a b))) ∧ ((¬ ∃ e ∈ es, e.a = a ∧ e.b = b) → valV (kn es) (pk a b) = none) := by
    intro es h
    obtain ⟨n, hn⟩ : ∃ n, n = es.length := ⟨_, rfl⟩
    induction n generalizing es with
    | zero =>
      have : es = [] := List.length_eq_zero_iff.mp hn.symm
      subst this
      exact ⟨fun ⟨e, he, _⟩ => by simp at he, fun _ => rfl⟩
    | succ n ih =>
      obtain ⟨fs, e, rfl⟩ : ∃ fs e, es = fs ++ [e] := ⟨es.dropLast, es.getLast (by intro z; subst z; simp at hn), (List.dropLast_concat_getLast _).symm⟩
      obtain ⟨i1, i2⟩ := ih fs (fun x hx => h x (by simp [hx])) (by simp at hn; omega)
      rw [kn_app, valV_put]
      have he := h e (by simp)
      by_cases z : pk a b = pk e.a e.b
      · obtain ⟨z1, z2⟩ := pk_inj.mp z
        subst z1; subst z2
        simp only [if_true]
        exact ⟨fun _ => by rw [he], fun n => (n ⟨e, by simp, rfl, rfl⟩).elim⟩
      · rw [if_neg z]
        have z' : ¬ (e.a = a ∧ e.b = b) := fun ⟨p, q⟩ => z (pk_inj.mpr ⟨p.symm, q.symm⟩)
        refine ⟨fun ⟨x, hx, q⟩ => i1 ?_, fun n => i2 fun ⟨x, hx, q⟩ => n ⟨x, by simp [hx], q⟩⟩
        rcases List.mem_append.mp hx with hx | hx
        · exact ⟨x, hx, q⟩
        · rw [List.mem_singleton] at hx; subst hx; exact (z' q).elim
  by_cases c : ∃ e ∈ es, e.a = a ∧ e.b = b
  · rw [if_pos c]; exact (key es h).1 c
  · rw [if_neg c]; exact (key es h).2 c
theorem kn_get {es : List (T3 Nat Nat Bool)} {f : Nat → Nat → Bool} (h : ∀ e ∈ es, e.c = f e.a e.b) {a b : Nat} (hm : ∃ e ∈ es, e.a = a ∧ e.b = b) : valV (kn es) (pk a b) = some (.bl (f a b)) := by
  classical
  rw [kn_val h, if_pos hm]
theorem kn_none {es : List (T3 Nat Nat Bool)} {f : Nat → Nat → Bool} (h : ∀ e ∈ es, e.c = f e.a e.b) {a b : Nat} (hm : ¬ ∃ e ∈ es, e.a = a ∧ e.b = b) : valV (kn es) (pk a b) = none := by
  classical
  rw [kn_val h, if_neg hm]
end SH

set_option Elab.async false
set_option linter.all false
set_option maxRecDepth 100000
set_option maxHeartbeats 4000000
/-! SHJ: (k, p) >= (k', q); t[:2] -/
namespace SH
open PySem PySem.Spec PySem.W PyProof.Rows L2
theorem dataLt_pair {k p k' p' : Int} : dataLt (.tuple [.int k, .int p]) (.tuple [.int k', .int p']) = decide (k < k' ∨ (k = k' ∧ p < p')) := by
  unfold dataLt
  simp only [keyToks, keyToksAll, List.cons_append, List.nil_append]
  rw [lex_self (O := itemOrd)]
  by_cases e : k = k'
  · subst e
    rw [lex_self (O := itemOrd), lex_self (O := itemOrd)]
    by_cases e2 : p = p'
    · subst e2
      rw [lex_self (O := itemOrd), lex_self (O := itemOrd)]
      simp [PyProof.Rows.lexLt]
    · rw [lex_diff (O := itemOrd) (by simpa using e2)]
      show decide (p < p') = _
      exact decide_eq_decide.mpr (by omega)
  · rw [lex_diff (O := itemOrd) (by simpa using e)]
    show decide (k < k') = _
    exact decide_eq_decide.mpr (by omega)
def aGeT (K : PySem.W.Frag) : R2 := fun x y H Q => ∃ a b k p k' p', x = .ref a ∧ y = .ref b ∧ SqT K H a [.int k, .int p] ∧ SqT K H b [.int k', .int p'] ∧ Q (.bl (decide (¬ (k < k' ∨ (k = k' ∧ p < p'))))) H
theorem oGeT {X : Cx} (hu : X.A.units + 64 < cLine) : OpR X (compareOp .GtE) (aGeT X.K) := by
  intro pins s σ H x y v u Q I rx ry h
  obtain ⟨a, b, k, p, k', p', rfl, rfl, h1, h2, q⟩ := h
  obtain ⟨as, r1⟩ := Dp.reads I (.tuple [.int k, .int p]) _ v (.tup h1 (.cons (.int k) (.cons (.int p) .nil))) rx
  obtain ⟨bs, r2⟩ := Dp.reads I (.tuple [.int k', .int p']) _ u (.tup h2 (.cons (.int k') (.cons (.int p') .nil))) ry
  refine ge_data r1 r2 rfl (fun z => by cases z) ?_ ⟨.bl _, H, I, rfl, ?_⟩
  · have : (PyData.tuple [.int k, .int p]).depth ≤ 64 := by show 1 ≤ 64; decide
    omega
  · rw [dataLt_pair]
    have e : (!decide (k < k' ∨ (k = k' ∧ p < p'))) = decide (¬ (k < k' ∨ (k = k' ∧ p < p'))) := decide_not.symm
    rw [e]
    exact q
theorem v_geT {K : PySem.W.Frag} {H : Hp} {Q : VK} {a b : Addr} {k p k' p' : Int} (h1 : SqT K H a [.int k, .int p]) (h2 : SqT K H b [.int k', .int p']) (q : Q (.bl (decide (¬ (k < k' ∨ (k = k' ∧ p < p'))))) H) : aGeT K (.ref a) (.ref b) H Q := ⟨a, b, k, p, k', p', rfl, rfl, h1, h2, q⟩
def aGtT (K : PySem.W.Frag) : R2 := fun x y H Q => ∃ a b k p k' p', x = .ref a ∧ y = .ref b ∧ SqT K H a [.int k, .int p] ∧ SqT K H b [.int k', .int p'] ∧ Q (.bl (decide (k' < k ∨ (k' = k ∧ p' < p)))) H
theorem oGtT {X : Cx} (hu : X.A.units + 64 < cLine) : OpR X (compareOp .Gt) (aGtT X.K) := by
  intro pins s σ H x y v u Q I rx ry h
  obtain ⟨a, b, k, p, k', p', rfl, rfl, h1, h2, q⟩ := h
  obtain ⟨as, r1⟩ := Dp.reads I (.tuple [.int k, .int p]) _ v (.tup h1 (.cons (.int k) (.cons (.int p) .nil))) rx
  obtain ⟨bs, r2⟩ := Dp.reads I (.tuple [.int k', .int p']) _ u (.tup h2 (.cons (.int k') (.cons (.int p') .nil))) ry
  refine gt_data r1 r2 rfl (fun z => by cases z) ?_ ⟨.bl _, H, I, rfl, ?_⟩
  · have : (PyData.tuple [.int k, .int p]).depth ≤ 64 := by show 1 ≤ 64; decide
    omega
  · rw [dataLt_pair]
    exact q
theorem v_gtT {K : PySem.W.Frag} {H : Hp} {Q : VK} {a b : Addr} {k p k' p' : Int} (h1 : SqT K H a [.int k, .int p]) (h2 : SqT K H b [.int k', .int p']) (q : Q (.bl (decide (k' < k ∨ (k' = k ∧ p' < p)))) H) : aGtT K (.ref a) (.ref b) H Q := ⟨a, b, k, p, k', p', rfl, rfl, h1, h2, q⟩
/-- t[:2] of three -/
theorem v_slT2 {K : PySem.W.Frag} {H : Hp} {Q : VK} {a : Addr} {x y z : V} (h : SqT K H a [x, y, z]) (q : ∀ p, H p = none → Q (.ref p) (upd H p (.tup [x, y]))) : rSlT K (.ref a) none (some 2) H Q :=
  ⟨a, _, rfl, h, by rintro ⟨_, h⟩; exact absurd (show (2 : Nat) = 3 from h) (by decide), q⟩
end SH

set_option Elab.async false
set_option linter.all false
set_option maxRecDepth 100000
set_option maxHeartbeats 4000000
/-! SHK: d.update(d2), keys that are tuples; a method whose class is known at the run alone -/
namespace SH
open PySem PySem.Spec PyProof.Rows L2
/-- d.update(d2) -/
def mergK (kvs more : List (List Key × V)) : List (List Key × V) := more.foldl (fun acc p => putK acc p.1 p.2) kvs
theorem mergK_len : ∀ (more kvs : List (List Key × V)), (mergK kvs more).length ≤ kvs.length + more.length
  | [], kvs => by simp [mergK]
  | p :: ps, kvs => by
    have h1 := mergK_len ps (putK kvs p.1 p.2)
    have h2 := length_putK kvs p.1 p.2
    show (mergK (putK kvs p.1 p.2) ps).length ≤ _
    rw [List.length_cons]; omega
theorem mergK_val : ∀ (more kvs : List (List Key × V)) (k : List Key), (∃ p ∈ more, p.1 = k ∧ valV (mergK kvs more) k = some p.2) ∨ ((∀ p ∈ more, p.1 ≠ k) ∧ valV (mergK kvs more) k = valV kvs k)
  | [], kvs, k => .inr ⟨by simp, rfl⟩
  | p :: ps, kvs, k => by
    show (∃ q ∈ p :: ps, q.1 = k ∧ valV (mergK (putK kvs p.1 p.2) ps) k = some q.2) ∨ ((∀ q ∈ p :: ps, q.1 ≠ k) ∧ valV (mergK (putK kvs p.1 p.2) ps) k = valV kvs k)
    rcases mergK_val ps (putK kvs p.1 p.2) k with ⟨q, hq, e1, e2⟩ | ⟨h1, h2⟩
    · exact .inl ⟨q, List.mem_cons_of_mem _ hq, e1, e2⟩
    · rw [valV_put] at h2
      by_cases e : k = p.1
      · rw [if_pos e] at h2
        exact .inl ⟨p, List.mem_cons_self .., e.symm, h2⟩
      · rw [if_neg e] at h2
        refine .inr ⟨fun q hq => ?_, h2⟩
        rcases List.mem_cons.mp hq with rfl | hq
        · exact fun z => e z.symm
        · exact h1 q hq
theorem mem_putK {kvs : List (List Key × V)} {k : List Key} {v : V} {p : List Key × V} (h : p ∈ putK kvs k v) : p = (k, v) ∨ p ∈ kvs := by
  unfold putK at h
  split at h
  · obtain ⟨q, hq, e⟩ := List.mem_map.mp h
    by_cases z : q.1 = k
    · rw [if_pos z] at e
      exact .inl (by rw [← e, z])
    · rw [if_neg z] at e
      exact .inr (by rw [← e]; exact hq)
  · rcases List.mem_append.mp h with h | h
    · exact .inr h
    · exact .inl (List.mem_singleton.mp h)
theorem putK_same {kvs : List (List Key × V)} {k : List Key} {v : V} : (k, v) ∈ putK kvs k v := by
  unfold putK
  split
  · rename_i h
    obtain ⟨q, hq, e⟩ := List.any_eq_true.mp h
    exact List.mem_map.mpr ⟨q, hq, by rw [if_pos (of_decide_eq_true e), of_decide_eq_true e]⟩
  · exact List.mem_append_right _ (List.mem_singleton.mpr rfl)
theorem putK_other {kvs : List (List Key × V)} {k : List Key} {v : V} {p : List Key × V} (h : p ∈ kvs) (n : p.1 ≠ k) : p ∈ putK kvs k v := by
  unfold putK
  split
  · exact List.mem_map.mpr ⟨p, h, by rw [if_neg n]⟩
  · exact List.mem_append_left _ h
theorem KT_all {H : Hp} : ∀ {more : List (List Key × V)} {ps : List (List Key × Addr × Value)} {kvs : List (List Key × V)} {xs : List (List Key × Addr × Value)}, KT H kvs xs → KT H more ps → KT H (mergK kvs more) (storedAllH xs ps)
  | _, _, kvs, xs, h, .nil => h
  | _, _, kvs, xs, h, .cons (a := p) (b := q) (l₁ := more) (l₂ := ps) hq t => by
    obtain ⟨e1, e2, e3⟩ := hq
    show KT H (mergK (putK kvs p.1 p.2) more) (storedAllH (storedH xs q.1 q.2.1 q.2.2) ps)
    exact KT_all (by rw [← e1]; exact h.put p.1 e2 e3) t
def rUpdT : V → List V → Hp → VK → Prop := fun x xs H Q => ∃ (a b : Addr) (kvs more : List (List Key × V)), x = .ref a ∧ xs = [.ref b] ∧ H a = some (.dT kvs) ∧ H b = some (.dT more) ∧ a ≠ b ∧ kvs ≠ [] ∧ kvs.length + more.length ≤ 1000000 ∧ Q .non (upd H a (.dT (mergK kvs more)))
theorem mt_updT {X : Cx} (hu : X.A.units + 1 < cLine) : MtR X "dict.update" rUpdT := by
  intro pins s σ H x xs v us Q I rx rxs h
  obtain ⟨a, b, kvs, more, rfl, rfl, ha, hb, hab, hne, hl, q⟩ := h
  cases rx
  obtain rfl := Vals.ref1 rxs
  obtain ⟨z, hd, xs', rel, dd⟩ := dt_of I.hok ha
  obtain ⟨z2, hd2, ps, rel2, dd2⟩ := dt_of I.hok hb
  have e1 := Paired.length rel
  have e2 := Paired.length rel2
  have hz : xs'.length + ps.length ≤ sizeLine := by rw [← e1, ← e2]; exact Nat.le_trans hl (by decide)
  refine call_update_dictH (knd := tupleKind (mixKind X.prog X.w)) (tupleKind_room_in1 hu) hab hd2 dd dd2 (.inl fun e => hne ?_) hz fun h' dd' _ hs => ?_
  · rw [e] at e1
    exact List.length_eq_zero_iff.mp e1
  · obtain ⟨o, es, ep, hq, h2, h3, h4, _, h5⟩ := dd'
    have hml : (mergK kvs more).length ≤ sizeLine := Nat.le_trans (mergK_len more kvs) (Nat.le_trans hl (by decide))
    have I2 : Inv X pins σ (upd H a (.dT (mergK kvs more))) { s with heap := h' } :=
      d_write (t' := s.toks) I (by rw [ha]; exact True.intro) hs ⟨o, hq⟩ ⟨hml, hd, _, (KT_all rel rel2).keeps (fun c ys ec => (by rw [upd_ne (ne_of ec ha (fun z => nomatch z))]; exact ec)), o, es, ep, hq, h2, h3, h4, h5⟩
    exact ⟨.non, _, I2, rfl, q⟩
theorem w_upd {H : Hp} {Q : VK} {a b : Addr} {kvs more : List (List Key × V)} (ha : H a = some (.dT kvs)) (hb : H b = some (.dT more)) (hab : a ≠ b) (hne : kvs ≠ []) (hl : kvs.length + more.length ≤ 1000000) (q : Q .non (upd H a (.dT (mergK kvs more)))) : rUpdT (.ref a) [.ref b] H Q :=
  ⟨a, b, kvs, more, rfl, rfl, ha, hb, hab, hne, hl, q⟩
theorem ty_dT {K : PySem.W.Frag} {H : Hp} {a : Addr} {kvs : List (List Key × V)} (ha : H a = some (.dT kvs)) : tyV K "dict" (.ref a) H := .inr (.inr (.inl ⟨rfl, .inr ⟨kvs, ha⟩⟩))
/-- either rule will do -/
theorem peOr {X : Cx} {e : Expr} {t u : TE} (h : PE X e t) (k : PE X e u) : PE X e (fun σ H Q => t σ H Q ∨ u σ H Q) := ⟨fun pins s σ H Q I q => q.elim (h.run pins s σ H Q I) (k.run pins s σ H Q I)⟩
/-- either rule will do, by name -/
def tOrE (t u : TE) : TE := fun σ H Q => t σ H Q ∨ u σ H Q
theorem peOrE {X : Cx} {e : Expr} {t u : TE} (h : PE X e t) (k : PE X e u) : PE X e (tOrE t u) := peOr h k
theorem r_orL {t u : TE} {σ : L2.St} {H : Hp} {Q : VK} (h : t σ H Q) : tOrE t u σ H Q := .inl h
theorem r_orR {t u : TE} {σ : L2.St} {H : Hp} {Q : VK} (h : u σ H Q) : tOrE t u σ H Q := .inr h
/-- an if by two tests, whose ways meet again -/
theorem r_waJ {c : Prop} [Decidable c] {te : TT} {t1 t2 : TS} {D : Ends} {σ : L2.St} {H : Hp} (W : L2.St → Hp → Prop) (hk : ∀ σ' H', W σ' H' → D.nx σ' H')
    (h1 : c → ∀ N : L2.St → Hp → Prop, (∀ σ' H', W σ' H' → N σ' H') → te σ H fun b H1 => if b = true then t1 { D with nx := N } σ H1 else t2 { D with nx := N } σ H1) (h2 : ¬ c → ∀ N : L2.St → Hp → Prop, (∀ σ' H', W σ' H' → N σ' H') → t2 { D with nx := N } σ H) :
    if decide c = true then te σ H (fun b H1 => if b = true then t1 D σ H1 else t2 D σ H1) else if false = true then t1 D σ H else t2 D σ H := r_w (fun h => h1 h D.nx hk) fun h => r_F (h2 h D.nx hk)
theorem r_naJ {c : Prop} [Decidable c] {te : TT} {t1 t2 : TS} {D : Ends} {σ : L2.St} {H : Hp} (W : L2.St → Hp → Prop) (hk : ∀ σ' H', W σ' H' → D.nx σ' H')
    (h1 : ¬ c → ∀ N : L2.St → Hp → Prop, (∀ σ' H', W σ' H' → N σ' H') → te σ H fun b H1 => if b = true then t1 { D with nx := N } σ H1 else t2 { D with nx := N } σ H1) (h2 : c → ∀ N : L2.St → Hp → Prop, (∀ σ' H', W σ' H' → N σ' H') → t2 { D with nx := N } σ H) :
    if (!decide c) = true then te σ H (fun b H1 => if b = true then t1 D σ H1 else t2 D σ H1) else if false = true then t1 D σ H else t2 D σ H := r_nw (fun h => h1 h D.nx hk) fun h => r_F (h2 h D.nx hk)
theorem inV_nats {p : Nat} {xs : List Nat} : inV (.int (p : Nat)) (xs.map fun n : Nat => V.int n) = decide (p ∈ xs) := by
  unfold inV
  rw [List.any_map]
  induction xs with
  | nil => simp
  | cons x xs ih =>
    rw [List.any_cons, ih]
    by_cases e : p = x
    · subst e; simp [eqV]
    · have e2 : ¬ ((x : Int) = (p : Int)) := by omega
      simp [eqV, e, e2]
theorem flat_nats {xs : List Nat} : (xs.map fun n : Nat => V.int n).all flatV = true := by
  rw [List.all_map]
  exact List.all_eq_true.mpr fun _ _ => rfl
section
variable {K : PySem.W.Frag} {H : Hp} {Q : VK} {a : Addr} {xs : List Nat} {p : Nat}
theorem v_inN (h : SqL K H a (xs.map fun n : Nat => V.int n)) (k : Q (.bl (decide (p ∈ xs))) H) : rIn K false (.int (p : Nat)) (.ref a) H Q := ⟨a, _, rfl, .inl h, rfl, flat_nats, by rw [inV_nats]; exact k⟩
theorem v_niN (h : SqL K H a (xs.map fun n : Nat => V.int n)) (k : Q (.bl (!decide (p ∈ xs))) H) : rIn K true (.int (p : Nat)) (.ref a) H Q := ⟨a, _, rfl, .inl h, rfl, flat_nats, by rw [inV_nats]; exact k⟩
end
/-! dicts of numbers -/
theorem v_dputK {H : Hp} {P : Hp → Prop} {d : Addr} {kvs : List (Key × V)} {i : Int} {v : V} (hd : H d = some (.dK kvs)) (hl : kvs.length < 1000000) (k : P (upd H d (.dK (putK kvs (.inl i) v)))) : kDPut (.ref d) (.int i) v H P := ⟨d, _, rfl, DPut.k (k := .inl i) hd (Nat.lt_trans hl (by decide)), k⟩
theorem v_dgetK {H : Hp} {Q : VK} {d : Addr} {kvs : List (Key × V)} {i : Int} {v : V} (hd : H d = some (.dK kvs)) (e : valV kvs (.inl i) = some v) (q : Q v H) : kDGet (.ref d) (.int i) H Q := ⟨d, v, rfl, by rw [← e]; exact DGet.k (k := .inl i) hd, q⟩
/-! isinstance of an own class -/
structure IsiC (K : PySem.W.Frag) (C : Addr) : Prop where
  ca : PySem.W.findIn K (.ref C) "__class__" = some (some (.builtin "object.__class__"))
  cn : PySem.W.specialIn K (.builtin "object.__class__") "__get__" = some (some (.builtin "getset_descriptor.__get__"))
  ct : PySem.W.takesIn K (.builtin "object.__class__") = some true
  cm : PySem.W.mroIn K C (.type "object") = some true
theorem isi_ins {K : PySem.W.Frag} {H : Hp} {Q : VK} {a C D dx : Addr} {fs : List (Str × V)} {b : Bool} (ho : H a = some (.ins C dx fs)) (cl : Cls K C) (i : IsiC K C) (kt : PySem.W.kitOne K (.ref C) (.ref D) = some b) (k : Q (.bl b) H) : rIsi K [.ref a, .ref D] H Q :=
  v_isi (.own D) (.base (.ins ho cl i.ca i.cn i.ct i.cm)) kt k
end SH

set_option Elab.async false
set_option linter.all false
set_option maxRecDepth 100000
set_option maxHeartbeats 4000000
/-! SHN: C(e, .., k = v): an instance made with keywords -/
namespace SH
open PySem PySem.Spec PyProof.Rows L2
structure CalCK (P : Program) (w : World) (K : PySem.W.Frag) (mg : Str → Option Value) (base : Heap) (CX : CXT) (k : Nat) (x : Str) (C : Addr) (n : Nat) (ks : List Str) (gV : List V → List V → List V) (sp : Sp) : Prop where
  ex : ∃ (f : Addr) (fd : FuncData) (ps : List Str) (g : List Value → List Value → List Value), mg x = some (.ref C) ∧ L2.Mk K C f ∧ KBn K fd ps (n + 1) ks g gV ∧ FnOk P w K mg base CX k f fd ps sp
section
variable {X : Cx} {CX : CXT} {k j n : Nat} {C : Addr} {sp : Sp} {gV : List V → List V → List V} {ks : List Str} {E : XK} {x : Str} {p pos : Pos} {e : Expr} {es : List Expr} {kws : List Keyword} {t tk : TA}
theorem pe_makeKF (c : CalCK X.prog X.w X.K X.mg X.base CX j x C n ks gV sp) (hr : Room k X.A) (hg : Gl X x) (hx : Passes CX X E) (ha : PA X (e :: es) t) (hkw : PK X kws tk) (hk : j + 1 ≤ k := by decide)
    (hall : (backToKw pos (keywordEach kws X.env)).all (·.1.isSome) = true := by rfl) (hks : (backToKw pos (keywordEach kws X.env)).filterMap (·.1) = ks := by rfl)
    (hdb : (x == ("__debug__" : Str)) = false := by decide) (he : starEach (e :: es) X.env = (false, eval e X.env) :: starEach es X.env := by rfl)
    (hpl : ((backTo pos (starEach (e :: es) X.env)).any (·.1) || (backToKw pos (keywordEach kws X.env)).any (·.1.isNone)) = false := by rfl) :
    PE X (.Call (.Name x p) (e :: es) kws pos) (tMakeN C n ks.length sp gV E t tk) := by
  obtain ⟨f, fd, ps, g, h1, h2, h3, h5⟩ := c.ex
  exact pe_makeN h2 h5 (hr.mono hk) hg h1 h3 hx ha hkw hall hks hdb he hpl
def kMakeN (C : Addr) (n m : Nat) (sp : Sp) (gV : List V → List V → List V) (E : XK) (Q : VK) (vs zs : List V) (H2 : Hp) : Prop := vs.length = n ∧ zs.length = m ∧
  ∀ x dx, H2 x = none → H2 dx = none → dx ≠ x → sp (gV (.ref x :: vs) zs) (upd (upd H2 dx (.own x)) x (.ins C dx [])) (fun v H3 => v = .non ∧ Q (.ref x) H3) E
theorem r_makeN {C : Addr} {n m : Nat} {σ : L2.St} {H : Hp} {Q : VK} (h : t σ H fun vs H1 => tk σ H1 fun zs H2 => kMakeN C n m sp gV E Q vs zs H2) : tMakeN C n m sp gV E t tk σ H Q := h
end
/-! a name of one's own that holds a def of the module -/
section
variable {X : Cx} {k j i : Nat} {f : Addr} {sp : Sp} {x : Str} {p pos : Pos} {e : Expr} {es : List Expr} {t : TA}
theorem pe_callLF (c : Held X.prog X.w X.K X.mg X.base j f sp) (hr : Room k X.A) (hN : X.N[i]? = some x) (hv : Vis X.env.scope x) (ha : PA X (e :: es) t) (hk : j ≤ k := by decide)
    (hdb : (x == ("__debug__" : Str)) = false := by decide) (hcd : (x == ("__classdict__" : Str)) = false := by decide)
    (he : starEach (e :: es) X.env = (false, eval e X.env) :: starEach es X.env := by rfl) (hpl : (backTo pos (starEach es X.env)).any (·.1) = false := by rfl) : PE X (.Call (.Name x p) (e :: es) [] pos) (tCallL i f sp [] (fun _ _ _ => False) t) := by
  obtain ⟨fd, ps, F, h1, h2⟩ := c.ex
  exact pe_callL F (hr.mono hk) hN hv h1 h2 .nil (fun _ _ _ _ _ _ _ z => z.elim) ha hdb hcd he hpl
theorem r_callL {σ : L2.St} {H : Hp} {Q : VK} {E : XK} (hs : σ[i]? = some (some (.ref f))) (k : t σ H fun vs H1 => sp (vs ++ []) H1 Q E) : tCallL i f sp [] E t σ H Q := ⟨hs, k⟩
end
end SH

set_option Elab.async false
set_option linter.all false
set_option maxRecDepth 100000
set_option maxHeartbeats 4000000
/-! SHR: C() where C has no __init__ but object's -/
namespace SH
open PySem PySem.Spec PyProof.Rows L2
structure MkP (K : PySem.W.Frag) (C : Addr) : Prop where
  makes : PySem.W.makesIn K C = true
  init : PySem.W.findIn K (.ref C) "__init__" = some (some (.builtin "object.__init__"))
  kp : PySem.W.keepIn K (.ref C) = true
def tMakeP (C : Addr) : TE := fun σ H Q => ∀ x dx, H x = none → H dx = none → dx ≠ x → Q (.ref x) (upd (upd H dx (.own x)) x (.ins C dx []))
theorem pe_makeP {X : Cx} {C : Addr} {x : Str} {p pos : Pos} (M : MkP X.K C) (hg : Gl X x) (hm : X.mg x = some (.ref C)) (hdb : (x == ("__debug__" : Str)) = false := by decide) : PE X (.Call (.Name x p) [] [] pos) (tMakeP C) := by
  refine ⟨fun pins s σ H Q I h => ?_⟩
  refine wpAny_Call_Name_kw (ld_glob I hg hm ?_ hdb)
  refine PySem.W.callWith_K0 I.kIn M.kp ?_
  have hq := h (s.heap.objs.size + 1) s.heap.objs.size (I.hok.fresh (Nat.le_succ _)) (I.hok.fresh (Nat.le_refl _)) (Nat.ne_of_lt (Nat.lt_succ_self _))
  have I2 := Inv.made (C := C) I
  refine wpAny_call (make_map0 I.kIn M.makes M.init (fun self => PySem.W.Looks.of_pure (PySem.W.oi_bind self)) ?_)
  have hx : ((s.heap.push PySem.W.emptyDict).push (PySem.W.instObj C s.heap.objs.size)).get? (s.heap.objs.size + 1) = some (PySem.W.instObj C s.heap.objs.size) := by heap_get
  refine codeAny_call_builtin PySem.W.oi_plain PySem.W.entry_oi (PySem.W.check_slot PySem.W.oi_kind PySem.W.oi_split ?_ (PySem.W.oi_args _) ?_)
  · have LT : PySem.W.Looks (model X.prog X.w) ((s.heap.push PySem.W.emptyDict).push (PySem.W.instObj C s.heap.objs.size)) (typeOf (.ref (s.heap.objs.size + 1))) (.ref C) := fun A Q E s k q => wpAny_typeOf_ref (k _ _ hx) q
    exact LT.andThen (PySem.W.looks_mroIn I2.kIn (mro_obj M.makes))
  · rw [PySem.W.oi_run]
    exact wpAny_pure ⟨rfl, ⟨V.ref (s.heap.objs.size + 1), _, I2, rfl, hq⟩⟩
/-! membership of data in a list of data -/
def rInD (K : PySem.W.Frag) (neg : Bool) : R2 := fun x y H Q => ∃ d ds, Dp K H x d ∧ Dp K H y (.list ds) ∧ d.canLay0 = true ∧ PyData.canLayAll0 ds = true ∧ d.depth ≤ 8 ∧ Q (.bl (if neg then !(ds.any fun e => PyData.eqv e d) else ds.any fun e => PyData.eqv e d)) H
theorem op_inD {X : Cx} (hu : X.A.units + 64 < cLine) : OpR X (compareOp .In) (rInD X.K false) := by
  intro pins s σ H x y v u Q I rx ry h
  obtain ⟨d, ds, hd, he, sd, se, hdp, q⟩ := h
  obtain ⟨as, r1⟩ := Dp.reads I d x v hd rx
  obtain ⟨bs, r2⟩ := Dp.reads I _ y u he ry
  refine SeqAt.in_list_reads r2 r1 se sd ?_ ⟨.bl _, H, I, rfl, q⟩
  have := Nat.min_le_right (PyData.depthAll ds) d.depth
  omega
theorem op_notInD {X : Cx} (hu : X.A.units + 64 < cLine) : OpR X (compareOp .NotIn) (rInD X.K true) := by
  intro pins s σ H x y v u Q I rx ry h
  obtain ⟨d, ds, hd, he, sd, se, hdp, q⟩ := h
  obtain ⟨as, r1⟩ := Dp.reads I d x v hd rx
  obtain ⟨bs, r2⟩ := Dp.reads I _ y u he ry
  refine SeqAt.notIn_list_reads r2 r1 se sd ?_ ⟨.bl _, H, I, rfl, q⟩
  have := Nat.min_le_right (PyData.depthAll ds) d.depth
  omega
section
variable {K : PySem.W.Frag} {H : Hp} {α : Type} [Enc α] {p : Addr} {vs : List V} {xs : List α} {v : V} {x : α} {Q : VK}
theorem v_notInE (h1 : Is K H v x) (h2 : SqL K H p vs) (h3 : IsL K H vs xs) (k : ∀ b : Bool, (b = true ↔ x ∈ xs) → Q (.bl (!b)) H) (hn : Enc.n α ≤ 8 := by decide) : rInD K true v (.ref p) H Q := by
  refine ⟨Enc.d x, xs.map Enc.d, h1, .lst h2 h3, Enc.lay x, Enc.layAll xs, Nat.le_trans (Enc.deep x) hn, ?_⟩
  rw [if_pos rfl]
  refine k _ ?_
  rw [List.any_map, List.any_eq_true]
  constructor
  · rintro ⟨y, hy, e⟩
    have e' : PyData.eqv (Enc.d y) (Enc.d x) = true := e
    rw [Enc.eqv] at e'
    obtain rfl := @of_decide_eq_true _ (Enc.dec y x) e'
    exact hy
  · intro h
    refine ⟨x, h, ?_⟩
    show PyData.eqv (Enc.d x) (Enc.d x) = true
    rw [Enc.eqv]
    exact @decide_eq_true _ (Enc.dec x x) rfl
end
end SH

set_option Elab.async false
set_option linter.all false
set_option maxRecDepth 100000
set_option maxHeartbeats 8000000
/-! the step -/
local macro_rules | `(tactic| walk_at "slot") => `(tactic| (with_reducible first | exact SH.get_z | (apply SH.get_s; walk_at "slot")))
local macro_rules | `(tactic| walk_at "put") => `(tactic| (with_reducible first | exact SH.set_z | (apply SH.set_s; walk_at "put")))
local macro_rules | `(tactic| walk_at "wipe") => `(tactic| (with_reducible first | exact SH.wp_z | apply SH.wp_s (by walk_at "wipe") (by walk_at "put")))
local macro_rules | `(tactic| walk_at "begin") => `(tactic| ((apply SH.r_start (by (repeat (with_reducible first | exact SH.st_z | apply SH.st_c | apply SH.st_n)))); (try dsimp only [L2.Cx.nox, L2.Cx.wish, L2.cxOf])))
local macro_rules | `(tactic| walk_at "r0") => `(tactic| with_reducible first
  | ((apply SH.r_nx (by walk_at "put")))
  | refine SH.r_seq ?_ | refine SH.r_asg ?_ | (apply SH.r_gnw (by walk_at "wipe")) | (apply SH.r_gtw (by walk_at "wipe")) | ((apply SH.r_gname (by walk_at "put")))
  | ((apply SH.r_var (by walk_at "slot"))) | refine SH.r_c ?_ | refine SH.r_op ?_ | refine SH.r_cons ?_ | refine SH.r_nil ?_
  | refine SH.v_addI ?_ | refine SH.v_subI ?_ | refine SH.v_ltI ?_ | refine SH.v_leI ?_ | refine SH.v_gtI ?_ | refine SH.v_geI ?_ | refine SH.v_eqI ?_ | refine SH.v_neI ?_
  | refine SH.v_eqB ?_ | refine SH.v_neB ?_ | refine SH.w_isB ?_ | refine SH.w_notB ?_ | refine SH.v_isN ?_ | refine SH.v_notN ?_ | refine SH.v_ipA ?_ | refine SH.v_ipS ?_ | refine SH.v_and ?_
  | refine SH.r_ifS ?_ | refine SH.r_test ?_ | refine SH.r_bl ?_ | refine SH.r_B ?_ | refine SH.r_and ?_ | refine SH.r_or ?_ | refine SH.r_not ?_ | refine SH.r_andV ?_ | refine SH.r_orV ?_ | refine SH.r_notV ?_
  | refine SH.r_T ?_ | refine SH.r_F ?_ | refine SH.r_nT ?_ | refine SH.r_nF ?_
  | refine SH.r_ret ?_ | refine SH.r_retN ?_ | refine SH.r_drop ?_ | ((apply SH.r_aug (by walk_at "slot"))) | refine SH.r_next ?_ | refine SH.r_if ?_
  | refine SH.r_call ?_ | refine SH.r_cb ?_ | refine SH.r_tup ?_ | refine SH.r_lst ?_ | refine SH.r_part ?_ | refine SH.r_nopart ?_ | refine SH.r_int ?_ | refine SH.r_sl ?_ | refine SH.r_chain ?_
  | refine SH.r_bm ?_ | refine SH.r_bm0 ?_ | refine SH.r_un ?_ | refine SH.r_neg ?_ | refine SH.r_gcons ?_ | refine SH.r_gnil ?_ | refine SH.r_gsub ?_ | refine SH.r_brk ?_ | refine SH.r_cont ?_ | refine SH.r_yes ?_
  | refine SH.r_for ?_ | refine SH.r_lc ?_ | refine SH.r_iList ?_ | refine SH.r_iTup ?_ | refine SH.r_iRng1 ?_ | refine SH.r_iRng2 ?_ | refine SH.r_iRng3 ?_ | refine SH.r_iEnum ?_ | refine SH.r_iZip ?_ | refine SH.r_iRev ?_
  | refine SH.r_fldF ?_ | refine SH.r_sfldF ?_ | refine SH.r_sfldAugF ?_ | refine SH.r_meth ?_ | refine SH.r_make ?_ | refine SH.r_lrg1 ?_ | refine SH.r_lrg2 ?_ | refine SH.r_bits ?_ | refine SH.v_bits ?_ | refine SH.w_max ?_ | refine SH.w_min ?_
  | refine SH.r_par ?_ | refine SH.r_par3 ?_ | (apply SH.v_par (by walk_at "put") (by walk_at "put")) | (apply SH.v_par3 (by walk_at "put") (by walk_at "put") (by walk_at "put"))
  | refine SH.r_callS ?_ | refine SH.r_mkO ?_ | refine SH.r_xf ?_ | refine SH.r_ost ?_ | refine SH.r_methX ?_ | refine SH.r_makeX ?_ | refine SH.r_augS ?_ | refine SH.r_dnewT ?_ | refine SH.r_dput ?_ | refine SH.r_dget1 ?_ | refine SH.r_dgetI ?_ | refine SH.r_din ?_ | refine SH.r_dnotin ?_ | refine SH.w_intI ?_ | refine SH.w_intB ?_ | ((apply SH.v_dget1 (by assumption))))
/-! heap facts -/
local macro_rules | `(tactic| walk_at "ne") => `(tactic| with_reducible first
  | assumption | (apply Ne.symm; assumption)
  | ((apply SH.ne_of_none'); (focus (assumption; done)); (focus (walk_at "lk"))) | ((apply Ne.symm); (apply SH.ne_of_none'); (focus (assumption; done)); (focus (walk_at "lk")))
  | ((apply L2.ne_of); (focus (walk_at "lk")); (focus (walk_at "lk")); (focus (intro z; cases z; done))))
local macro_rules | `(tactic| walk_at "lk") => `(tactic| (focus
  ((repeat (with_reducible first
  | assumption | exact L2.upd_same
  | (apply SH.off_old (by assumption))
  | ((apply SH.off_far); (focus (walk_at "ne")))
  | (apply SH.Stp.keep0 (by assumption))));
        done)))
local macro_rules | `(tactic| walk_at "sq") => `(tactic| (focus
  ((repeat (with_reducible first
  | assumption | exact L2.SqL.of L2.upd_same | exact L2.SqT.of L2.upd_same | exact L2.SqL.of (by assumption) | exact L2.SqT.of (by assumption)
  | (apply SH.sql_off (by assumption)) | (apply SH.sqt_off (by assumption))
  | ((apply SH.sql_offar); (focus (walk_at "ne"))) | ((apply SH.sqt_offar); (focus (walk_at "ne")))
  | (apply SH.Stp.sql0 (by assumption)) | (apply SH.Stp.sqt0 (by assumption))));
        done)))
local macro_rules | `(tactic| walk_at "st") => `(tactic| (focus
  ((repeat (with_reducible first
  | assumption | exact SH.Stp.refl _ _
  | (apply SH.st_new (by assumption)) | (apply SH.st_trans (by assumption)) | ((apply SH.st_put); (focus (walk_at "fr")))));
        done)))
local macro_rules | `(tactic| walk_at "fr") => `(tactic| with_reducible first | assumption | ((apply SH.st_fr (by assumption)); (walk_at "st")))
local macro_rules | `(tactic| walk_at "few") => `(tactic| first | exact SH.few0 | exact SH.few1 | exact SH.few2 | exact SH.few3 | exact SH.few4 | exact SH.few5 | exact SH.few6 | (simp; done))
local macro_rules | `(tactic| walk_at "pf") => `(tactic| first | exact SH.pf_nil | exact SH.pf_hit | (apply SH.pf_miss (by decide) (by walk_at "pf")))
/-! steps with a side -/
local macro_rules | `(tactic| walk_at "r2") => `(tactic| first
  | ((with_reducible refine SH.v_mulI ?_ ?_); (focus (first | exact L2.CMul.ok (.inl ⟨by omega, by omega⟩) | exact L2.CMul.ok (.inr ⟨by omega, by omega⟩) | exact SH.mul64 ⟨by omega, by omega⟩ ⟨by omega, by omega⟩)))
  | ((with_reducible refine SH.v_divS ?_ ?_ ?_); (focus omega); (focus omega))
  | ((with_reducible refine SH.v_mod ?_ ?_); (focus omega))
  | (with_reducible refine SH.v_pow60 ?_)
  | ((with_reducible apply SH.v_lenQ); (focus (walk_at "sq")); (focus (first | exact List.length_map _ | rfl))) | ((with_reducible apply SH.v_lenU); (focus (walk_at "sq")); (focus (first | exact List.length_map _ | rfl)))
  | ((with_reducible apply SH.v_slL); (focus (walk_at "sq"))) | ((with_reducible apply SH.v_iList); (focus (walk_at "sq")))
  | ((with_reducible refine SH.v_rng2 ?_ ?_); (focus (refine ⟨by omega, by omega, by omega, by omega⟩)))
  | ((with_reducible refine SH.v_rng1 ?_ ?_); (focus (refine ⟨by omega, by omega⟩)))
  | ((with_reducible apply SH.v_fld); (focus (walk_at "lk")); (focus rfl)) | ((with_reducible apply SH.v_sfld); (focus (walk_at "lk")); (focus (walk_at "few")); (focus (walk_at "pf"))) | ((with_reducible apply SH.v_aug1); (focus (walk_at "lk")); (focus rfl)) | ((with_reducible apply SH.v_aug2); (focus (walk_at "lk")); (focus (walk_at "few")); (focus (walk_at "pf")))
  | ((with_reducible apply SH.v_enum); (focus (walk_at "sq"))) | ((with_reducible apply SH.v_rev1); (focus (walk_at "sq"))) | ((with_reducible apply SH.v_zip); (focus (walk_at "sq")); (focus (walk_at "sq"))) | ((with_reducible apply SH.v_iTup); (focus (walk_at "sq")))
  | (with_reducible refine SH.v_tup1 ?_) | (with_reducible refine SH.v_tup2 ?_) | (with_reducible refine SH.v_tup3 ?_) | (with_reducible refine SH.v_lst0 ?_) | (with_reducible refine SH.v_lst1 ?_) | (with_reducible refine SH.v_lst2 ?_) | (with_reducible refine SH.v_lst3 ?_) | (with_reducible refine SH.v_lst4 ?_)
  | ((with_reducible apply SH.r_ty); (focus (walk_at "lk")))
  | ((with_reducible apply SH.w_listL); (focus (walk_at "sq"))) | ((with_reducible apply SH.w_listT); (focus (walk_at "sq"))) | ((with_reducible apply SH.w_tupL); (focus (walk_at "sq"))) | ((with_reducible apply SH.w_tupT); (focus (walk_at "sq")))
  | ((with_reducible apply SH.r_gtup); (focus (walk_at "sq")); (focus rfl))
  | ((with_reducible apply SH.r_glst); (focus (walk_at "sq")); (focus rfl))
  | (with_reducible refine SH.r_callX ?_)
  | ((with_reducible refine SH.r_wp ?_ ?_); (focus rfl))
  | ((with_reducible apply SH.v_methX); (focus (walk_at "lk")); (focus rfl)) | ((with_reducible apply SH.v_xf); (focus (walk_at "lk")); (focus rfl)) | ((with_reducible apply SH.v_meth); (focus (walk_at "lk")); (focus rfl)) | ((with_reducible apply SH.isi_L); (focus (walk_at "lk"))) | ((with_reducible apply SH.isi_T); (focus (walk_at "lk"))) | (with_reducible refine SH.isi_bl_bool ?_) | (with_reducible refine SH.isi_bl_int ?_)
  | (with_reducible refine SH.r_ckw ?_) | (with_reducible refine SH.r_ckw2 ?_) | (with_reducible refine SH.r_lrev ?_) | ((with_reducible apply SH.v_lrev); (focus (walk_at "sq")))
  | ((with_reducible refine SH.v_isiIT ?_)) | ((with_reducible refine SH.v_isiIB ?_)) )
local macro_rules | `(tactic| walk_at "r1") => `(tactic| first | walk_at "r0" | walk_at "r2")
local macro_rules | `(tactic| walk_at "rd") => `(tactic| repeat walk_at "r1")
/-! the same, up to the making of an instance, or a call -/
local macro_rules | `(tactic| walk_at "rq") => `(tactic| repeat ((fail_if_success (with_reducible refine SH.r_make ?_)); walk_at "r1"))
local macro_rules | `(tactic| walk_at "rc") => `(tactic| repeat ((fail_if_success (with_reducible refine SH.r_call ?_)); walk_at "r1"))
/-! the same, up to an if -/
local macro_rules | `(tactic| walk_at "ri") => `(tactic| repeat ((fail_if_success (with_reducible refine SH.r_ifS ?_)); walk_at "r1"))

namespace Law
open PySem PySem.Spec PyProof.Rows L2 SH NdefX LamX
def top (i : Nat) : Stmt := PySem.Challenge.pw_sorthall_k27_whole_asks_that_show.main.body.getD i (.Pass ⟨0, 0, 0, 0⟩)
abbrev s_Spent___init__ : Stmt := inClass (top 5) 0
theorem sc_Spent___init__ : FnScope ["self", "asked"] ["self", "asked"] (defScope s_Spent___init__) := ⟨rfl, rfl, rfl, by decide +kernel, rfl, by decide +kernel, by decide +kernel⟩
abbrev s_straight : Stmt := top 7
theorem sc_straight : FnScope ["many"] ["many"] (defScope s_straight) := ⟨rfl, rfl, rfl, by decide +kernel, rfl, by decide +kernel, by decide +kernel⟩
abbrev s_is_paper : Stmt := top 8
theorem sc_is_paper : FnScope ["some"] ["some"] (defScope s_is_paper) := ⟨rfl, rfl, rfl, by decide +kernel, rfl, by decide +kernel, by decide +kernel⟩
abbrev s_paper_for : Stmt := top 9
theorem sc_paper_for : FnScope ["paper", "many"] ["paper", "many"] (defScope s_paper_for) := ⟨rfl, rfl, rfl, by decide +kernel, rfl, by decide +kernel, by decide +kernel⟩
abbrev s_laid : Stmt := top 10
theorem sc_laid : FnScope ["row", "paper", "place"] ["row", "paper"] (defScope s_laid) := ⟨rfl, rfl, rfl, by decide +kernel, rfl, by decide +kernel, by decide +kernel⟩
abbrev s_back : Stmt := top 11
theorem sc_back : FnScope ["paper", "told", "at", "place"] ["paper"] (defScope s_back) := ⟨rfl, rfl, rfl, by decide +kernel, rfl, by decide +kernel, by decide +kernel⟩
abbrev s_agrees : Stmt := top 12
theorem sc_agrees : FnScope ["paper", "answers", "turn", "later", "earlier", "said"] ["paper", "answers"] (defScope s_agrees) := ⟨rfl, rfl, rfl, by decide +kernel, rfl, by decide +kernel, by decide +kernel⟩
abbrev s_shows : Stmt := top 13
theorem sc_shows : FnScope ["paper", "answers", "asked", "later", "earlier", "said", "one", "other"] ["paper", "answers"] (defScope s_shows) := ⟨rfl, rfl, rfl, by decide +kernel, rfl, by decide +kernel, by decide +kernel⟩
abbrev s_Asker___init__ : Stmt := inClass (top 15) 0
theorem sc_Asker___init__ : FnScope ["self", "row", "rule", "most"] ["self", "row", "rule", "most"] (defScope s_Asker___init__) := ⟨rfl, rfl, rfl, by decide +kernel, rfl, by decide +kernel, by decide +kernel⟩
abbrev s_Asker_many : Stmt := inClass (top 15) 1
theorem sc_Asker_many : FnScope ["self"] ["self"] (defScope s_Asker_many) := ⟨rfl, rfl, rfl, by decide +kernel, rfl, by decide +kernel, by decide +kernel⟩
abbrev s_Asker_ahead : Stmt := inClass (top 15) 2
theorem sc_Asker_ahead : FnScope ["self", "p", "q", "later", "earlier", "said"] ["self", "p", "q"] (defScope s_Asker_ahead) := ⟨rfl, rfl, rfl, by decide +kernel, rfl, by decide +kernel, by decide +kernel⟩
abbrev s_Asker_answers : Stmt := inClass (top 15) 3
theorem sc_Asker_answers : FnScope ["self"] ["self"] (defScope s_Asker_answers) := ⟨rfl, rfl, rfl, by decide +kernel, rfl, by decide +kernel, by decide +kernel⟩
abbrev s_matrix_of : Stmt := top 17
theorem sc_matrix_of : FnScope ["row", "rule", "goes", "thing", "other"] ["row", "rule"] (defScope s_matrix_of) := ⟨rfl, rfl, rfl, by decide +kernel, rfl, by decide +kernel, by decide +kernel⟩
abbrev s_plain_flaw : Stmt := top 18
theorem sc_plain_flaw : FnScope ["goes", "p", "q"] ["goes"] (defScope s_plain_flaw) := ⟨rfl, rfl, rfl, by decide +kernel, rfl, by decide +kernel, by decide +kernel⟩
abbrev s_torn_by : Stmt := top 19
theorem sc_torn_by : FnScope ["goes", "one", "other", "x"] ["goes", "one", "other"] (defScope s_torn_by) := ⟨rfl, rfl, rfl, by decide +kernel, rfl, by decide +kernel, by decide +kernel⟩
abbrev s_tie_in : Stmt := top 20
theorem sc_tie_in : FnScope ["goes", "ranks", "p", "q"] ["goes", "ranks"] (defScope s_tie_in) := ⟨rfl, rfl, rfl, by decide +kernel, rfl, by decide +kernel, by decide +kernel⟩
abbrev s_ranked : Stmt := top 21
theorem sc_ranked : FnScope ["row", "rule", "goes", "flaw", "ranks", "p", "q"] ["row", "rule"] (defScope s_ranked) := ⟨rfl, rfl, rfl, by decide +kernel, rfl, by decide +kernel, by decide +kernel⟩
abbrev s_good : Stmt := top 24
theorem sc_good : FnScope ["at"] ["at"] (defScope s_good) := ⟨rfl, rfl, rfl, by decide +kernel, rfl, by decide +kernel, by decide +kernel⟩
abbrev s_Rule_before : Stmt := inClass (top 25) 0
theorem sc_Rule_before : FnScope ["self", "x", "y"] ["self", "x", "y"] (defScope s_Rule_before) := ⟨rfl, rfl, rfl, by decide +kernel, rfl, by decide +kernel, by decide +kernel⟩
abbrev s_KeyRule___init__ : Stmt := inClass (top 26) 0
theorem sc_KeyRule___init__ : FnScope ["self", "columns", "at", "way"] ["self", "columns"] (defScope s_KeyRule___init__) := ⟨rfl, rfl, rfl, by decide +kernel, rfl, by decide +kernel, by decide +kernel⟩
abbrev s_KeyRule_before : Stmt := inClass (top 26) 1
theorem sc_KeyRule_before : FnScope ["self", "x", "y", "at", "way"] ["self", "x", "y"] (defScope s_KeyRule_before) := ⟨rfl, rfl, rfl, by decide +kernel, rfl, by decide +kernel, by decide +kernel⟩
abbrev s__law_cell_at : Stmt := top 28
theorem sc__law_cell_at : FnScope ["_law_script", "_law_k"] ["_law_script", "_law_k"] (defScope s__law_cell_at) := ⟨rfl, rfl, rfl, by decide +kernel, rfl, by decide +kernel, by decide +kernel⟩
abbrev s__law_pairs : Stmt := top 29
theorem sc__law_pairs : FnScope ["_law_cells", "_law_many", "_law_pairs_here", "_law_cell"] ["_law_cells", "_law_many"] (defScope s__law_pairs) := ⟨rfl, rfl, rfl, by decide +kernel, rfl, by decide +kernel, by decide +kernel⟩
abbrev s__law_turned : Stmt := top 30
theorem sc__law_turned : FnScope ["_law_paper", "_law_cell", "_law_pairs_here", "_law_number", "_law_k", "_law_pair"] ["_law_paper", "_law_cell"] (defScope s__law_turned) := ⟨rfl, rfl, rfl, by decide +kernel, rfl, by decide +kernel, by decide +kernel⟩
abbrev s__law_reserve : Stmt := top 31
theorem sc__law_reserve : FnScope ["_law_cell", "_law_k", "_law_number"] ["_law_cell", "_law_k"] (defScope s__law_reserve) := ⟨rfl, rfl, rfl, by decide +kernel, rfl, by decide +kernel, by decide +kernel⟩
abbrev s__law_signed : Stmt := top 32
theorem sc__law_signed : FnScope ["_law_digit"] ["_law_digit"] (defScope s__law_signed) := ⟨rfl, rfl, rfl, by decide +kernel, rfl, by decide +kernel, by decide +kernel⟩
abbrev s__law_turned_of : Stmt := top 33
theorem sc__law_turned_of : FnScope ["_law_paper", "_law_cell", "_law_pairs_here", "_law_first", "_law_k", "_law_pair"] ["_law_paper", "_law_cell"] (defScope s__law_turned_of) := ⟨rfl, rfl, rfl, by decide +kernel, rfl, by decide +kernel, by decide +kernel⟩
abbrev s__law_known : Stmt := top 34
theorem sc__law_known : FnScope ["_law_paper", "_law_asked", "_law_k"] ["_law_paper", "_law_asked"] (defScope s__law_known) := ⟨rfl, rfl, rfl, by decide +kernel, rfl, by decide +kernel, by decide +kernel⟩
abbrev s__law_answers : Stmt := top 35
theorem sc__law_answers : FnScope ["_law_asker", "_law_paper", "_law_turn", "_law_asked", "_law_due", "_law_p", "_law_q", "_law_later", "_law_earlier", "_law_told", "_law_found"] ["_law_asker", "_law_paper", "_law_turn", "_law_asked"] (defScope s__law_answers) := ⟨rfl, rfl, rfl, by decide +kernel, rfl, by decide +kernel, by decide +kernel⟩
abbrev s__law_row_of : Stmt := top 36
theorem sc__law_row_of : FnScope ["_law_script", "_law_width", "_law_cell"] ["_law_script"] (defScope s__law_row_of) := ⟨rfl, rfl, rfl, by decide +kernel, rfl, by decide +kernel, by decide +kernel⟩
abbrev s__law_asks : Stmt := top 37
theorem sc__law_asks : FnScope ["_law_script", "_law_paper", "_law_pairs_here"] ["_law_script", "_law_paper"] (defScope s__law_asks) := ⟨rfl, rfl, rfl, by decide +kernel, rfl, by decide +kernel, by decide +kernel⟩
abbrev s_law : Stmt := top 38
theorem sc_law : FnScope ["_law_script", "_law_row", "_law_many", "_law_way", "_law_rule", "_law_found", "_law_k", "_law_paper", "_law_things", "_law_turn", "_law_asker", "_law_asked", "_law_some", "_law_others", "_law_pairs_here", "_law_p", "_law_q", "_law_said", "_law_rank", "_law_place"] ["_law_script"] (defScope s_law) := ⟨rfl, rfl, rfl, by decide +kernel, rfl, by decide +kernel, by decide +kernel⟩
structure Ad where
  HallError : Addr
  NoRule : Addr
  NoPaper : Addr
  Spent : Addr
  Asker : Addr
  Rule : Addr
  KeyRule : Addr
structure Txt (K : PySem.W.Frag) (mg : Str → Option Value) (A : Ad) : Prop where
  z_ValueError : mg "ValueError" = Option.none
  z_list : mg "list" = Option.none
  z_enumerate : mg "enumerate" = Option.none
  z_zip : mg "zip" = Option.none
  z_range : mg "range" = Option.none
  z_len : mg "len" = Option.none
  z_sorted : mg "sorted" = Option.none
  z_max : mg "max" = Option.none
  z_min : mg "min" = Option.none
  z_isinstance : mg "isinstance" = Option.none
  z_bool : mg "bool" = Option.none
  z_tuple : mg "tuple" = Option.none
  g_HallError : mg "HallError" = some (.ref A.HallError)
  g_NoRule : mg "NoRule" = some (.ref A.NoRule)
  g_NoPaper : mg "NoPaper" = some (.ref A.NoPaper)
  g_Spent : mg "Spent" = some (.ref A.Spent)
  g_Asker : mg "Asker" = some (.ref A.Asker)
  cl_Asker : Cls K A.Asker
  na_Asker_row : NoAttr K A.Asker "row"
  na_Asker_rule : NoAttr K A.Asker "rule"
  na_Asker_most : NoAttr K A.Asker "most"
  na_Asker_asked : NoAttr K A.Asker "asked"
  na_Asker_log : NoAttr K A.Asker "log"
  g_Rule : mg "Rule" = some (.ref A.Rule)
  cl_Rule : Cls K A.Rule
  g_KeyRule : mg "KeyRule" = some (.ref A.KeyRule)
  cl_KeyRule : Cls K A.KeyRule
  na_KeyRule_columns : NoAttr K A.KeyRule "columns"
  k_LAST : ∃ u, mg "LAST" = some u ∧ RelV (.int 7) u
/-! ### papers -/
/-- nats in a list of the heap -/
abbrev nv (ps : List Nat) : List V := ps.map fun n : Nat => V.int n
def Pap (ps : List Nat) : Prop := ps.Perm (List.range ps.length)
theorem Pap.lt {ps : List Nat} (h : Pap ps) {p : Nat} (hp : p ∈ ps) : p < ps.length := List.mem_range.mp (h.mem_iff.mp hp)
theorem Pap.mem {ps : List Nat} (h : Pap ps) {p : Nat} (hp : p < ps.length) : p ∈ ps := h.mem_iff.mpr (List.mem_range.mpr hp)
theorem Pap.nodup {ps : List Nat} (h : Pap ps) : ps.Nodup := h.nodup_iff.mpr List.nodup_range
theorem pap_range (n : Nat) : Pap (List.range n) := by unfold Pap; rw [List.length_range]
/-- the paper back -/
def inv (ps : List Nat) : List Nat := (List.range ps.length).map fun i => ps.idxOf i
theorem inv_len (ps : List Nat) : (inv ps).length = ps.length := by simp [inv]
theorem inv_at {ps : List Nat} {i : Nat} (h : i < ps.length) : (inv ps)[i]? = some (ps.idxOf i) := by simp [inv, h]
theorem Pap.idx {ps : List Nat} (h : Pap ps) {i : Nat} (hi : i < ps.length) : ps.idxOf i < ps.length ∧ ps[ps.idxOf i]? = some i := by
  have hm := h.mem hi
  have hl := List.idxOf_lt_length_of_mem hm
  exact ⟨hl, by rw [List.getElem?_eq_getElem hl]; simp⟩
theorem Pap.idx_at {ps : List Nat} (h : Pap ps) {a p : Nat} (e : ps[a]? = some p) : ps.idxOf p = a := by
  obtain ⟨ha, e⟩ := List.getElem?_eq_some_iff.mp e
  rw [← e]
  exact List.Nodup.idxOf_getElem h.nodup a ha
/-- told[ps[a]] = a all through -/
theorem Pap.inv_of {ps told : List Nat} (h : Pap ps) (hl : told.length = ps.length) (ht : ∀ (a p : Nat), ps[a]? = some p → told[p]? = some a) : told = inv ps := by
  refine List.ext_getElem? fun i => ?_
  by_cases hi : i < ps.length
  · rw [inv_at hi]
    exact ht _ _ (h.idx hi).2
  · rw [List.getElem?_eq_none (by omega), List.getElem?_eq_none (by rw [inv_len]; omega)]
theorem Pap.inv {ps : List Nat} (h : Pap ps) : Pap (inv ps) := by
  unfold Pap
  rw [inv_len]
  refine (List.perm_ext_iff_of_nodup ?_ List.nodup_range).mpr fun a => ?_
  · unfold Law.inv
    refine List.pairwise_map.mpr (List.Pairwise.imp_of_mem ?_ List.nodup_range)
    intro x y hx hy hne e
    have ex := (h.idx (List.mem_range.mp hx)).2
    have ey := (h.idx (List.mem_range.mp hy)).2
    rw [e] at ex
    exact hne (Option.some.inj (ex.symm.trans ey))
  · unfold Law.inv
    rw [List.mem_map, List.mem_range]
    constructor
    · rintro ⟨i, hi, rfl⟩; exact (h.idx (List.mem_range.mp hi)).1
    · intro ha
      refine ⟨ps[a], List.mem_range.mpr (h.lt (List.getElem_mem ha)), h.idx_at (by simp [ha])⟩
/-- what is laid -/
def lay {α : Type} (d : α) (row : List α) (ps : List Nat) : List α := ps.map fun p => row.getD p d
theorem lay_len {α : Type} {d : α} {row : List α} {ps : List Nat} : (lay d row ps).length = ps.length := by simp [lay]
theorem lay_map {α β : Type} (f : α → β) (d : α) (row : List α) (ps : List Nat) : lay (f d) (row.map f) ps = (lay d row ps).map f := by
  unfold lay
  rw [List.map_map]
  refine List.map_congr_left fun p _ => ?_
  simp [List.getD_eq_getElem?_getD, Option.getD_map]
/-- laid by a paper and then by another one -/
theorem lay_lay {α : Type} {d : α} {row : List α} {ps qs : List Nat} (h : ∀ q ∈ qs, q < ps.length) : lay d (lay d row ps) qs = lay d row (lay 0 ps qs) := by
  unfold lay
  rw [List.map_map]
  refine List.map_congr_left fun q hq => ?_
  have := h q hq
  simp [this]
theorem lay_stay {α : Type} {d : α} {row : List α} : lay d row (List.range row.length) = row := by
  refine List.ext_getElem? fun i => ?_
  by_cases hi : i < row.length
  · simp [lay, hi]
  · rw [List.getElem?_eq_none (by rw [lay_len, List.length_range]; omega), List.getElem?_eq_none (by omega)]
theorem Pap.lay_inv {ps : List Nat} (h : Pap ps) : lay 0 ps (Law.inv ps) = List.range ps.length := by
  unfold lay Law.inv
  rw [List.map_map]
  refine (List.map_congr_left (g := id) fun i hi => ?_).trans (List.map_id _)
  have := (h.idx (List.mem_range.mp hi)).2
  simp [List.getD_eq_getElem?_getD, this]
theorem Pap.inv_lay {ps : List Nat} (h : Pap ps) : lay 0 (Law.inv ps) ps = List.range ps.length := by
  refine List.ext_getElem? fun i => ?_
  by_cases hi : i < ps.length
  · have e : ps[i]? = some ps[i] := List.getElem?_eq_getElem hi
    have e2 := inv_at (h.lt (List.getElem_mem hi))
    rw [h.idx_at e] at e2
    simp [lay, hi, List.getD_eq_getElem?_getD, e2]
  · rw [List.getElem?_eq_none (by rw [lay_len]; omega), List.getElem?_eq_none (by rw [List.length_range]; omega)]
theorem Pap.lay {ps qs : List Nat} (h : Pap ps) (k : Pap qs) (e : ps.length = qs.length) : Pap (lay 0 ps qs) := by
  unfold Pap
  rw [lay_len]
  have h1 : (Law.lay 0 ps qs).Perm (Law.lay 0 ps (List.range qs.length)) := List.Perm.map _ k
  rw [← e, lay_stay] at h1
  rw [← e]
  exact h1.trans h
/-- the back of two behind one another -/
theorem Pap.inv_two {ps qs : List Nat} (h : Pap ps) (k : Pap qs) (e : ps.length = qs.length) : Law.inv (Law.lay 0 ps qs) = Law.lay 0 (Law.inv qs) (Law.inv ps) := by
  have hb := h.lay k e
  refine (hb.inv_of (by rw [lay_len, inv_len, lay_len]; exact e) fun a p hp => ?_).symm
  have ha : a < qs.length := by
    have := (List.getElem?_eq_some_iff.mp hp).1
    rwa [lay_len] at this
  have hq : qs[a]? = some qs[a] := List.getElem?_eq_getElem ha
  have hlt := k.lt (List.getElem_mem ha)
  have hp2 : ps[qs[a]]? = some p := by
    simp only [Law.lay, List.getElem?_map, hq, Option.map_some, List.getD_eq_getElem?_getD] at hp
    rw [List.getElem?_eq_getElem (by omega)] at hp ⊢
    exact hp
  have hpl : p < ps.length := h.lt (List.mem_of_getElem? hp2)
  simp only [Law.lay, List.getElem?_map, inv_at hpl, Option.map_some, h.idx_at hp2, List.getD_eq_getElem?_getD, inv_at hlt, k.idx_at hq, Option.getD_some]
/-- put in anywhere -/
theorem Pap.insert {ps : List Nat} (h : Pap ps) (i : Nat) : Pap (ps.take i ++ [ps.length] ++ ps.drop i) := by
  unfold Pap
  have hl : (ps.take i ++ [ps.length] ++ ps.drop i).length = ps.length + 1 := by
    simp only [List.length_append, List.length_take, List.length_drop, List.length_singleton]; omega
  rw [hl, List.range_succ]
  have : (ps.take i ++ [ps.length] ++ ps.drop i).Perm (ps ++ [ps.length]) := by
    have h1 : (ps.take i ++ [ps.length] ++ ps.drop i).Perm (ps.take i ++ (ps.drop i ++ [ps.length])) := by
      rw [List.append_assoc]
      exact List.Perm.append_left _ List.perm_append_comm
    rw [← List.append_assoc, List.take_append_drop] at h1
    exact h1
  exact this.trans (List.Perm.append_right _ h)
theorem lay_succ {α : Type} {d : α} {row : List α} {qs : List Nat} {j q : Nat} (h : qs[j]? = some q) : lay d row (qs.take (j + 1)) = lay d row (qs.take j) ++ [row.getD q d] := by
  unfold lay
  rw [List.take_succ, h]
  simp
theorem nv_at {ps : List Nat} {q : Nat} (h : q < ps.length) : (nv ps)[q]? = some (.int (ps.getD q 0)) := by simp [nv, h]
theorem nv_app {ps : List Nat} {q : Nat} : nv (ps ++ [q]) = nv ps ++ [.int q] := by simp [nv]
/-! ### the program's papers -/
abbrev ni (ps : List Nat) : List Int := ps.map fun n : Nat => (n : Int)
theorem nv_ni (ps : List Nat) : nv ps = (ni ps).map V.int := by unfold nv ni; rw [List.map_map]; rfl
def PapI (ns : List Int) : Prop := ns.Perm (ni (List.range ns.length))
instance (ns : List Int) : Decidable (PapI ns) := inferInstanceAs (Decidable (List.Perm _ _))
theorem Pap.i {ps : List Nat} (h : Pap ps) : PapI (ni ps) := by
  unfold PapI
  rw [List.length_map]
  exact List.Perm.map _ h
theorem PapI.nat {ns : List Int} (h : PapI ns) : ∃ ps, Pap ps ∧ ns = ni ps := by
  have hn : ∀ n ∈ ns, 0 ≤ n := fun n hn => by
    have := h.mem_iff.mp hn
    obtain ⟨m, _, rfl⟩ := List.mem_map.mp this
    omega
  have e : ns = ni (ns.map Int.toNat) := by
    unfold ni
    rw [List.map_map]
    refine (List.map_id ns).symm.trans (List.map_congr_left fun n z => ?_)
    have := hn n z
    show n = ((n.toNat : Nat) : Int)
    omega
  refine ⟨ns.map Int.toNat, ?_, e⟩
  unfold Pap
  rw [List.length_map]
  have := List.Perm.map Int.toNat h
  rw [show List.map Int.toNat (ni (List.range ns.length)) = List.range ns.length by unfold ni; rw [List.map_map]; exact (List.map_congr_left fun n _ => by simp).trans (List.map_id _)] at this
  exact this
theorem sorted_pap {ns ns' : List Int} (hp : ns'.Perm ns) (hs : ns'.Pairwise (· ≤ ·)) : (ns' = ni (List.range ns.length)) ↔ PapI ns := by
  constructor
  · intro e; rw [e] at hp; exact hp.symm
  · intro h
    refine List.Perm.eq_of_pairwise (le := (· ≤ ·)) (fun a b _ _ h1 h2 => Int.le_antisymm h1 h2) hs ?_ (hp.trans h)
    refine List.pairwise_map.mpr (List.Pairwise.imp (fun {a b} h => ?_) List.pairwise_lt_range)
    omega

def sp_straight (K : PySem.W.Frag) (A : Ad) : Sp := fun vs H Q _ => ∃ (n : Nat), vs = [.int n] ∧ n ≤ 100000 ∧ ∀ q, H q = none → Q (.ref q) (upd H q (.lst (nv (List.range n))))
theorem ok_straight {P : Program} {w : World} {K : PySem.W.Frag} {mg : Str → Option Value} {base : Heap} {A : Ad} {f : Addr} {fd : FuncData} (F : Fun K "straight" "straight" s_straight f fd) (T : Txt K mg A)  : FnOk P w K mg base CX0 1 f fd ["many"] (sp_straight K A) := by
  refine F.ok sc_straight (fun vs H Q E h => by obtain ⟨_, rfl, _⟩ := h; rfl) (fun cdv A' outer s H vs Q E hr h => ?_)
  obtain ⟨n, rfl, hn, k⟩ := h
  refine ⟨_, (pss_one (ps_ret (SH.pe_listrange (by rfl) T.z_list (by rfl) T.z_range (pv 0)))), ?_⟩
  walk_at "begin"
  walk_at "rd"
  refine v_lrg1 (n := n) rfl (by omega) fun q hq => ?_
  exact k q hq

def sp_is_paper (K : PySem.W.Frag) (A : Ad) : Sp := fun vs H Q _ => ∃ (a : Addr) (ns : List Int), vs = [.ref a] ∧ (SqL K H a (ns.map V.int) ∧ ns.length ≤ 100000) ∧ ∀ H', Stp [] H H' → Q (.bl (decide (PapI ns))) H'
theorem ok_is_paper {P : Program} {w : World} {K : PySem.W.Frag} {mg : Str → Option Value} {base : Heap} {A : Ad} {f : Addr} {fd : FuncData} (F : Fun K "is_paper" "is_paper" s_is_paper f fd) (T : Txt K mg A) (C_straight : SH.Cal P w K mg base CX0 1 "straight" [] (sp_straight K A)) : FnOk P w K mg base CX0 2 f fd ["some"] (sp_is_paper K A) := by
  refine F.ok sc_is_paper (fun vs H Q E h => by obtain ⟨_, _, rfl, _⟩ := h; rfl) (fun cdv A' outer s H vs Q E hr h => ?_)
  obtain ⟨a, ns, rfl, ⟨hS, hl⟩, k⟩ := h
  refine ⟨_, (pss_one (ps_ret (pe_cmpR (SH.oEq hr.units) (pe_callB cr_sortedI (by rfl) T.z_sorted (by decide +kernel) (pa_cons (pv 0) pa_nil)) (SH.pe_callF C_straight hr (by rfl) pass0 (pa_cons (pe_callB SH.cLen (by rfl) T.z_len (by decide +kernel) (pa_cons (pv 0) pa_nil)) pa_nil)) (nomark _)))), ?_⟩
  walk_at "begin"
  walk_at "rd"
  refine v_sortI (by walk_at "sq") fun ns' q hp hs hq => ?_
  walk_at "rd"
  refine ⟨ns.length, rfl, hl, fun q2 hq2 => ?_⟩
  walk_at "rd"
  rw [nv_ni]
  refine v_eqL (ns := ns') (ms := ni (List.range ns.length)) (sql_upd (SqL.of upd_same) hq2) (SqL.of upd_same) ?_
  rw [show decide (ns' = ni (List.range ns.length)) = decide (PapI ns) from decide_eq_decide.mpr (sorted_pap hp hs)]
  walk_at "rd"
  exact k _ (((Stp.refl _ _).new hq).new (by exact hq2))

def sp_paper_for (K : PySem.W.Frag) (A : Ad) : Sp := fun vs H Q _ => ∃ (a : Addr) (ps : List Nat), vs = [.ref a, .int ps.length] ∧ (SqL K H a (nv ps) ∧ ps.length ≤ 100000 ∧ Pap ps) ∧ ∀ H', Stp [] H H' → Q (.ref a) H'
theorem ok_paper_for {P : Program} {w : World} {K : PySem.W.Frag} {mg : Str → Option Value} {base : Heap} {A : Ad} {f : Addr} {fd : FuncData} (F : Fun K "paper_for" "paper_for" s_paper_for f fd) (T : Txt K mg A) (C_is_paper : SH.Cal P w K mg base CX0 2 "is_paper" [] (sp_is_paper K A)) : FnOk P w K mg base CX0 3 f fd ["paper", "many"] (sp_paper_for K A) := by
  refine F.ok sc_paper_for (fun vs H Q E h => by obtain ⟨_, _, rfl, _⟩ := h; rfl) (fun cdv A' outer s H vs Q E hr h => ?_)
  obtain ⟨a, ps, rfl, ⟨hS, hl, hp⟩, k⟩ := h
  refine ⟨_, (pss_cons (ps_if (PW.pt (pw_or (pt_cmpR (SH.oNe hr.units) (pe_callB SH.cLen (by rfl) T.z_len (by decide +kernel) (pa_cons (pv 0) pa_nil)) (pv 1) (nomark _)) (pw_or1 (pt_not (pt_val (SH.pe_callF C_is_paper hr (by rfl) pass0 (pa_cons (pv 0) pa_nil))))))) (pss_one ps_never) pss_nil)
        (pss_one (ps_ret (pv 0)))), ?_⟩
  walk_at "begin"
  walk_at "rd"
  refine r_nwF rfl ?_
  rw [nv_ni] at hS
  walk_at "rd"
  refine ⟨a, ni ps, rfl, ⟨hS, by rw [List.length_map]; exact hl⟩, fun H' S => ?_⟩
  walk_at "rd"
  rw [decide_eq_true hp.i]
  walk_at "rd"
  exact k _ S

def sp_laid (K : PySem.W.Frag) (A : Ad) : Sp := fun vs H Q _ => ∃ (r a : Addr) (row : List V) (ps : List Nat), vs = [.ref r, .ref a] ∧ (SqL K H r row ∧ SqL K H a (nv ps) ∧ row.length = ps.length ∧ ps.length ≤ 100000 ∧ Pap ps) ∧
  ∀ q H', H q = none → Stp [] H H' → H' q = some (.lst (lay .non row ps)) → Q (.ref q) H'
theorem ok_laid {P : Program} {w : World} {K : PySem.W.Frag} {mg : Str → Option Value} {base : Heap} {A : Ad} {f : Addr} {fd : FuncData} (F : Fun K "laid" "laid" s_laid f fd) (T : Txt K mg A) (C_paper_for : SH.Cal P w K mg base CX0 3 "paper_for" [] (sp_paper_for K A)) : FnOk P w K mg base CX0 4 f fd ["row", "paper"] (sp_laid K A) := by
  refine F.ok sc_laid (fun vs H Q E h => by obtain ⟨_, _, _, _, rfl, _⟩ := h; rfl) (fun cdv A' outer s H vs Q E hr h => ?_)
  obtain ⟨r, a, row, ps, rfl, ⟨hR, hS, hlr, hl, hp⟩, k⟩ := h
  refine ⟨_, (pss_one (ps_ret (pe_lc (own := [("place", 2)]) (g := (gName 2)) (tt := tYes) (by rfl) sc_laid.nd (pi_list (SH.pe_callF C_paper_for hr (by rfl) pass0 (pa_cons (pv 1) (pa_cons (pe_callB SH.cLen (by rfl) T.z_len (by decide +kernel) (pa_cons (pv 0) pa_nil)) pa_nil)))) (blkOk_by (own := [("place", 2)]) (N := ["row", "paper", "place"]) (sc := defScope s_laid) (by decide +kernel)) (fun _ _ _ _ _ => (pg_name (i := 2) sc_laid.nd rfl (Or.inl rfl))) (fun _ _ _ _ _ => pts_nil) (fun _ _ _ _ _ => (pe_ix (SH.ixK SH.aIx K SH.ixA) (pv 0) (pv 2) (fun _ _ => rfl)))))), ?_⟩
  walk_at "begin"
  walk_at "rd"
  rw [hlr]
  refine ⟨a, ps, rfl, ⟨hS, hl, hp⟩, fun H1 S1 => ?_⟩
  walk_at "rd"
  intro D hD
  have hD0 := S1.dom _ hD
  refine lc_it (walk_list (xs := nv ps)) (fun j H' => Stp [] H H' ∧ H' D = some (.lst (lay .non row (ps.take j)))) ⟨S1.new hD, upd_same⟩ (fun j H' _ z => z.1.sql0 hS) ?_ ?_
  · rintro j x H2 H3 hj ⟨S, hL⟩ ⟨rfl, hx⟩
    obtain ⟨p, hp', rfl⟩ := map_at hx
    have hlt := hp.lt (List.mem_of_getElem? hp')
    walk_at "rd"
    refine v_ixLn (n := p) (v := row.getD p .non) (S.sql0 hR) rfl (by simp [show p < row.length by omega]) ?_
    refine ⟨_, hL, ?_, S.putN hD0, ?_⟩
    · rw [lay_len]; exact Nat.lt_of_le_of_lt (List.length_take_le _ _) (Nat.lt_of_lt_of_le (by rw [List.length_map] at hj; exact hj) (Nat.le_trans hl (by decide)))
    · rw [upd_same, List.take_succ, hp']
      simp [lay]
  · rintro H2 ⟨S, hL⟩
    walk_at "rd"
    rw [List.length_map, List.take_length] at hL
    exact k D _ hD0 S hL

def sp_back (K : PySem.W.Frag) (A : Ad) : Sp := fun vs H Q _ => ∃ (a : Addr) (ps : List Nat), vs = [.ref a] ∧ (SqL K H a (nv ps) ∧ ps.length ≤ 100000 ∧ Pap ps) ∧
  ∀ q H', H q = none → Stp [] H H' → H' q = some (.lst (nv (inv ps))) → Q (.ref q) H'
theorem ok_back {P : Program} {w : World} {K : PySem.W.Frag} {mg : Str → Option Value} {base : Heap} {A : Ad} {f : Addr} {fd : FuncData} (F : Fun K "back" "back" s_back f fd) (T : Txt K mg A) (C_paper_for : SH.Cal P w K mg base CX0 3 "paper_for" [] (sp_paper_for K A)) (C_straight : SH.Cal P w K mg base CX0 1 "straight" [] (sp_straight K A)) : FnOk P w K mg base CX0 4 f fd ["paper"] (sp_back K A) := by
  refine F.ok sc_back (fun vs H Q E h => by obtain ⟨_, _, rfl, _⟩ := h; rfl) (fun cdv A' outer s H vs Q E hr h => ?_)
  obtain ⟨a, ps, rfl, ⟨hS, hl, hp⟩, k⟩ := h
  refine ⟨_, (pss_cons (ps_set (i := 1) sc_back.nd rfl (Or.inl rfl) (SH.pe_callF C_straight hr (by rfl) pass0 (pa_cons (pe_callB SH.cLen (by rfl) T.z_len (by decide +kernel) (pa_cons (pv 0) pa_nil)) pa_nil)))
        (pss_cons (ps_for PassesOwn.never rfl (pi_enum (by rfl) T.z_enumerate (pa_cons (SH.pe_callF C_paper_for hr (by rfl) pass0 (pa_cons (pv 0) (pa_cons (pe_callB SH.cLen (by rfl) T.z_len (by decide +kernel) (pa_cons (pv 0) pa_nil)) pa_nil))) pa_nil)) (pg_tup (by rfl) (pgs_cons (pg_name (i := 2) sc_back.nd rfl (Or.inl rfl)) (pgs_cons (pg_name (i := 3) sc_back.nd rfl (Or.inl rfl)) pgs_nil))) (pss_one (ps_asg (pv 2) (pg_sub (pv 1) (pv 3) set_list))))
        (pss_one (ps_ret (pv 1))))), ?_⟩
  walk_at "begin"
  walk_at "rd"
  refine ⟨ps.length, rfl, hl, fun q hq => ?_⟩
  walk_at "rd"
  refine ⟨a, ps, rfl, ⟨sql_upd hS hq, hl, hp⟩, fun H1 S1 => ?_⟩
  walk_at "rd"
  have hq1 : H1 q = some (.lst (nv (List.range ps.length))) := S1.keep0 upd_same
  have S2 : Stp [] H H1 := ((Stp.refl [] H).new hq).then0 S1
  refine for_it (walk_enum (xs := nv ps)) (fun j σ H' => Stp [] H H' ∧ (∃ told : List Nat, told.length = ps.length ∧ (∀ b p : Nat, b < j → ps[b]? = some p → told[p]? = some b) ∧ H' q = some (.lst (nv told))) ∧ ∃ v2 v3, σ = [some (.ref a), some (.ref q), v2, v3])
    ⟨S2, ⟨_, List.length_range, fun b p h => by omega, hq1⟩, _, _, rfl⟩ (fun _ _ _ _ z => z.1.sql0 hS) ?_ ?_
  · rintro j x σ H2 H3 hj ⟨S, ⟨told, hl', ht, hT⟩, v2, v3, rfl⟩ ⟨t, x, y, rfl, ht0, rfl, hx, hy⟩
    cases hx
    obtain ⟨p, hp', rfl⟩ := map_at hy
    have hlt := hp.lt (List.mem_of_getElem? hp')
    walk_at "rd"
    refine v_setL (n := p) (upd_old hT ht0) rfl (by rw [List.length_map]; omega) ?_
    walk_at "rd"
    refine ⟨(S.new ht0).putN hq, ⟨told.set p j, by rw [List.length_set]; exact hl', fun b p' hb hp2 => ?_, by rw [upd_same]; unfold nv; rw [List.map_set]⟩, _, _, rfl⟩
    by_cases e : b = j
    · subst e
      rw [hp'] at hp2
      cases hp2
      simp [show p < told.length by omega]
    · have hne : p ≠ p' := fun z => by
        subst z
        exact e ((hp.idx_at hp2).symm.trans (hp.idx_at hp'))
      rw [List.getElem?_set_ne hne]
      exact ht b p' (by omega) hp2
  · rintro σ H2 ⟨S, ⟨told, hl', ht, hT⟩, v2, v3, rfl⟩
    walk_at "rd"
    have e : told = inv ps := hp.inv_of hl' fun b p hb => ht b p (by rw [List.length_map]; exact (List.getElem?_eq_some_iff.mp hb).1) hb
    rw [e] at hT
    exact k q _ hq S hT
theorem isl_lay {K : PySem.W.Frag} {H : Hp} {α : Type} [Enc α] {d : α} {vs : List V} {xs : List α} {ps : List Nat} (h : IsL K H vs xs) (hp : ∀ p ∈ ps, p < xs.length) : IsL K H (lay .non vs ps) (lay d xs ps) := by
  unfold lay
  refine isl_map2 fun p hm => ?_
  have hx := hp p hm
  obtain ⟨v, hv, hI⟩ := isl_get h (List.getElem?_eq_getElem hx)
  simp only [List.getD_eq_getElem?_getD, hv, List.getElem?_eq_getElem hx, Option.getD_some]
  exact hI
def sp__law_cell_at (K : PySem.W.Frag) (A : Ad) : Sp := fun vs H Q _ => ∃ (a : Addr) (ns : List Int) (k : Nat), vs = [.ref a, .int k] ∧ SqL K H a (ns.map V.int) ∧ ∀ c : Int, Q (.int c) H
theorem ok__law_cell_at {P : Program} {w : World} {K : PySem.W.Frag} {mg : Str → Option Value} {base : Heap} {A : Ad} {f : Addr} {fd : FuncData} (F : Fun K "_law_cell_at" "_law_cell_at" s__law_cell_at f fd) (T : Txt K mg A)  : FnOk P w K mg base CX0 1 f fd ["_law_script", "_law_k"] (sp__law_cell_at K A) := by
  refine F.ok sc__law_cell_at (fun vs H Q E h => by obtain ⟨_, _, _, rfl, _⟩ := h; rfl) (fun cdv A' outer s H vs Q E hr h => ?_)
  obtain ⟨a, ns, i, rfl, hS, k⟩ := h
  refine ⟨_, (pss_cons (ps_if (pt_cmpR (SH.oLt hr.units0) (pv 1) (pe_callB SH.cLen (by rfl) T.z_len (by decide +kernel) (pa_cons (pv 0) pa_nil)) (nomark _)) (pss_one (ps_ret (pe_ix SH.ixA (pv 0) (pv 1) (fun _ _ => rfl)))) pss_nil)
        (pss_one (ps_ret pe_int))), ?_⟩
  walk_at "begin"
  walk_at "rd"
  refine r_w (fun hc => ?_) fun hc => ?_
  · walk_at "rd"
    refine v_ixE (n := i) (by walk_at "sq") rfl (by omega) ?_
    walk_at "rd"
    exact k _
  · walk_at "rd"
    exact k _
def sp_good (K : PySem.W.Frag) (A : Ad) : Sp := fun vs H Q _ => ∃ (i : Int), vs = [.int i] ∧ (0 ≤ i ∧ i < 8) ∧ Q (.int i) H
theorem ok_good {P : Program} {w : World} {K : PySem.W.Frag} {mg : Str → Option Value} {base : Heap} {A : Ad} {f : Addr} {fd : FuncData} (F : Fun K "good" "good" s_good f fd) (T : Txt K mg A)  : FnOk P w K mg base CX0 1 f fd ["at"] (sp_good K A) := by
  refine F.ok sc_good (fun vs H Q E h => by obtain ⟨_, rfl, _⟩ := h; rfl) (fun cdv A' outer s H vs Q E hr h => ?_)
  obtain ⟨i, rfl, ⟨h0, h1⟩, k⟩ := h
  refine ⟨_, (pss_cons (ps_if (PW.pt (pw_or (pt_cmpR (SH.oLt hr.units0) (pv 0) pe_int (nomark _)) (pw_or1 (pt_cmpR SH.oGt (pv 0) (SH.pe_k T.k_LAST) (nomark _))))) (pss_one ps_never) pss_nil)
        (pss_one (ps_ret (pv 0)))), ?_⟩
  walk_at "begin"
  walk_at "rd"
  refine r_wF (by omega) ?_
  walk_at "rd"
  refine r_wF (by omega) ?_
  walk_at "rd"
  exact k
/-! ### rules by keys -/
def wayS (b : Bool) : Str := if b then "up" else "down"
theorem wayS_up {b : Bool} : decide (wayS b = "up") = b := by cases b <;> decide +kernel
theorem wayS_down {b : Bool} : decide (wayS b = "down") = !b := by cases b <;> decide +kernel
/-- the columns in a heap -/
def Cols (K : PySem.W.Frag) (H : Hp) (cvs : List V) (cols : List (Nat × Bool)) : Prop := cvs.length = cols.length ∧ ∀ (j : Nat) (v : V), cvs[j]? = some v → ∃ (t : Addr) (c : Nat × Bool), v = .ref t ∧ cols[j]? = some c ∧ H t = some (.tup [.int c.1, .str (wayS c.2)])
theorem Cols.stp {K : PySem.W.Frag} {M : List Addr} {H H' : Hp} {cvs : List V} {cols : List (Nat × Bool)} (h : Cols K H cvs cols) (S : Stp M H H') : Cols K H' cvs cols :=
  ⟨h.1, fun j v e => by obtain ⟨t, c, h1, h2, h3⟩ := h.2 j v e; exact ⟨t, c, h1, h2, S.tup h3⟩⟩
def keyB : List (Nat × Bool) → List Int → List Int → Bool
  | [], _, _ => false
  | c :: cs, xs, ys => if getE xs c.1 ≠ getE ys c.1 then decide (getE xs c.1 < getE ys c.1) == c.2 else keyB cs xs ys
def sp_KeyRule___init__ (K : PySem.W.Frag) (A : Ad) : Sp := fun vs H Q _ => ∃ (s b : Addr) (cvs : List V) (cols : List (Nat × Bool)), vs = [.ref s, .ref b] ∧ (∃ dx, H s = some (.ins A.KeyRule dx [])) ∧ (SqL K H b cvs ∧ Cols K H cvs cols ∧ cols.length ≤ 1000 ∧ ∀ c ∈ cols, c.1 < 8) ∧
  ∀ dx l H', H l = none → s ≠ l → H' s = some (.ins A.KeyRule dx [("columns", .ref l)]) → H' l = some (.lst cvs) → Stp [s] H H' → Q .non H'
theorem ok_KeyRule___init__ {P : Program} {w : World} {K : PySem.W.Frag} {mg : Str → Option Value} {base : Heap} {A : Ad} {f : Addr} {fd : FuncData} (F : Fun K "__init__" "KeyRule.__init__" s_KeyRule___init__ f fd) (T : Txt K mg A) (C_good : SH.Cal P w K mg base CX0 1 "good" [] (sp_good K A)) : FnOk P w K mg base CX0 2 f fd ["self", "columns"] (sp_KeyRule___init__ K A) := by
  refine F.ok sc_KeyRule___init__ (fun vs H Q E h => by obtain ⟨_, _, _, _, rfl, _⟩ := h; rfl) (fun cdv A' outer s H vs Q E hr h => ?_)
  obtain ⟨s', b, cvs, cols, rfl, ⟨dx, hs⟩, ⟨hb, hC, hl, h8⟩, k⟩ := h
  refine ⟨_, (pss_cons (ps_for PassesOwn.never rfl (pi_list (pv 1)) (pg_tup (by rfl) (pgs_cons (pg_name (i := 2) sc_KeyRule___init__.nd rfl (Or.inl rfl)) (pgs_cons (pg_name (i := 3) sc_KeyRule___init__.nd rfl (Or.inl rfl)) pgs_nil))) (pss_cons (ps_expr (SH.pe_callF C_good hr (by rfl) pass0 (pa_cons (pv 2) pa_nil)))
        (pss_one (ps_if (PW.pt (pw_and (pt_cmpR (SH.oNe hr.units) (pv 3) pe_str (nomark _)) (pw_and1 (pt_cmpR (SH.oNe hr.units) (pv 3) pe_str (nomark _))))) (pss_one ps_never) pss_nil))))
        (pss_one (SH.ps_fldF T.cl_KeyRule T.na_KeyRule_columns (pv 0) (pe_callTy SH.cListOf (by rfl) T.z_list (by decide +kernel) (pa_cons (pv 1) pa_nil)) rfl))), ?_⟩
  walk_at "begin"
  walk_at "rd"
  refine for_it (walk_list (xs := cvs)) (fun j σ H' => H' = H ∧ ∃ v2 v3, σ = [some (.ref s'), some (.ref b), v2, v3]) ⟨rfl, _, _, rfl⟩ (fun _ _ _ _ z => by rw [z.1]; exact hb) ?_ ?_
  · rintro j x σ H1 H2 hj ⟨rfl, v2, v3, rfl⟩ ⟨rfl, hx⟩
    obtain ⟨t, c, rfl, hc, ht⟩ := hC.2 j x hx
    have := h8 c (List.mem_of_getElem? hc)
    walk_at "rd"
    refine ⟨_, rfl, ⟨by omega, by omega⟩, ?_⟩
    walk_at "rd"
    refine v_neS ?_
    rw [wayS_up]
    walk_at "rd"
    refine r_nb (fun hc => ?_) fun hc => ?_
    · walk_at "rd"
      refine v_neS ?_
      rw [wayS_down, hc]
      walk_at "rd"
      exact ⟨rfl, _, _, rfl⟩
    · walk_at "rd"
      exact ⟨rfl, _, _, rfl⟩
  · rintro σ H1 ⟨rfl, v2, v3, rfl⟩
    walk_at "rd"
    intro l hl2
    walk_at "rd"
    exact k _ l _ hl2 (ne_of_none hs hl2) upd_same (upd_far (ne_of_none hs hl2).symm upd_same) (((Stp.refl [s'] H1).new hl2).putM (List.mem_singleton.mpr rfl) (upd_old hs hl2) (fun z => z))

def sp_KeyRule_before (K : PySem.W.Frag) (A : Ad) : Sp := fun vs H Q _ => ∃ (u x y d l : Addr) (cvs : List V) (cols : List (Nat × Bool)) (xs ys : List Int), vs = [.ref u, .ref x, .ref y] ∧ H u = some (.ins A.KeyRule d [("columns", .ref l)]) ∧ (SqL K H l cvs ∧ Cols K H cvs cols ∧ SqT K H x (xs.map V.int) ∧ SqT K H y (ys.map V.int) ∧ ∀ c ∈ cols, c.1 < xs.length ∧ c.1 < ys.length) ∧
  Q (.bl (keyB cols xs ys)) H
theorem ok_KeyRule_before {P : Program} {w : World} {K : PySem.W.Frag} {mg : Str → Option Value} {base : Heap} {A : Ad} {f : Addr} {fd : FuncData} (F : Fun K "before" "KeyRule.before" s_KeyRule_before f fd) (T : Txt K mg A)  : FnOk P w K mg base CX0 1 f fd ["self", "x", "y"] (sp_KeyRule_before K A) := by
  refine F.ok sc_KeyRule_before (fun vs H Q E h => by obtain ⟨_, _, _, _, _, _, _, _, _, rfl, _⟩ := h; rfl) (fun cdv A' outer s H vs Q E hr h => ?_)
  obtain ⟨u, x, y, d, l, cvs, cols, xs, ys, rfl, hu, ⟨hl, hC, hx, hy, hlt⟩, k⟩ := h
  refine ⟨_, (pss_cons (ps_for PassesOwn.never rfl (pi_list (SH.pe_fldF T.cl_KeyRule T.na_KeyRule_columns (pv 0))) (pg_tup (by rfl) (pgs_cons (pg_name (i := 3) sc_KeyRule_before.nd rfl (Or.inl rfl)) (pgs_cons (pg_name (i := 4) sc_KeyRule_before.nd rfl (Or.inl rfl)) pgs_nil))) (pss_one (ps_if (pt_cmpR (SH.oNe hr.units) (pe_ix SH.ixA (pv 1) (pv 3) (fun _ _ => rfl)) (pe_ix SH.ixA (pv 2) (pv 3) (fun _ _ => rfl)) (nomark _)) (pss_one (ps_ret (pe_cmpR (SH.oEq hr.units) (pe_cmpR (SH.oLt hr.units0) (pe_ix SH.ixA (pv 1) (pv 3) (fun _ _ => rfl)) (pe_ix SH.ixA (pv 2) (pv 3) (fun _ _ => rfl)) (nomark _)) (pe_cmpR (SH.oEq hr.units) (pv 4) pe_str (nomark _)) (nomark _)))) pss_nil)))
        (pss_one (ps_ret pe_bl))), ?_⟩
  walk_at "begin"
  walk_at "rd"
  refine for_it (walk_list (xs := cvs)) (fun j σ H' => H' = H ∧ keyB cols xs ys = keyB (cols.drop j) xs ys ∧ ∃ v3 v4, σ = [some (.ref u), some (.ref x), some (.ref y), v3, v4]) ⟨rfl, rfl, _, _, rfl⟩ (fun _ _ _ _ z => by rw [z.1]; exact hl) ?_ ?_
  · rintro j v σ H1 H2 hj ⟨rfl, hk, v3, v4, rfl⟩ ⟨rfl, hv⟩
    obtain ⟨t, c, rfl, hc, ht⟩ := hC.2 j v hv
    obtain ⟨l1, l2⟩ := hlt c (List.mem_of_getElem? hc)
    obtain ⟨hj', hc'⟩ := List.getElem?_eq_some_iff.mp hc
    rw [List.drop_eq_getElem_cons hj', hc'] at hk
    simp only [keyB] at hk
    walk_at "rd"
    refine v_ixTE (n := c.1) (by walk_at "sq") rfl l1 ?_
    walk_at "rd"
    refine v_ixTE (n := c.1) (by walk_at "sq") rfl l2 ?_
    walk_at "rd"
    refine r_nw (fun hne => ?_) fun he => ?_
    · rw [if_pos hne] at hk
      walk_at "rd"
      refine v_ixTE (n := c.1) (by walk_at "sq") rfl l1 ?_
      walk_at "rd"
      refine v_ixTE (n := c.1) (by walk_at "sq") rfl l2 ?_
      walk_at "rd"
      refine v_eqS ?_
      rw [wayS_up]
      walk_at "rd"
      rw [hk] at k
      rw [show decide (decide (getE xs c.1 < getE ys c.1) = c.2) = (decide (getE xs c.1 < getE ys c.1) == c.2) from by generalize decide (getE xs c.1 < getE ys c.1) = u; cases u <;> cases c.2 <;> rfl]
      exact k
    · rw [if_neg (by simpa using he)] at hk
      walk_at "rd"
      exact ⟨rfl, hk, _, _, rfl⟩
  · rintro σ H1 ⟨rfl, hk, v3, v4, rfl⟩
    walk_at "rd"
    rw [List.drop_of_length_le (by have := hC.1; omega)] at hk
    rw [hk] at k
    exact k
/-! ### the order of keys -/
theorem keyB_irr (cols : List (Nat × Bool)) (x : List Int) : keyB cols x x = false := by
  induction cols with
  | nil => rfl
  | cons c cs ih => simp only [keyB]; rw [if_neg (by simp)]; exact ih
theorem keyB_trans {cols : List (Nat × Bool)} {x y z : List Int} (h : keyB cols x y = true) (k : keyB cols y z = true) : keyB cols x z = true := by
  induction cols with
  | nil => cases h
  | cons c cs ih =>
    simp only [keyB] at h k ⊢
    generalize getE x c.1 = a at h k ⊢
    generalize getE y c.1 = b at h k ⊢
    generalize getE z c.1 = d at h k ⊢
    by_cases e1 : a = b
    · subst e1
      rw [if_neg (by simp)] at h
      by_cases e2 : a = d
      · subst e2; rw [if_neg (by simp)] at k ⊢; exact ih h k
      · rw [if_pos e2] at k ⊢; exact k
    · rw [if_pos e1] at h
      by_cases e2 : b = d
      · subst e2; rw [if_pos e1]; exact h
      · rw [if_pos e2] at k
        have e3 : a ≠ d := by
          cases hc : c.2 <;> simp [hc] at h k <;> omega
        rw [if_pos e3]
        cases hc : c.2 <;> simp [hc] at h k ⊢ <;> omega
theorem keyB_neg {cols : List (Nat × Bool)} {x y z : List Int} (h : keyB cols x z = true) : keyB cols x y = true ∨ keyB cols y z = true := by
  induction cols with
  | nil => cases h
  | cons c cs ih =>
    simp only [keyB] at h ⊢
    generalize getE x c.1 = a at h ⊢
    generalize getE y c.1 = b at h ⊢
    generalize getE z c.1 = d at h ⊢
    by_cases e1 : a = b
    · subst e1
      by_cases e2 : a = d
      · subst e2
        rw [if_neg (by simp)] at h
        rw [if_neg (by simp), if_neg (by simp)]
        exact ih h
      · rw [if_pos e2] at h ⊢; exact .inr h
    · by_cases e2 : b = d
      · subst e2; rw [if_pos e1] at h; rw [if_pos e1]; exact .inl h
      · rw [if_pos e1, if_pos e2]
        by_cases e3 : a = d
        · subst e3
          cases hc : c.2 <;> simp <;> omega
        · rw [if_pos e3] at h
          cases hc : c.2 <;> simp [hc] at h ⊢ <;> omega
/-- how many of the things are put before one -/
def rank {α : Type} (b : α → α → Bool) (xs : List α) (x : α) : Nat := (xs.filter fun y => b y x).length
theorem filter_le {α : Type} {p q : α → Bool} : ∀ {l : List α}, (∀ x ∈ l, p x = true → q x = true) → (l.filter p).length ≤ (l.filter q).length
  | [], _ => Nat.le_refl _
  | x :: l, h => by
    have ih := filter_le (l := l) (p := p) (q := q) fun y hy => h y (by simp [hy])
    have hx := h x (by simp)
    by_cases hp : p x = true
    · rw [List.filter_cons_of_pos hp, List.filter_cons_of_pos (hx hp)]; simp; exact ih
    · rw [List.filter_cons_of_neg hp]
      by_cases hq : q x = true
      · rw [List.filter_cons_of_pos hq]; simp; omega
      · rw [List.filter_cons_of_neg hq]; exact ih
theorem filter_lt {α : Type} {p q : α → Bool} : ∀ {l : List α} {a : α}, a ∈ l → p a = false → q a = true → (∀ x ∈ l, p x = true → q x = true) → (l.filter p).length < (l.filter q).length
  | x :: l, a, ha, hp, hq, h => by
    have hx := h x (by simp)
    rcases List.mem_cons.mp ha with e | ha
    · subst e
      have := filter_le (l := l) (p := p) (q := q) fun y hy => h y (by simp [hy])
      rw [List.filter_cons_of_neg (by rw [hp]; decide), List.filter_cons_of_pos hq]
      simp; omega
    · have ih := filter_lt (l := l) ha hp hq fun y hy => h y (by simp [hy])
      by_cases hpx : p x = true
      · rw [List.filter_cons_of_pos hpx, List.filter_cons_of_pos (hx hpx)]; simp; exact ih
      · rw [List.filter_cons_of_neg hpx]
        by_cases hqx : q x = true
        · rw [List.filter_cons_of_pos hqx]; simp; omega
        · rw [List.filter_cons_of_neg hqx]; exact ih
theorem rank_iff {cols : List (Nat × Bool)} {xs : List (List Int)} {x y : List Int} (hx : x ∈ xs) : keyB cols x y = decide (rank (keyB cols) xs x < rank (keyB cols) xs y) := by
  cases h : keyB cols x y
  · refine (decide_eq_false ?_).symm
    have : rank (keyB cols) xs y ≤ rank (keyB cols) xs x := filter_le fun z _ hz => (keyB_neg (y := x) hz).elim id fun k => by rw [h] at k; cases k
    omega
  · refine (decide_eq_true ?_).symm
    exact filter_lt hx (keyB_irr cols x) h fun z _ hz => keyB_trans hz h


theorem keyB_asym {cols : List (Nat × Bool)} {x y : List Int} (h : keyB cols x y = true) (k : keyB cols y x = true) : False := by
  have := keyB_trans h k
  rw [keyB_irr] at this
  cases this
/-! ### what a rule puts before what: the matrix -/
def gB (n : Nat) (f : Nat → Bool) : List V := (List.range n).map fun j => V.bl (f j)
theorem gB_at {n j : Nat} {f : Nat → Bool} (h : j < n) : (gB n f)[j]? = some (.bl (f j)) := by unfold gB; rw [List.getElem?_map, List.getElem?_range h]; rfl
structure GMat (H : Hp) (gvs : List V) (m n : Nat) (G : Nat → Nat → Bool) : Prop where
  len : gvs.length = m
  at_ : ∀ (i : Nat) (v : V), gvs[i]? = some v → ∃ g : Addr, v = .ref g ∧ H g = some (.lst (gB n (G i)))
theorem GMat.stp {M : List Addr} {H H' : Hp} {gvs : List V} {m n : Nat} {G : Nat → Nat → Bool} (h : GMat H gvs m n G) (S : Stp M H H') (k : ∀ g o, g ∈ M → H g = some o → V.ref g ∈ gvs → False) : GMat H' gvs m n G :=
  ⟨h.len, fun i v e => by obtain ⟨g, rfl, hg⟩ := h.at_ i v e; exact ⟨g, rfl, S.keep hg fun z => k g _ z hg (List.mem_of_getElem? e)⟩⟩
theorem GMat.stp0 {H H' : Hp} {gvs : List V} {m n : Nat} {G : Nat → Nat → Bool} (h : GMat H gvs m n G) (S : Stp [] H H') : GMat H' gvs m n G := h.stp S fun _ _ z _ _ => by cases z
theorem GMat.get {H : Hp} {gvs : List V} {m n i : Nat} {G : Nat → Nat → Bool} (h : GMat H gvs m n G) (hi : i < m) : ∃ g : Addr, gvs[i]? = some (.ref g) ∧ H g = some (.lst (gB n (G i))) := by
  have hi' : i < gvs.length := by rw [h.len]; exact hi
  obtain ⟨g, e, hg⟩ := h.at_ i _ (List.getElem?_eq_getElem hi')
  exact ⟨g, by rw [List.getElem?_eq_getElem hi', e], hg⟩
/-- a rule that ranks: irreflexive, asymmetric, its denial transitive -/
def sp_plain_flaw (K : PySem.W.Frag) (A : Ad) : Sp := fun vs H Q _ => ∃ (gq : Addr) (gvs : List V) (n : Nat) (G : Nat → Nat → Bool), vs = [.ref gq] ∧ (SqL K H gq gvs ∧ GMat H gvs n n G ∧ n ≤ 1000 ∧ (∀ p, G p p = false) ∧ ∀ p q, ¬ (G p q = true ∧ G q p = true)) ∧ Q .non H
theorem ok_plain_flaw {P : Program} {w : World} {K : PySem.W.Frag} {mg : Str → Option Value} {base : Heap} {A : Ad} {f : Addr} {fd : FuncData} (F : Fun K "plain_flaw" "plain_flaw" s_plain_flaw f fd) (T : Txt K mg A)  : FnOk P w K mg base CX0 1 f fd ["goes"] (sp_plain_flaw K A) := by
  refine F.ok sc_plain_flaw (fun vs H Q E h => by obtain ⟨_, _, _, _, rfl, _⟩ := h; rfl) (fun cdv A' outer s H vs Q E hr h => ?_)
  obtain ⟨gq, gvs, n, G, rfl, ⟨hg, hG, hn, hirr, has⟩, k⟩ := h
  refine ⟨_, (pss_cons (ps_for PassesOwn.never rfl (pi_range1 (by rfl) T.z_range (pa_cons (pe_callB SH.cLen (by rfl) T.z_len (by decide +kernel) (pa_cons (pv 0) pa_nil)) pa_nil)) (pg_name (i := 1) sc_plain_flaw.nd rfl (Or.inl rfl)) (pss_cons (ps_if (pt_val (pe_ix SH.ixA (pe_ix SH.ixA (pv 0) (pv 1) (fun _ _ => rfl)) (pv 1) (fun _ _ => rfl))) (pss_one (ps_ret (pe_tup (pa_cons pe_str (pa_cons pe_str (pa_cons (pe_tup (pa_cons (pv 1) (pa_cons (pv 1) (pa_cons (pv 1) pa_nil)))) pa_nil)))))) pss_nil)
        (pss_one (ps_for PassesOwn.never rfl (pi_range1 (by rfl) T.z_range (pa_cons (pv 1) pa_nil)) (pg_name (i := 2) sc_plain_flaw.nd rfl (Or.inl rfl)) (pss_one (ps_if (PW.pt (pw_and (pt_val (pe_ix SH.ixA (pe_ix SH.ixA (pv 0) (pv 1) (fun _ _ => rfl)) (pv 2) (fun _ _ => rfl))) (pw_and1 (pt_val (pe_ix SH.ixA (pe_ix SH.ixA (pv 0) (pv 2) (fun _ _ => rfl)) (pv 1) (fun _ _ => rfl)))))) (pss_one (ps_ret (pe_tup (pa_cons pe_str (pa_cons pe_str (pa_cons (pe_tup (pa_cons (pv 1) (pa_cons (pv 2) (pa_cons (pv 1) pa_nil)))) pa_nil)))))) pss_nil))))))
        (pss_one (ps_ret pe_non))), ?_⟩
  walk_at "begin"
  have hgl := hG.len
  walk_at "rd"
  rw [hgl]
  refine for_it walk_range (fun j σ H' => H' = H ∧ ∃ v1 v2, σ = [some (.ref gq), v1, v2]) ⟨rfl, _, _, rfl⟩ (fun _ _ _ _ _ => True.intro) ?_ ?_
  · rintro p x σ H1 H2 hj ⟨rfl, v1, v2, rfl⟩ ⟨rfl, rfl⟩
    have hp : p < n := by omega
    obtain ⟨g, e1, hg1⟩ := hG.get hp
    simp only [Int.zero_add]
    walk_at "rd"
    refine v_ixLn (n := p) hg rfl e1 ?_
    walk_at "rd"
    refine v_ixLn (n := p) (SqL.of hg1) rfl (gB_at hp) ?_
    rw [hirr p]
    walk_at "rd"
    refine for_it walk_range (fun j σ H' => H' = H2 ∧ ∃ v2, σ = [some (.ref gq), some (.int p), v2]) ⟨rfl, _, rfl⟩ (fun _ _ _ _ _ => True.intro) ?_ ?_
    · rintro q x σ H1 H3 hj ⟨rfl, v2, rfl⟩ ⟨rfl, rfl⟩
      have hq : q < n := by omega
      obtain ⟨g2, e2, hg2⟩ := hG.get hq
      simp only [Int.zero_add]
      walk_at "rd"
      refine v_ixLn (n := p) hg rfl e1 ?_
      walk_at "rd"
      refine v_ixLn (n := q) (SqL.of hg1) rfl (gB_at hq) ?_
      walk_at "rd"
      cases h1 : G p q with
      | false =>
        walk_at "rd"
        exact ⟨rfl, _, rfl⟩
      | true =>
        walk_at "rd"
        refine v_ixLn (n := q) hg rfl e2 ?_
        walk_at "rd"
        refine v_ixLn (n := p) (SqL.of hg2) rfl (gB_at hp) ?_
        have h2 : G q p = false := by cases h2 : G q p with
          | false => rfl
          | true => exact (has p q ⟨h1, h2⟩).elim
        rw [h2]
        walk_at "rd"
        exact ⟨rfl, _, rfl⟩
    · rintro σ H1 ⟨rfl, v2, rfl⟩
      walk_at "rd"
      exact ⟨rfl, _, _, rfl⟩
  · rintro σ H1 ⟨rfl, v1, v2, rfl⟩
    walk_at "rd"
    exact k
def sp_torn_by (K : PySem.W.Frag) (A : Ad) : Sp := fun vs H Q _ => ∃ (a : Addr) (p q : Nat), vs = [.ref a, .int p, .int q] ∧ False
theorem ok_torn_by {P : Program} {w : World} {K : PySem.W.Frag} {mg : Str → Option Value} {base : Heap} {A : Ad} {f : Addr} {fd : FuncData} (F : Fun K "torn_by" "torn_by" s_torn_by f fd) (T : Txt K mg A)  : FnOk P w K mg base CX0 1 f fd ["goes", "one", "other"] (sp_torn_by K A) := by
  refine F.ok sc_torn_by (fun vs H Q E h => by obtain ⟨_, _, _, rfl, _⟩ := h; rfl) (fun cdv A' outer s H vs Q E hr h => ?_)
  obtain ⟨_, _, _, _, h⟩ := h
  exact h.elim
/-- the count of those before -/
def rkOf (n : Nat) (G : Nat → Nat → Bool) (p : Nat) : Nat := ((List.range n).filter fun q => G q p).length
def sp_tie_in (K : PySem.W.Frag) (A : Ad) : Sp := fun vs H Q _ => ∃ (gq rq : Addr) (gvs : List V) (n : Nat) (G : Nat → Nat → Bool) (R : Nat → Nat), vs = [.ref gq, .ref rq] ∧ (SqL K H gq gvs ∧ GMat H gvs n n G ∧ SqL K H rq (nv ((List.range n).map R)) ∧ n ≤ 1000 ∧ ∀ p q, p < n → q < n → (G p q = true ↔ R p < R q)) ∧ Q .non H
theorem ok_tie_in {P : Program} {w : World} {K : PySem.W.Frag} {mg : Str → Option Value} {base : Heap} {A : Ad} {f : Addr} {fd : FuncData} (F : Fun K "tie_in" "tie_in" s_tie_in f fd) (T : Txt K mg A) (C_torn_by : SH.Cal P w K mg base CX0 1 "torn_by" [] (sp_torn_by K A)) : FnOk P w K mg base CX0 2 f fd ["goes", "ranks"] (sp_tie_in K A) := by
  refine F.ok sc_tie_in (fun vs H Q E h => by obtain ⟨_, _, _, _, _, _, rfl, _⟩ := h; rfl) (fun cdv A' outer s H vs Q E hr h => ?_)
  obtain ⟨gq, rq, gvs, n, G, R, rfl, ⟨hg, hG, hR, hn, hw⟩, k⟩ := h
  refine ⟨_, (pss_cons (ps_for PassesOwn.never rfl (pi_range1 (by rfl) T.z_range (pa_cons (pe_callB SH.cLen (by rfl) T.z_len (by decide +kernel) (pa_cons (pv 0) pa_nil)) pa_nil)) (pg_name (i := 2) sc_tie_in.nd rfl (Or.inl rfl)) (pss_one (ps_for PassesOwn.never rfl (pi_range1 (by rfl) T.z_range (pa_cons (pe_callB SH.cLen (by rfl) T.z_len (by decide +kernel) (pa_cons (pv 0) pa_nil)) pa_nil)) (pg_name (i := 3) sc_tie_in.nd rfl (Or.inl rfl)) (pss_cons (ps_if (PW.pt (pw_and (pt_val (pe_ix SH.ixA (pe_ix SH.ixA (pv 0) (pv 2) (fun _ _ => rfl)) (pv 3) (fun _ _ => rfl))) (pw_and1 (pt_cmpR SH.oGe (pe_ix SH.ixA (pv 1) (pv 2) (fun _ _ => rfl)) (pe_ix SH.ixA (pv 1) (pv 3) (fun _ _ => rfl)) (nomark _))))) (pss_one (ps_ret (SH.pe_callF C_torn_by hr (by rfl) pass0 (pa_cons (pv 0) (pa_cons (pv 2) (pa_cons (pv 3) pa_nil)))))) pss_nil)
        (pss_one (ps_if (PW.pt (pw_and (pt_not (pt_val (pe_ix SH.ixA (pe_ix SH.ixA (pv 0) (pv 2) (fun _ _ => rfl)) (pv 3) (fun _ _ => rfl)))) (pw_and1 (pt_cmpR (SH.oLt hr.units0) (pe_ix SH.ixA (pv 1) (pv 2) (fun _ _ => rfl)) (pe_ix SH.ixA (pv 1) (pv 3) (fun _ _ => rfl)) (nomark _))))) (pss_one (ps_ret (SH.pe_callF C_torn_by hr (by rfl) pass0 (pa_cons (pv 0) (pa_cons (pv 3) (pa_cons (pv 2) pa_nil)))))) pss_nil))))))
        (pss_one (ps_ret pe_non))), ?_⟩
  walk_at "begin"
  have hgl := hG.len
  have hRat : ∀ {p : Nat}, p < n → (nv ((List.range n).map R))[p]? = some (.int (R p)) := fun {p} hp => by unfold nv; rw [List.getElem?_map, List.getElem?_map, List.getElem?_range hp]; rfl
  walk_at "rd"
  rw [hgl]
  refine for_it walk_range (fun j σ H' => H' = H ∧ ∃ v1 v2, σ = [some (.ref gq), some (.ref rq), v1, v2]) ⟨rfl, _, _, rfl⟩ (fun _ _ _ _ _ => True.intro) ?_ ?_
  · rintro p x σ H1 H2 hj ⟨rfl, v1, v2, rfl⟩ ⟨rfl, rfl⟩
    have hp : p < n := by omega
    obtain ⟨g, e1, hg1⟩ := hG.get hp
    simp only [Int.zero_add]
    walk_at "rd"
    rw [hgl]
    refine for_it walk_range (fun j σ H' => H' = H2 ∧ ∃ v2, σ = [some (.ref gq), some (.ref rq), some (.int p), v2]) ⟨rfl, _, rfl⟩ (fun _ _ _ _ _ => True.intro) ?_ ?_
    · rintro q x σ H1 H3 hj ⟨rfl, v2, rfl⟩ ⟨rfl, rfl⟩
      have hq : q < n := by omega
      simp only [Int.zero_add]
      walk_at "rd"
      refine v_ixLn (n := p) hg rfl e1 ?_
      walk_at "rd"
      refine v_ixLn (n := q) (SqL.of hg1) rfl (gB_at hq) ?_
      have hpq := hw p q hp hq
      cases h1 : G p q with
      | false =>
        rw [h1] at hpq
        walk_at "rd"
        refine v_ixLn (n := p) hg rfl e1 ?_
        walk_at "rd"
        refine v_ixLn (n := q) (SqL.of hg1) rfl (gB_at hq) ?_
        rw [h1]
        walk_at "rd"
        refine v_ixLn (n := p) hR rfl (hRat hp) ?_
        walk_at "rd"
        refine v_ixLn (n := q) hR rfl (hRat hq) ?_
        walk_at "rd"
        have : ¬ R p < R q := fun z => by cases hpq.mpr z
        refine r_wF (by omega) ?_
        walk_at "rd"
        exact ⟨rfl, _, rfl⟩
      | true =>
        have := hpq.mp h1
        walk_at "rd"
        refine v_ixLn (n := p) hR rfl (hRat hp) ?_
        walk_at "rd"
        refine v_ixLn (n := q) hR rfl (hRat hq) ?_
        walk_at "rd"
        refine r_wF (by omega) ?_
        walk_at "rd"
        refine v_ixLn (n := p) hg rfl e1 ?_
        walk_at "rd"
        refine v_ixLn (n := q) (SqL.of hg1) rfl (gB_at hq) ?_
        rw [h1]
        walk_at "rd"
        exact ⟨rfl, _, rfl⟩
    · rintro σ H1 ⟨rfl, v2, rfl⟩
      walk_at "rd"
      exact ⟨rfl, _, _, rfl⟩
  · rintro σ H1 ⟨rfl, v1, v2, rfl⟩
    walk_at "rd"
    exact k
abbrev wX : Nat := 2
/-! ### the matrix of keys -/
/-- a row of tuples of numbers -/
def RowX (H : Hp) (rvs : List V) (X : List (List Int)) : Prop := rvs.length = X.length ∧ ∀ (i : Nat) (v : V), rvs[i]? = some v → ∃ (x : Addr) (xs : List Int), v = .ref x ∧ X[i]? = some xs ∧ H x = some (.tup (xs.map V.int)) ∧ xs.length = wX
theorem RowX.stp {M : List Addr} {H H' : Hp} {rvs : List V} {X : List (List Int)} (h : RowX H rvs X) (S : Stp M H H') : RowX H' rvs X :=
  ⟨h.1, fun i v e => by obtain ⟨x, xs, h1, h2, h3, h4⟩ := h.2 i v e; exact ⟨x, xs, h1, h2, S.tup h3, h4⟩⟩
def getX (X : List (List Int)) (i : Nat) : List Int := X.getD i []
theorem getX_at {X : List (List Int)} {i : Nat} {xs : List Int} (h : X[i]? = some xs) : getX X i = xs := by unfold getX; simp [List.getD, h]
def kG (cols : List (Nat × Bool)) (X : List (List Int)) (i j : Nat) : Bool := keyB cols (getX X i) (getX X j)
def RuleAt (K : PySem.W.Frag) (A : Ad) (H : Hp) (u : Addr) (cols : List (Nat × Bool)) : Prop := ∃ (d l : Addr) (cvs : List V), H u = some (.ins A.KeyRule d [("columns", .ref l)]) ∧ H l = some (.lst cvs) ∧ Cols K H cvs cols ∧ ∀ c ∈ cols, c.1 < wX
theorem RuleAt.stp {K : PySem.W.Frag} {A : Ad} {M : List Addr} {H H' : Hp} {u : Addr} {cols : List (Nat × Bool)} (h : RuleAt K A H u cols) (S : Stp M H H') (hM : ∀ m ∈ M, H m = none) : RuleAt K A H' u cols := by
  have keep : ∀ {a : Addr} {o : HO}, H a = some o → H' a = some o := fun {a o} e => S.keep e fun z => by rw [hM _ z] at e; cases e
  obtain ⟨d, l, cvs, h1, h2, h3, h4⟩ := h
  exact ⟨d, l, cvs, keep h1, keep h2, h3.stp S, h4⟩
def sp_matrix_of (K : PySem.W.Frag) (A : Ad) : Sp := fun vs H Q _ => ∃ (rq u : Addr) (rvs : List V) (X : List (List Int)) (cols : List (Nat × Bool)), vs = [.ref rq, .ref u] ∧ (SqL K H rq rvs ∧ RowX H rvs X ∧ X.length ≤ 1000 ∧ RuleAt K A H u cols) ∧
  ∀ gq H' gvs, H gq = none → Stp [] H H' → H' gq = some (.lst gvs) → GMat H' gvs X.length X.length (kG cols X) → Q (.ref gq) H'
theorem ok_matrix_of {P : Program} {w : World} {K : PySem.W.Frag} {mg : Str → Option Value} {base : Heap} {A : Ad} {f : Addr} {fd : FuncData} (F : Fun K "matrix_of" "matrix_of" s_matrix_of f fd) (T : Txt K mg A) (M_KeyRule_before : SH.CalM P w K mg base CX0 1 A.KeyRule "before" [] (sp_KeyRule_before K A)) : FnOk P w K mg base CX0 2 f fd ["row", "rule"] (sp_matrix_of K A) := by
  refine F.ok sc_matrix_of (fun vs H Q E h => by obtain ⟨_, _, _, _, _, rfl, _⟩ := h; rfl) (fun cdv A' outer s H vs Q E hr h => ?_)
  obtain ⟨rq, u, rvs, X, cols, rfl, ⟨hrq, hX, hn, hU⟩, k⟩ := h
  refine ⟨_, (pss_cons (ps_set (i := 2) sc_matrix_of.nd rfl (Or.inl rfl) (pe_lst pa_nil))
        (pss_cons (ps_for PassesOwn.never rfl (pi_list (pv 0)) (pg_name (i := 3) sc_matrix_of.nd rfl (Or.inr rfl)) (pss_one (ps_expr (pe_bm PySem.F.plainAttrs_list PySem.F.slot_list_append PySem.F.type_list_append mt_append (pv 2) (pa_cons (pe_lc (own := [("other", 4)]) (g := (gName 4)) (tt := tYes) (by rfl) sc_matrix_of.nd (pi_list (pv 0)) (blkOk_by (own := [("other", 4)]) (N := ["row", "rule", "goes", "thing", "other"]) (sc := defScope s_matrix_of) (by decide +kernel)) (fun _ _ _ _ _ => (pg_name (i := 4) sc_matrix_of.nd rfl (Or.inl rfl))) (fun _ _ _ _ _ => pts_nil) (fun _ _ _ _ _ => (SH.pe_methF (pv 1) M_KeyRule_before hr pass0 (pa_cons (pv 3) (pa_cons (pv 4) pa_nil))))) pa_nil)))))
        (pss_one (ps_ret (pv 2))))), ?_⟩
  walk_at "begin"
  walk_at "rd"
  intro gq hgq
  have S1 := (Stp.refl [] H).new (o := .lst []) hgq
  have hgq1 := upd_same (H := H) (a := gq) (o := .lst [])
  have hrq1 := S1.sql0 hrq
  have hX1 := hX.stp S1
  have hU1 := hU.stp S1 (by simp)
  have hXl := hX.1
  generalize hH1 : upd H gq (.lst []) = H1 at S1 hgq1 hrq1 hX1 hU1 ⊢
  walk_at "rd"
  refine for_it (walk_list (xs := rvs)) (fun j σ H' => (Stp [gq] H1 H' ∧ ∃ gvs, H' gq = some (.lst gvs) ∧ GMat H' gvs j X.length (kG cols X)) ∧ ∃ v3, σ = [some (.ref rq), some (.ref u), some (.ref gq), v3, none]) ⟨⟨.refl _ _, [], hgq1, ⟨rfl, fun i v e => by cases e⟩⟩, _, rfl⟩ (fun _ _ _ _ z => (S1.then z.1.1 (by simp; exact hgq)).sql0 hrq) ?_ ?_
  · rintro i v σ H2 H3 hj ⟨⟨S, gvs, hL, hG⟩, v3, rfl⟩ ⟨rfl, hx⟩
    obtain ⟨x, xs, rfl, exs, hx1, hxl⟩ := hX1.2 i v hx
    have S03 : Stp [] H H3 := S1.then S (by simp; exact hgq)
    have hrq3 := S03.sql0 hrq
    have hX3 := hX.stp S03
    have hU3 := hU.stp S03 (by simp)
    have hx3 := S.tup hx1
    walk_at "rd"
    intro D hD
    refine lc_it (walk_list (xs := rvs)) (fun j H' => Stp [] H3 H' ∧ H' D = some (.lst (gB j (kG cols X i)))) ⟨(Stp.refl _ _).new hD, upd_same⟩ (fun j H' _ z => z.1.sql0 hrq3) ?_ ?_
    · rintro j y H4 H5 hj2 ⟨S5, hL5⟩ ⟨rfl, hy⟩
      obtain ⟨y, ys, rfl, eys, hy1, hyl⟩ := hX3.2 j y hy
      have hx5 := S5.tup hx3
      have hy5 := S5.tup hy1
      have hU5 := hU3.stp S5 (by simp)
      obtain ⟨d', l', cvs', hu', hl', hc', h3'⟩ := hU5
      walk_at "rd"
      refine ⟨u, x, y, d', l', cvs', cols, xs, ys, rfl, hu', ⟨SqL.of hl', hc', SqT.of hx5, SqT.of hy5, fun c hc => by rw [hxl, hyl]; exact ⟨h3' c hc, h3' c hc⟩⟩, ?_⟩
      refine ⟨_, hL5, Nat.lt_of_le_of_lt (m := 1000) (by simp [gB]; omega) (by decide), S5.putN hD, ?_⟩
      rw [upd_same]
      unfold gB kG
      rw [List.range_succ, List.map_append, getX_at exs]
      simp [getX_at eys]
    rintro H4 ⟨S4, hL4⟩
    walk_at "rd"
    have hL4' := S4.keep0 hL
    have hD4 : H4 gq = some (.lst gvs) := hL4'
    have hgl := hG.len
    refine v_app hD4 (by omega) ?_
    have nDg : D ≠ gq := (ne_of_none hL hD).symm
    have S5 : Stp [gq] H3 (upd H4 gq (.lst (gvs ++ [.ref D]))) := (S4.mono (by simp)).putL (by simp) hD4
    refine ⟨⟨S.trans S5, gvs ++ [.ref D], upd_same, ⟨by simp [hgl], fun i' v' e => ?_⟩⟩, _, rfl⟩
    by_cases hi' : i' < gvs.length
    · rw [List.getElem?_append_left hi'] at e
      obtain ⟨g, rfl, hg⟩ := hG.at_ i' v' e
      refine ⟨g, rfl, S5.keep hg fun z => ?_⟩
      rw [List.mem_singleton] at z
      subst z
      rw [hL] at hg
      injection hg with hg
      injection hg with hg
      rw [hg] at e
      unfold gB at e
      rw [List.getElem?_map] at e
      cases h : (List.range X.length)[i']? with
      | none => rw [h] at e; cases e
      | some z => rw [h] at e; cases e
    · rw [List.getElem?_append_right (by omega)] at e
      have hz : i' = gvs.length := by
        have := (List.getElem?_eq_some_iff.mp e).1
        simp at this; omega
      subst hz
      simp at e
      subst e
      refine ⟨D, rfl, ?_⟩
      rw [upd_ne nDg, hL4, hXl, hgl]
  · rintro σ H2 ⟨⟨S, gvs, hL, hG⟩, v3, rfl⟩
    walk_at "rd"
    rw [hXl] at hG
    exact k gq _ gvs hgq (S1.then S (by simp; exact hgq)) hL hG
theorem range_getX (X : List (List Int)) : (List.range X.length).map (getX X) = X := by
  refine List.ext_getElem (by simp) fun i h1 h2 => ?_
  rw [List.getElem_map, List.getElem_range]
  exact getX_at (List.getElem?_eq_getElem h2)
theorem rkOf_rank {cols : List (Nat × Bool)} {X : List (List Int)} {p : Nat} : rkOf X.length (kG cols X) p = rank (keyB cols) X (getX X p) := by
  unfold rkOf rank kG
  conv => rhs; rw [← range_getX X]
  rw [List.filter_map, List.length_map, range_getX]
  rfl
theorem getX_mem {X : List (List Int)} {p : Nat} (h : p < X.length) : getX X p ∈ X := by
  rw [getX_at (List.getElem?_eq_getElem h)]
  exact List.getElem_mem h
theorem kG_rank {cols : List (Nat × Bool)} {X : List (List Int)} {p q : Nat} (hp : p < X.length) (hq : q < X.length) : kG cols X p q = true ↔ rkOf X.length (kG cols X) p < rkOf X.length (kG cols X) q := by
  rw [rkOf_rank, rkOf_rank]
  show keyB cols (getX X p) (getX X q) = true ↔ _
  rw [rank_iff (getX_mem hp), decide_eq_true_eq]
def sp_ranked (K : PySem.W.Frag) (A : Ad) : Sp := fun vs H Q _ => ∃ (rq u : Addr) (rvs : List V) (X : List (List Int)) (cols : List (Nat × Bool)), vs = [.ref rq, .ref u] ∧ (SqL K H rq rvs ∧ RowX H rvs X ∧ X.length ≤ 1000 ∧ RuleAt K A H u cols) ∧
  ∀ t H' l, H t = none → Stp [] H H' → H' t = some (.tup [.str "ranks", .ref l]) → H l = none → H' l = some (.lst (nv ((List.range X.length).map (rkOf X.length (kG cols X))))) → Q (.ref t) H'
theorem ok_ranked {P : Program} {w : World} {K : PySem.W.Frag} {mg : Str → Option Value} {base : Heap} {A : Ad} {f : Addr} {fd : FuncData} (F : Fun K "ranked" "ranked" s_ranked f fd) (T : Txt K mg A) (C_matrix_of : SH.Cal P w K mg base CX0 2 "matrix_of" [] (sp_matrix_of K A)) (C_plain_flaw : SH.Cal P w K mg base CX0 1 "plain_flaw" [] (sp_plain_flaw K A)) (C_tie_in : SH.Cal P w K mg base CX0 2 "tie_in" [] (sp_tie_in K A)) : FnOk P w K mg base CX0 3 f fd ["row", "rule"] (sp_ranked K A) := by
  refine F.ok sc_ranked (fun vs H Q E h => by obtain ⟨_, _, _, _, _, rfl, _⟩ := h; rfl) (fun cdv A' outer s H vs Q E hr h => ?_)
  obtain ⟨rq, u, rvs, X, cols, rfl, ⟨hrq, hX, hn, hU⟩, k⟩ := h
  refine ⟨_, (pss_cons (ps_set (i := 2) sc_ranked.nd rfl (Or.inr rfl) (SH.pe_callF C_matrix_of hr (by rfl) pass0 (pa_cons (pv 0) (pa_cons (pv 1) pa_nil))))
        (pss_cons (ps_set (i := 3) sc_ranked.nd rfl (Or.inl rfl) (SH.pe_callF C_plain_flaw hr (by rfl) pass0 (pa_cons (pv 2) pa_nil)))
        (pss_cons (ps_if (pt_cmpR SH.oNotN (pv 3) pe_non (nomark _)) (pss_one (ps_ret (pv 3))) pss_nil)
        (pss_cons (ps_set (i := 4) sc_ranked.nd rfl (Or.inl rfl) (pe_lst pa_nil))
        (pss_cons (ps_for PassesOwn.never rfl (pi_range1 (by rfl) T.z_range (pa_cons (pe_callB SH.cLen (by rfl) T.z_len (by decide +kernel) (pa_cons (pv 0) pa_nil)) pa_nil)) (pg_name (i := 5) sc_ranked.nd rfl (Or.inr rfl)) (pss_one (ps_expr (pe_bm PySem.F.plainAttrs_list PySem.F.slot_list_append PySem.F.type_list_append mt_append (pv 4) (pa_cons (pe_callB SH.cLen (by rfl) T.z_len (by decide +kernel) (pa_cons (pe_lc (own := [("q", 6)]) (g := (gName 6)) (by rfl) sc_ranked.nd (pi_range1 (by rfl) T.z_range (pa_cons (pe_callB SH.cLen (by rfl) T.z_len (by decide +kernel) (pa_cons (pv 0) pa_nil)) pa_nil)) (blkOk_by (own := [("q", 6)]) (N := ["row", "rule", "goes", "flaw", "ranks", "p", "q"]) (sc := defScope s_ranked) (by decide +kernel)) (fun _ _ _ _ _ => (pg_name (i := 6) sc_ranked.nd rfl (Or.inl rfl))) (fun _ _ _ _ _ => (pts_one (pt_val (pe_ix (SH.ixK SH.aIx K SH.ixA) (pe_ix (SH.ixK SH.aIx K SH.ixA) (pv 2) (pv 6) (fun _ _ => rfl)) (pv 5) (fun _ _ => rfl))))) (fun _ _ _ _ _ => (pv 6))) pa_nil)) pa_nil)))))
        (pss_cons (ps_set (i := 3) sc_ranked.nd rfl (Or.inl rfl) (SH.pe_callF C_tie_in hr (by rfl) pass0 (pa_cons (pv 2) (pa_cons (pv 4) pa_nil))))
        (pss_cons (ps_if (pt_cmpR SH.oNotN (pv 3) pe_non (nomark _)) (pss_one (ps_ret (pv 3))) pss_nil)
        (pss_one (ps_ret (pe_tup (pa_cons pe_str (pa_cons (pv 4) pa_nil)))))))))))), ?_⟩
  walk_at "begin"
  walk_at "rd"
  refine ⟨rq, u, rvs, X, cols, rfl, ⟨hrq, hX, hn, hU⟩, fun gq H1 gvs hgq S1 hg1 hG1 => ?_⟩
  walk_at "rd"
  refine ⟨gq, gvs, X.length, kG cols X, rfl, ⟨SqL.of hg1, hG1, hn, fun p => keyB_irr _ _, fun p q h => keyB_asym h.1 h.2⟩, ?_⟩
  walk_at "rd"
  rw [if_neg (by simp)]
  walk_at "rd"
  intro lq hlq
  walk_at "rd"
  have S2 := (Stp.refl [] H1).new (o := .lst []) hlq
  have hl2 := upd_same (H := H1) (a := lq) (o := .lst [])
  have hg2 := S2.keep0 hg1
  have hG2 := hG1.stp0 S2
  have hrq2 := (S1.trans S2).sql0 hrq
  have hX2 := hX.stp (S1.trans S2)
  have hXl := hX.1
  rw [hXl]
  generalize upd H1 lq (.lst []) = H2 at S2 hl2 hg2 hG2 hrq2 hX2 ⊢
  walk_at "rd"
  refine for_it walk_range (fun j σ H' => (Stp [lq] H2 H' ∧ H' lq = some (.lst (nv ((List.range j).map (rkOf X.length (kG cols X)))))) ∧ ∃ v5, σ = [some (.ref rq), some (.ref u), some (.ref gq), some .non, some (.ref lq), v5, none]) ⟨⟨.refl _ _, hl2⟩, _, rfl⟩ (fun _ _ _ _ _ => True.intro) ?_ ?_
  · rintro p v σ H3 H4 hj ⟨⟨S, hL⟩, v5, rfl⟩ ⟨rfl, rfl⟩
    have hp : p < X.length := by omega
    have S14 : Stp [lq] H1 H4 := (S2.mono (by simp)).trans S
    have hrq4 := ((S1.trans S2).then S (by simp; exact S1.dom _ hlq)).sql0 hrq
    have hG4 := hG1.stp S14 (fun g o hg ho _ => by rw [List.mem_singleton] at hg; subst hg; rw [hlq] at ho; cases ho)
    have hg4 := S.keep1 hg2 (ne_of_none hg1 hlq)
    simp only [Int.zero_add]
    walk_at "rd"
    rw [hXl]
    intro D hD
    refine lc_it walk_range (fun j H' => Stp [] H4 H' ∧ H' D = some (.lst (nv ((List.range j).filter fun q => kG cols X q p)))) ⟨(Stp.refl _ _).new hD, upd_same⟩ (fun _ _ _ _ => True.intro) ?_ ?_
    · rintro q y H5 H6 hj2 ⟨S5, hL5⟩ ⟨rfl, rfl⟩
      have hq : q < X.length := by omega
      have hG6 := hG4.stp0 S5
      have hg6 := S5.keep0 hg4
      obtain ⟨g, e1, hgg⟩ := hG6.get hq
      simp only [Int.zero_add]
      walk_at "rd"
      refine v_ixLn (n := q) (SqL.of hg6) rfl e1 ?_
      walk_at "rd"
      refine v_ixLn (n := p) (SqL.of hgg) rfl (gB_at hp) ?_
      walk_at "rd"
      cases hb : kG cols X q p with
      | false =>
        rw [if_neg (by simp)]
        refine ⟨S5, ?_⟩
        rw [hL5, List.range_succ, List.filter_append]
        simp [hb]
      | true =>
        rw [if_pos rfl]
        walk_at "rd"
        refine ⟨_, hL5, Nat.lt_of_le_of_lt (m := 1000) (by rw [List.length_map]; exact Nat.le_trans (List.length_filter_le _ _) (by simp; omega)) (by decide), S5.putN hD, ?_⟩
        rw [upd_same, List.range_succ, List.filter_append]
        simp [hb, nv]
    rintro H5 ⟨S5, hL5⟩
    walk_at "rd"
    refine v_app (S5.keep0 hL) (by simp; omega) ?_
    refine ⟨⟨S.trans ((S5.mono (by simp)).putL (by simp) (S5.keep0 hL)), ?_⟩, _, rfl⟩
    rw [upd_same, List.range_succ, List.map_append, ← nv_app]
    have hXn : ((X.length : Nat) : Int).toNat = X.length := by omega
    rw [hXn]
    rfl
  · rintro σ H3 ⟨⟨S, hL⟩, v5, rfl⟩
    have hXn : ((X.length : Nat) : Int).toNat = X.length := by omega
    rw [hXn] at hL
    have S13 : Stp [lq] H1 H3 := (S2.mono (by simp)).trans S
    have hG3 := hG1.stp S13 (fun g o hg ho _ => by rw [List.mem_singleton] at hg; subst hg; rw [hlq] at ho; cases ho)
    have hg3 := S.keep1 hg2 (ne_of_none hg1 hlq)
    walk_at "rd"
    refine ⟨gq, lq, gvs, X.length, kG cols X, rkOf X.length (kG cols X), rfl, ⟨SqL.of hg3, hG3, SqL.of hL, hn, fun p q hp hq => kG_rank hp hq⟩, ?_⟩
    walk_at "rd"
    rw [if_neg (by simp)]
    walk_at "rd"
    intro t ht
    have S4 := (Stp.refl [] H3).new (o := .tup [.str "ranks", .ref lq]) ht
    have S03 : Stp [] H H3 := (S1.trans S2).then S (by simp; exact S1.dom _ hlq)
    exact k t _ lq (S03.dom t ht) (S03.trans S4) upd_same (S1.dom _ hlq) (S4.keep0 hL)
/-! ### asks: the later place, the earlier one, what was told -/
abbrev Ent := T3 Nat Nat Bool
/-- all entries are what the oracle tells -/
def Told (or : List Ent → Nat → Nat → Bool) : List Ent → List Ent → Prop
  | _, [] => True
  | log, e :: es => e.c = or log e.a e.b ∧ Told or (log ++ [e]) es
theorem Told.app {or : List Ent → Nat → Nat → Bool} : ∀ {log es fs : List Ent}, Told or log es → Told or (log ++ es) fs → Told or log (es ++ fs)
  | log, [], fs, _, h => by simpa using h
  | log, e :: es, fs, h, k => ⟨h.1, Told.app h.2 (by simpa using k)⟩
theorem Told.one {or : List Ent → Nat → Nat → Bool} {log : List Ent} {e : Ent} (h : e.c = or log e.a e.b) : Told or log [e] := ⟨h, True.intro⟩
/-- an oracle that doesn't look at the log -/
theorem Told.all {lt : Nat → Nat → Bool} : ∀ {log es : List Ent}, Told (fun _ => lt) log es → ∀ e ∈ es, e.c = lt e.a e.b
  | log, [], _, e, h => by cases h
  | log, e' :: es, h, e, he => by
    rcases List.mem_cons.mp he with z | he
    · rw [z]; exact h.1
    · exact Told.all h.2 e he
theorem max_v (p q : Nat) : (if (q : Int) > (p : Int) then (q : Int) else (p : Int)) = ((max p q : Nat) : Int) := by split <;> omega
theorem min_v (p q : Nat) : (if (q : Int) < (p : Int) then (q : Int) else (p : Int)) = ((min p q : Nat) : Int) := by split <;> omega
def AskF (r : Addr) (u : V) (n : Nat) (l : Addr) : List (Str × V) := [("row", .ref r), ("rule", u), ("most", .non), ("asked", .int n), ("log", .ref l)]
/-! ### the asker of a rule by one column -/
/-- a row of tuples that begin with keys -/
def RowK (H : Hp) (row : List V) (ks : List Int) : Prop := row.length = ks.length ∧ ∀ (i : Nat) (v : V), row[i]? = some v → ∃ (t : Addr) (xs : List Int), v = .ref t ∧ H t = some (.tup (xs.map V.int)) ∧ 0 < xs.length ∧ getE xs 0 = getE ks i
theorem RowK.stp {M : List Addr} {H H' : Hp} {row : List V} {ks : List Int} (h : RowK H row ks) (S : Stp M H H') : RowK H' row ks :=
  ⟨h.1, fun i v e => by obtain ⟨t, xs, h1, h2, h3⟩ := h.2 i v e; exact ⟨t, xs, h1, S.tup h2, h3⟩⟩
structure Ask where
  s : Addr
  r : Addr
  l : Addr
  dx : Addr
  u : Addr
  du : Addr
  cl : Addr
  t : Addr
  up : Bool
  ks : List Int
  row : List V
def Ask.n (I : Ask) : Nat := I.ks.length
def Ask.M (I : Ask) : List Addr := [I.s, I.l]
def Ask.own (I : Ask) : List Addr := [I.s, I.l, I.r, I.u, I.cl]
def Ask.lt (I : Ask) (p q : Nat) : Bool := keyB [(0, I.up)] [getE I.ks p] [getE I.ks q]
def Ask.or (I : Ask) : List Ent → Nat → Nat → Bool := fun _ => I.lt
structure Ask.At (I : Ask) (K : PySem.W.Frag) (A : Ad) (H : Hp) (log : List Ent) : Prop where
  hs : H I.s = some (.ins A.Asker I.dx (AskF I.r (.ref I.u) log.length I.l))
  hr : H I.r = some (.lst I.row)
  hl : ∃ evs, H I.l = some (.lst evs) ∧ IsL K H evs log
  hu : H I.u = some (.ins A.KeyRule I.du [("columns", .ref I.cl)])
  hc : H I.cl = some (.lst [.ref I.t])
  ht : H I.t = some (.tup [.int (0 : Nat), .str (wayS I.up)])
  rk : RowK H I.row I.ks
  d1 : I.s ≠ I.u
  d2 : I.l ≠ I.r
  d3 : I.l ≠ I.cl
  few : log.length ≤ 100000
  rows : I.row.length ≤ 100000
theorem Ask.At.stp {I : Ask} {K : PySem.W.Frag} {A : Ad} {M : List Addr} {H H' : Hp} {log : List Ent} (h : I.At K A H log) (S : Stp M H H') (hM : ∀ m ∈ M, m ∉ I.own) : I.At K A H' log := by
  have k : ∀ b o, b ∈ I.own → H b = some o → H' b = some o := fun b o hb e => S.keep e fun z => hM b z hb
  obtain ⟨evs, h1, h2⟩ := h.hl
  exact ⟨k _ _ (by simp [Ask.own]) h.hs, k _ _ (by simp [Ask.own]) h.hr, ⟨evs, k _ _ (by simp [Ask.own]) h1, isl_stpM S h2⟩, k _ _ (by simp [Ask.own]) h.hu, k _ _ (by simp [Ask.own]) h.hc, S.tup h.ht, h.rk.stp S, h.d1, h.d2, h.d3, h.few, h.rows⟩
theorem Ask.At.n_row {I : Ask} {K : PySem.W.Frag} {A : Ad} {H : Hp} {log : List Ent} (h : I.At K A H log) : I.row.length = I.n := h.rk.1

def sp_Asker_ahead (K : PySem.W.Frag) (A : Ad) : Sp := fun vs H Q _ => ∃ (I : Ask) (log : List Ent) (p q : Nat), vs = [.ref I.s, .int p, .int q] ∧ (I.At K A H log ∧ p < I.n ∧ q < I.n ∧ p ≠ q ∧ log.length < 100000) ∧
  ∀ H' said, said = I.or log (max p q) (min p q) → Stp I.M H H' → I.At K A H' (log ++ [⟨max p q, min p q, said⟩]) → Q (.bl (decide (said = decide (q < p)))) H'
theorem ok_Asker_ahead {P : Program} {w : World} {K : PySem.W.Frag} {mg : Str → Option Value} {base : Heap} {A : Ad} {f : Addr} {fd : FuncData} (F : Fun K "ahead" "Asker.ahead" s_Asker_ahead f fd) (T : Txt K mg A) (M_KeyRule_before : SH.CalM P w K mg base CX0 1 A.KeyRule "before" [] (sp_KeyRule_before K A)) : FnOk P w K mg base CX0 2 f fd ["self", "p", "q"] (sp_Asker_ahead K A) := by
  refine F.ok sc_Asker_ahead (fun vs H Q E h => by obtain ⟨_, _, _, _, rfl, _⟩ := h; rfl) (fun cdv A' outer s H vs Q E hr h => ?_)
  obtain ⟨I, log, p, q, rfl, ⟨hA, hp, hq, hne, hlog⟩, k⟩ := h
  refine ⟨_, (pss_cons (ps_if (PW.pt (pw_and (pt_cmpR SH.oNotN (SH.pe_fldF T.cl_Asker T.na_Asker_most (pv 0)) pe_non (nomark _)) (pw_and1 (pt_cmpR SH.oGe (SH.pe_fldF T.cl_Asker T.na_Asker_asked (pv 0)) (SH.pe_fldF T.cl_Asker T.na_Asker_most (pv 0)) (nomark _))))) (pss_one ps_never) pss_nil)
        (pss_cons (ps_set (i := 3) sc_Asker_ahead.nd rfl (Or.inl rfl) (pe_callB (SH.cMax2 rfl) (by rfl) T.z_max (by decide +kernel) (pa_cons (pv 1) (pa_cons (pv 2) pa_nil))))
        (pss_cons (ps_set (i := 4) sc_Asker_ahead.nd rfl (Or.inl rfl) (pe_callB (SH.cMin2 rfl) (by rfl) T.z_min (by decide +kernel) (pa_cons (pv 1) (pa_cons (pv 2) pa_nil))))
        (pss_cons (ps_set (i := 5) sc_Asker_ahead.nd rfl (Or.inl rfl) (SH.pe_methF (SH.pe_fldF T.cl_Asker T.na_Asker_rule (pv 0)) M_KeyRule_before hr pass0 (pa_cons (pe_ix SH.ixA (SH.pe_fldF T.cl_Asker T.na_Asker_row (pv 0)) (pv 3) (fun _ _ => rfl)) (pa_cons (pe_ix SH.ixA (SH.pe_fldF T.cl_Asker T.na_Asker_row (pv 0)) (pv 4) (fun _ _ => rfl)) pa_nil))))
        (pss_cons (SH.ps_fldaugF T.cl_Asker T.na_Asker_asked (pv 0) pe_int SH.in_add')
        (pss_cons (ps_expr (pe_bm PySem.F.plainAttrs_list PySem.F.slot_list_append PySem.F.type_list_append mt_append (SH.pe_fldF T.cl_Asker T.na_Asker_log (pv 0)) (pa_cons (pe_tup (pa_cons (pv 3) (pa_cons (pv 4) (pa_cons (pv 5) pa_nil)))) pa_nil)))
        (pss_one (ps_ret (pe_cmpR (SH.oEq hr.units) (pv 5) (pe_cmpR (SH.oEq hr.units) (pv 1) (pv 3) (nomark _)) (nomark _)))))))))), ?_⟩
  walk_at "begin"
  have hn := hA.n_row
  obtain ⟨hs, hr, ⟨evs, hl, hev⟩, hu, hc, ht, rk, d1, d2, d3, few, rows⟩ := hA
  have nsl : I.s ≠ I.l := ne_of hs hl (by intro z; cases z)
  have nsr : I.s ≠ I.r := ne_of hs hr (by intro z; cases z)
  have nsc : I.s ≠ I.cl := ne_of hs hc (by intro z; cases z)
  have nst : I.s ≠ I.t := ne_of hs ht (by intro z; cases z)
  have nlt : I.l ≠ I.t := ne_of hl ht (by intro z; cases z)
  have nlu : I.l ≠ I.u := ne_of hl hu (by intro z; cases z)
  unfold AskF at hs
  walk_at "rd"
  refine r_nwF rfl ?_
  walk_at "rd"
  rw [max_v, min_v]
  have hmx : max p q < I.row.length := by omega
  have hmn : min p q < I.row.length := by omega
  obtain ⟨t1, xs, e1, ht1, hx0, hx⟩ := rk.2 (max p q) _ (List.getElem?_eq_getElem hmx)
  obtain ⟨t2, ys, e2, ht2, hy0, hy⟩ := rk.2 (min p q) _ (List.getElem?_eq_getElem hmn)
  walk_at "rd"
  refine v_ixLn (n := max p q) (SqL.of hr) rfl ((List.getElem?_eq_getElem hmx).trans (congrArg some e1)) ?_
  walk_at "rd"
  refine v_ixLn (n := min p q) (SqL.of hr) rfl ((List.getElem?_eq_getElem hmn).trans (congrArg some e2)) ?_
  walk_at "rd"
  refine ⟨I.u, t1, t2, I.du, I.cl, [.ref I.t], [(0, I.up)], xs, ys, rfl, hu, ⟨SqL.of hc, ⟨rfl, fun j v e => ?_⟩, SqT.of ht1, SqT.of ht2, fun c hc => ?_⟩, ?_⟩
  · cases j with
    | zero => cases e; exact ⟨I.t, (0, I.up), rfl, rfl, ht⟩
    | succ j => cases e
  · rw [List.mem_singleton] at hc; subst hc; exact ⟨hx0, hy0⟩
  have ek : keyB [(0, I.up)] xs ys = I.or log (max p q) (min p q) := by
    simp only [keyB, Ask.or, Ask.lt, hx, hy]
    rfl
  rw [ek]
  generalize hsaid : I.or log (max p q) (min p q) = said
  walk_at "rd"
  intro tp htp
  have htp0 : H tp = none := (upd_free htp).1
  walk_at "rd"
  have hl2 : upd (upd H I.s (.ins A.Asker I.dx [("row", .ref I.r), ("rule", .ref I.u), ("most", .non), ("asked", .int (log.length + 1)), ("log", .ref I.l)])) tp (.tup [.int (max p q : Nat), .int (min p q : Nat), .bl said]) I.l = some (.lst evs) := by
    rw [upd_ne (ne_of_none hl htp0), upd_ne nsl.symm]; exact hl
  have hel := isl_len hev
  refine v_app hl2 (by omega) ?_
  walk_at "rd"
  have epl : decide ((p : Int) = ((max p q : Nat) : Int)) = decide (q < p) := by
    apply decide_eq_decide.mpr; omega
  rw [epl]
  have S : Stp I.M H (upd (upd (upd H I.s (.ins A.Asker I.dx [("row", .ref I.r), ("rule", .ref I.u), ("most", .non), ("asked", .int (log.length + 1)), ("log", .ref I.l)])) tp (.tup [.int (max p q : Nat), .int (min p q : Nat), .bl said])) I.l (.lst (evs ++ [.ref tp]))) :=
    (((Stp.refl I.M H).putM (by simp [Ask.M]) hs (fun z => z)).new htp).putM (by simp [Ask.M]) hl2 (fun z => z)
  refine k _ said hsaid.symm S ?_
  have ntl : tp ≠ I.l := (ne_of_none hl htp0).symm
  have nts : tp ≠ I.s := (ne_of_none hs htp0).symm
  have keep : ∀ {b o}, b ≠ I.l → b ≠ I.s → H b = some o → upd (upd (upd H I.s (.ins A.Asker I.dx [("row", .ref I.r), ("rule", .ref I.u), ("most", .non), ("asked", .int (log.length + 1)), ("log", .ref I.l)])) tp (.tup [.int (max p q : Nat), .int (min p q : Nat), .bl said])) I.l (.lst (evs ++ [.ref tp])) b = some o := fun {b o} h1 h2 h3 => by
    rw [upd_ne h1, upd_ne (ne_of_none h3 htp0), upd_ne h2]; exact h3
  refine ⟨?_, keep d2.symm nsr.symm hr, ⟨evs ++ [.ref tp], upd_same, isl_app (isl_stpM S hev) (isl_cons (is_t3 (SqT.of (by rw [upd_ne ntl]; exact upd_same)) is_nat is_nat is_bl) isl_nil)⟩, keep nlu.symm d1.symm hu, keep d3.symm nsc.symm hc, keep nlt.symm nst.symm ht, rk.stp S, d1, d2, d3, by simp; omega, rows⟩
  rw [upd_ne nsl, upd_ne nts.symm, upd_same]
  simp [AskF]

def sp_Asker_many (K : PySem.W.Frag) (A : Ad) : Sp := fun vs H Q _ => ∃ (I : Ask) (log : List Ent), vs = [.ref I.s] ∧ I.At K A H log ∧ Q (.int I.n) H
theorem ok_Asker_many {P : Program} {w : World} {K : PySem.W.Frag} {mg : Str → Option Value} {base : Heap} {A : Ad} {f : Addr} {fd : FuncData} (F : Fun K "many" "Asker.many" s_Asker_many f fd) (T : Txt K mg A)  : FnOk P w K mg base CX0 1 f fd ["self"] (sp_Asker_many K A) := by
  refine F.ok sc_Asker_many (fun vs H Q E h => by obtain ⟨_, _, rfl, _⟩ := h; rfl) (fun cdv A' outer s H vs Q E hr h => ?_)
  obtain ⟨I, log, rfl, hA, k⟩ := h
  refine ⟨_, (pss_one (ps_ret (pe_callB SH.cLen (by rfl) T.z_len (by decide +kernel) (pa_cons (SH.pe_fldF T.cl_Asker T.na_Asker_row (pv 0)) pa_nil)))), ?_⟩
  walk_at "begin"
  have hn := hA.n_row
  obtain ⟨hs, hr, _⟩ := hA
  unfold AskF at hs
  walk_at "rd"
  rw [hn]
  exact k

def sp_Asker___init__ (K : PySem.W.Frag) (A : Ad) : Sp := fun vs H Q _ => ∃ (s b : Addr) (u : V) (row : List V), vs = [.ref s, .ref b, u, .non] ∧ (∃ dx, H s = some (.ins A.Asker dx [])) ∧ (SqL K H b row ∧ row.length ≤ 100000) ∧
  ∀ dx r l H', H r = none → H l = none → l ≠ r → s ≠ r → s ≠ l → Stp [s] H H' → H' s = some (.ins A.Asker dx (AskF r u 0 l)) → H' r = some (.lst row) → H' l = some (.lst []) → Q .non H'
theorem ok_Asker___init__ {P : Program} {w : World} {K : PySem.W.Frag} {mg : Str → Option Value} {base : Heap} {A : Ad} {f : Addr} {fd : FuncData} (F : FunD K "__init__" "Asker.__init__" (defArgs s_Asker___init__) (defBody s_Asker___init__) (defScope s_Asker___init__) [.non] [] f fd) (T : Txt K mg A)  : FnOk P w K mg base CX0 1 f fd ["self", "row", "rule", "most"] (sp_Asker___init__ K A) := by
  refine SH.funD_ok F sc_Asker___init__ (fun vs H Q E h => by obtain ⟨_, _, _, _, rfl, _⟩ := h; rfl) (fun cdv A' outer s H vs Q E hr h => ?_)
  obtain ⟨s', b, u, row, rfl, ⟨dx, hs⟩, ⟨hb, hl⟩, k⟩ := h
  refine ⟨_, (pss_cons (SH.ps_fldF T.cl_Asker T.na_Asker_row (pv 0) (pe_callTy SH.cListOf (by rfl) T.z_list (by decide +kernel) (pa_cons (pv 1) pa_nil)) rfl)
        (pss_cons (SH.ps_fldF T.cl_Asker T.na_Asker_rule (pv 0) (pv 2) rfl)
        (pss_cons (SH.ps_fldF T.cl_Asker T.na_Asker_most (pv 0) (pv 3) rfl)
        (pss_cons (SH.ps_fldF T.cl_Asker T.na_Asker_asked (pv 0) pe_int rfl)
        (pss_one (SH.ps_fldF T.cl_Asker T.na_Asker_log (pv 0) (pe_lst pa_nil) rfl)))))), ?_⟩
  walk_at "begin"
  walk_at "rd"
  intro r hr
  have nsr : s' ≠ r := ne_of_none hs hr
  walk_at "rd"
  intro l hl2
  have hl0 : H l = none := (upd_free (upd_free (upd_free (upd_free (upd_free hl2).1).1).1).1).1
  have nsl : s' ≠ l := ne_of_none hs hl0
  have nlr : l ≠ r := fun e => by subst e; simp [upd_ne nsr.symm, upd_same] at hl2
  walk_at "rd"
  refine k dx r l _ hr hl0 nlr nsr nsl ?_ upd_same ?_ ?_
  · exact ((((((Stp.refl [s'] H).new hr).putI (by simp) (upd_old hs hr)).putI (by simp) upd_same).putI (by simp) upd_same).putI (by simp) upd_same).new hl2 |>.putI (by simp) (upd_old upd_same hl2)
  · rw [upd_ne nsr.symm, upd_ne nlr.symm, upd_ne nsr.symm, upd_ne nsr.symm, upd_ne nsr.symm, upd_ne nsr.symm]; exact upd_same
  · rw [upd_ne nsl.symm]; exact upd_same
def sp_Asker_answers (K : PySem.W.Frag) (A : Ad) : Sp := fun vs H Q _ => ∃ (I : Ask) (log : List Ent), vs = [.ref I.s] ∧ I.At K A H log ∧
  ∀ q H' evs, H q = none → Stp [] H H' → H' q = some (.lst evs) → IsL K H' evs log → Q (.ref q) H'
theorem ok_Asker_answers {P : Program} {w : World} {K : PySem.W.Frag} {mg : Str → Option Value} {base : Heap} {A : Ad} {f : Addr} {fd : FuncData} (F : Fun K "answers" "Asker.answers" s_Asker_answers f fd) (T : Txt K mg A)  : FnOk P w K mg base CX0 1 f fd ["self"] (sp_Asker_answers K A) := by
  refine F.ok sc_Asker_answers (fun vs H Q E h => by obtain ⟨_, _, rfl, _⟩ := h; rfl) (fun cdv A' outer s H vs Q E hr h => ?_)
  obtain ⟨I, log, rfl, hA, k⟩ := h
  refine ⟨_, (pss_one (ps_ret (pe_callTy SH.cListOf (by rfl) T.z_list (by decide +kernel) (pa_cons (SH.pe_fldF T.cl_Asker T.na_Asker_log (pv 0)) pa_nil)))), ?_⟩
  walk_at "begin"
  obtain ⟨hs, hr, ⟨evs, hl, hev⟩, _⟩ := hA
  unfold AskF at hs
  walk_at "rd"
  intro q hq
  have S := (Stp.refl [] H).new (o := .lst evs) hq
  exact k q _ evs hq S upd_same (isl_stp S hev)
/-! ### answers and papers: agreeing, and showing -/
theorem ch_pw' {R : Nat → Nat → Prop} (tr : ∀ a b c, R a b → R b c → R a c) : ∀ {l : List Nat}, (∀ (i u v : Nat), l[i]? = some u → l[i + 1]? = some v → R u v) → l.Pairwise R
  | [], _ => .nil
  | [x], _ => List.pairwise_singleton _ _
  | x :: y :: l, h => by
    have ih := ch_pw' tr (l := y :: l) fun i u v hu hv => h (i + 1) u v (by rw [List.getElem?_cons_succ]; exact hu) (by rw [List.getElem?_cons_succ]; exact hv)
    have hxy : R x y := h 0 x y rfl rfl
    refine List.pairwise_cons.mpr ⟨fun z hz => ?_, ih⟩
    rcases List.mem_cons.mp hz with rfl | hz
    · exact hxy
    · exact tr _ _ _ hxy ((List.pairwise_cons.mp ih).1 z hz)
def ag (ord : List Nat) (log : List Ent) : Bool := log.all fun e => decide (decide (ord.idxOf e.a < ord.idxOf e.b) = e.c)
def nba (ord : List Nat) (log : List Ent) : Prop := ∀ (i u v : Nat), ord[i]? = some u → ord[i + 1]? = some v → ∃ e ∈ log, e.a = max u v ∧ e.b = min u v
def Norm (n : Nat) (log : List Ent) : Prop := ∀ e ∈ log, e.b < e.a ∧ e.a < n
theorem ag_iff {ord : List Nat} {log : List Ent} : ag ord log = true ↔ ∀ e ∈ log, decide (ord.idxOf e.a < ord.idxOf e.b) = e.c := by
  unfold ag
  rw [List.all_eq_true]
  exact ⟨fun h e he => of_decide_eq_true (h e he), fun h e he => decide_eq_true (h e he)⟩
theorem kn_some (es : List Ent) (a b : Nat) : (valV (kn es) (pk a b)).isSome = true ↔ ∃ e ∈ es, e.a = a ∧ e.b = b := by
  suffices H : ∀ (n : Nat) (es : List Ent), es.length = n → ((valV (kn es) (pk a b)).isSome = true ↔ ∃ e ∈ es, e.a = a ∧ e.b = b) from H _ es rfl
  intro n
  induction n with
  | zero =>
    intro es hl
    have : es = [] := List.length_eq_zero_iff.mp hl
    subst this
    simp [kn, valV]
  | succ n ih' =>
    intro es hl
    obtain ⟨es, e, rfl⟩ : ∃ es' e, es = es' ++ [e] := ⟨es.dropLast, es.getLast (by intro z; subst z; simp at hl), (List.dropLast_concat_getLast _).symm⟩
    have ih := ih' es (by simpa using hl)
    rw [kn_app, valV_put]
    by_cases h : pk a b = pk e.a e.b
    · rw [if_pos h]
      have : a = e.a ∧ b = e.b := pk_inj.mp h
      exact ⟨fun _ => ⟨e, by simp, this.1.symm, this.2.symm⟩, fun _ => rfl⟩
    · rw [if_neg h, ih]
      constructor
      · rintro ⟨e', he, h1⟩; exact ⟨e', by simp [he], h1⟩
      · rintro ⟨e', he, h1, h2⟩
        rcases List.mem_append.mp he with he | he
        · exact ⟨e', he, h1, h2⟩
        · rw [List.mem_singleton] at he; subst he; exact (h (by rw [h1, h2])).elim
/-- two neighbours turned about -/
def swp (k : Nat) (ord : List Nat) : List Nat := ord.take k ++ [ord.getD (k + 1) 0, ord.getD k 0] ++ ord.drop (k + 2)
def swi (k i : Nat) : Nat := if i = k then k + 1 else if i = k + 1 then k else i
theorem swp_len {k : Nat} {ord : List Nat} (h : k + 1 < ord.length) : (swp k ord).length = ord.length := by
  unfold swp
  simp only [List.length_append, List.length_take, List.length_drop, List.length_cons, List.length_nil]
  omega
theorem swp_at {k i : Nat} {ord : List Nat} (h : k + 1 < ord.length) : (swp k ord)[i]? = ord[swi k i]? := by
  unfold swp swi
  have hl : (ord.take k).length = k := by rw [List.length_take]; omega
  have h1 : ord.getD (k + 1) 0 = ord[k + 1] := by rw [List.getD_eq_getElem?_getD, List.getElem?_eq_getElem h]; rfl
  have h2 : ord.getD k 0 = ord[k]'(by omega) := by rw [List.getD_eq_getElem?_getD, List.getElem?_eq_getElem (by omega)]; rfl
  rw [h1, h2, List.append_assoc]
  by_cases c1 : i < k
  · rw [if_neg (by omega), if_neg (by omega), List.getElem?_append_left (by omega), List.getElem?_take_of_lt c1]
  · rw [List.getElem?_append_right (by omega), hl]
    by_cases c2 : i = k
    · subst c2; rw [if_pos rfl, Nat.sub_self, List.getElem?_eq_getElem h]; rfl
    · rw [if_neg c2]
      by_cases c3 : i = k + 1
      · subst c3; rw [if_pos rfl, show k + 1 - k = 1 by omega, List.getElem?_eq_getElem (by omega : k < ord.length)]; rfl
      · rw [if_neg c3, List.getElem?_append_right (by simp; omega), List.getElem?_drop]
        congr 1
        simp
        omega
theorem swp_perm {k : Nat} {ord : List Nat} (h : k + 1 < ord.length) : (swp k ord).Perm ord := by
  have e : ord = ord.take k ++ (ord[k]'(by omega)) :: ord[k + 1] :: ord.drop (k + 2) := by
    rw [← List.drop_eq_getElem_cons h, ← List.drop_eq_getElem_cons (by omega), List.take_append_drop]
  have h1 : ord.getD (k + 1) 0 = ord[k + 1] := by rw [List.getD_eq_getElem?_getD, List.getElem?_eq_getElem h]; rfl
  have h2 : ord.getD k 0 = ord[k]'(by omega) := by rw [List.getD_eq_getElem?_getD, List.getElem?_eq_getElem (by omega)]; rfl
  unfold swp
  rw [h1, h2, List.append_assoc]
  conv => rhs; rw [e]
  exact List.Perm.append_left _ (List.Perm.swap _ _ _)
theorem swp_pap {k : Nat} {ord : List Nat} (hP : Pap ord) (h : k + 1 < ord.length) : Pap (swp k ord) := by
  unfold Pap
  rw [swp_len h]
  exact (swp_perm h).trans hP
theorem swp_idx {k x : Nat} {ord : List Nat} (hP : Pap ord) (h : k + 1 < ord.length) (hx : x < ord.length) : (swp k ord).idxOf x = swi k (ord.idxOf x) := by
  refine (swp_pap hP h).idx_at ?_
  rw [swp_at h]
  have : swi k (swi k (ord.idxOf x)) = ord.idxOf x := by unfold swi; split <;> split <;> (try split) <;> (try split) <;> omega
  rw [this]
  exact (hP.idx hx).2
theorem pap_inj {ord : List Nat} (hP : Pap ord) {x y : Nat} (hx : x < ord.length) (hy : y < ord.length) (h : ord.idxOf x = ord.idxOf y) : x = y := by
  have h1 := (hP.idx hx).2
  have h2 := (hP.idx hy).2
  rw [h] at h1
  exact Option.some.inj (h1.symm.trans h2)
/-- an answer that the paper bears goes with the turned paper just where it is not of the two -/
theorem swp_ag1 {k : Nat} {ord : List Nat} {e : Ent} (hP : Pap ord) (h : k + 1 < ord.length) (hn : e.b < e.a ∧ e.a < ord.length) :
    decide ((swp k ord).idxOf e.a < (swp k ord).idxOf e.b) = decide (ord.idxOf e.a < ord.idxOf e.b) ↔ ¬ (e.a = max (ord.getD k 0) (ord.getD (k + 1) 0) ∧ e.b = min (ord.getD k 0) (ord.getD (k + 1) 0)) := by
  have hk : ord[k]? = some (ord.getD k 0) := by rw [List.getD_eq_getElem?_getD, List.getElem?_eq_getElem (by omega)]; rfl
  have hk1 : ord[k + 1]? = some (ord.getD (k + 1) 0) := by rw [List.getD_eq_getElem?_getD, List.getElem?_eq_getElem h]; rfl
  have i1 := hP.idx_at hk
  have i2 := hP.idx_at hk1
  have l1 := hP.lt (List.mem_of_getElem? hk)
  have l2 := hP.lt (List.mem_of_getElem? hk1)
  generalize ord.getD k 0 = u at *
  generalize ord.getD (k + 1) 0 = v at *
  rw [swp_idx hP h hn.2, swp_idx hP h (by omega)]
  have huv : u ≠ v := fun z => by subst z; omega
  have ha : ord.idxOf e.a = k ↔ e.a = u := ⟨fun z => pap_inj hP hn.2 l1 (by omega), fun z => by rw [z]; exact i1⟩
  have ha1 : ord.idxOf e.a = k + 1 ↔ e.a = v := ⟨fun z => pap_inj hP hn.2 l2 (by omega), fun z => by rw [z]; exact i2⟩
  have hb : ord.idxOf e.b = k ↔ e.b = u := ⟨fun z => pap_inj hP (by omega) l1 (by omega), fun z => by rw [z]; exact i1⟩
  have hb1 : ord.idxOf e.b = k + 1 ↔ e.b = v := ⟨fun z => pap_inj hP (by omega) l2 (by omega), fun z => by rw [z]; exact i2⟩
  have hne : ord.idxOf e.a ≠ ord.idxOf e.b := fun z => by have := pap_inj hP hn.2 (by omega) z; omega
  have hm : (e.a = max u v ∧ e.b = min u v) ↔ ((ord.idxOf e.a = k ∧ ord.idxOf e.b = k + 1) ∨ (ord.idxOf e.a = k + 1 ∧ ord.idxOf e.b = k)) := by
    rw [ha, ha1, hb, hb1]
    omega
  rw [decide_eq_decide, hm]
  unfold swi
  generalize ord.idxOf e.a = i at *
  generalize ord.idxOf e.b = j at *
  clear ha ha1 hb hb1 hm i1 i2 hk hk1
  split <;> split <;> (try split) <;> (try split) <;> omega
theorem alone_iff {ord : List Nat} {log : List Ent} (hP : Pap ord) (hN : Norm ord.length log) (hag : ag ord log = true) : (∀ k, k + 1 < ord.length → ag (swp k ord) log = false) ↔ nba ord log := by
  rw [ag_iff] at hag
  constructor
  · intro h i u v hu hv
    have hi : i + 1 < ord.length := (List.getElem?_eq_some_iff.mp hv).1
    apply Classical.byContradiction
    intro hno
    have hf := h i hi
    have : ag (swp i ord) log = true := ag_iff.mpr fun e he => by
      rw [← hag e he, swp_ag1 hP hi (hN e he)]
      rintro ⟨h1, h2⟩
      rw [List.getD_eq_getElem?_getD, List.getD_eq_getElem?_getD, hu, hv] at h1 h2
      exact hno ⟨e, he, h1, h2⟩
    rw [this] at hf
    cases hf
  · intro h k hk
    cases hc : ag (swp k ord) log with
    | false => rfl
    | true =>
      obtain ⟨e, he, h1, h2⟩ := h k (ord.getD k 0) (ord.getD (k + 1) 0) (by rw [List.getD_eq_getElem?_getD, List.getElem?_eq_getElem (by omega)]; rfl) (by rw [List.getD_eq_getElem?_getD, List.getElem?_eq_getElem hk]; rfl)
      have := (ag_iff.mp hc e he).trans (hag e he).symm
      exact ((swp_ag1 hP hk (hN e he)).mp this ⟨h1, h2⟩).elim
/-- where each two neighbours were asked about, no other paper agrees -/
theorem only_one {ord oth : List Nat} {log : List Ent} (hP : Pap ord) (hQ : Pap oth) (hl : oth.length = ord.length) (hag : ag ord log = true) (hag2 : ag oth log = true) (hnb : nba ord log) : oth = ord := by
  rw [ag_iff] at hag hag2
  have hs : ord.Pairwise fun u v => oth.idxOf u < oth.idxOf v := by
    refine ch_pw' (R := fun u v => oth.idxOf u < oth.idxOf v) (fun a b c h1 h2 => Nat.lt_trans h1 h2) fun i u v hu hv => ?_
    have i1 := hP.idx_at hu
    have i2 := hP.idx_at hv
    have l1 := hP.lt (List.mem_of_getElem? hu)
    have l2 := hP.lt (List.mem_of_getElem? hv)
    have huv : u ≠ v := fun z => by subst z; omega
    obtain ⟨e, he, h1, h2⟩ := hnb i u v hu hv
    have h3 := (hag e he).trans (hag2 e he).symm
    rw [decide_eq_decide, h1, h2] at h3
    have h4 : oth.idxOf u ≠ oth.idxOf v := fun z => huv (pap_inj hQ (by omega) (by omega) z)
    by_cases c : u < v
    · rw [Nat.max_eq_right (by omega), Nat.min_eq_left (by omega)] at h3
      omega
    · rw [Nat.max_eq_left (by omega), Nat.min_eq_right (by omega)] at h3
      omega
  have hs2 : oth.Pairwise fun u v => oth.idxOf u < oth.idxOf v := List.pairwise_iff_getElem.mpr fun i j hi hj hij => by
    rw [hQ.idx_at (List.getElem?_eq_getElem hi), hQ.idx_at (List.getElem?_eq_getElem hj)]
    exact hij
  have hp : oth.Perm ord := by
    have h1 := hQ
    unfold Pap at h1
    rw [hl] at h1
    exact h1.trans hP.symm
  exact List.Perm.eq_of_pairwise (fun a b _ _ x y => by omega) hs2 hs hp
theorem isl_ofat {α : Type} [Enc α] {K : PySem.W.Frag} {H : Hp} : ∀ {vs : List V} {xs : List α}, vs.length = xs.length → (∀ (i : Nat) (v : V) (x : α), vs[i]? = some v → xs[i]? = some x → SH.Is K H v x) → SH.IsL K H vs xs
  | [], [], _, _ => isl_nil
  | [], _ :: _, h, _ => by simp at h
  | _ :: _, [], h, _ => by simp at h
  | v :: vs, x :: xs, h, k => isl_cons (k 0 v x rfl rfl) (isl_ofat (by simpa using h) fun i v' x' hv hx => k (i + 1) v' x' (by rw [List.getElem?_cons_succ]; exact hv) (by rw [List.getElem?_cons_succ]; exact hx))
theorem isl_ent {K : PySem.W.Frag} {H : Hp} {evs : List V} {log : List Ent} (hI : IsL K H evs log) {j : Nat} {x : V} (hx : evs[j]? = some x) : ∃ (e : Ent) (t : Addr), log[j]? = some e ∧ x = .ref t ∧ SqT K H t [.int (e.a : Nat), .int (e.b : Nat), .bl e.c] := by
  obtain ⟨e, he, hIe⟩ := isl_at hI hx
  obtain ⟨ea, eb, ec⟩ := e
  cases hIe with
  | @tup t xs ds hs ha =>
    refine ⟨_, t, he, rfl, ?_⟩
    cases ha with | cons h1 h2 => cases h2 with | cons h3 h4 => cases h4 with | cons h5 h6 => cases h6; cases h1; cases h3; cases h5; exact hs
theorem cut_from1 {ps : List Nat} : cutV (nv ps) (some 1) none = nv (ps.drop 1) := by rw [cut_map]; exact congrArg _ (cutL_from ps 1)
theorem nbs_at {ps : List Nat} {j : Nat} {x y : V} (hx : (nv ps)[j]? = some x) (hy : (nv (ps.drop 1))[j]? = some y) : ∃ u v : Nat, x = .int u ∧ y = .int v ∧ ps[j]? = some u ∧ ps[j + 1]? = some v := by
  obtain ⟨u, hu, rfl⟩ := map_at hx
  obtain ⟨v, hv, rfl⟩ := map_at hy
  rw [List.getElem?_drop] at hv
  exact ⟨u, v, rfl, rfl, hu, by rw [Nat.add_comm]; exact hv⟩
theorem isl_take {K : PySem.W.Frag} {H : Hp} {α : Type} [Enc α] {vs : List V} {xs : List α} {n : Nat} (h : IsL K H vs xs) : IsL K H (vs.take n) (xs.take n) :=
  isl_ofat (by rw [List.length_take, List.length_take, isl_len h]) fun i v x hv hx => by
    have hi : i < n := by have := (List.getElem?_eq_some_iff.mp hv).1; rw [List.length_take] at this; omega
    rw [List.getElem?_take_of_lt hi] at hv hx
    obtain ⟨x', hx', r⟩ := isl_at h hv
    rw [hx] at hx'
    cases hx'
    exact r
theorem isl_drop {K : PySem.W.Frag} {H : Hp} {α : Type} [Enc α] {vs : List V} {xs : List α} {n : Nat} (h : IsL K H vs xs) : IsL K H (vs.drop n) (xs.drop n) :=
  isl_ofat (by rw [List.length_drop, List.length_drop, isl_len h]) fun i v x hv hx => by
    rw [List.getElem?_drop] at hv hx
    obtain ⟨x', hx', r⟩ := isl_at h hv
    rw [hx] at hx'
    cases hx'
    exact r
def sp_agrees (K : PySem.W.Frag) (A : Ad) : Sp := fun vs H Q _ => ∃ (o l : Addr) (ord : List Nat) (evs : List V) (log : List Ent), vs = [.ref o, .ref l] ∧
  (SqL K H o (nv ord) ∧ SqL K H l evs ∧ IsL K H evs log ∧ Pap ord ∧ ord.length ≤ 100000 ∧ Norm ord.length log) ∧ ∀ H', Stp [] H H' → Q (.bl (ag ord log)) H'
theorem ok_agrees {P : Program} {w : World} {K : PySem.W.Frag} {mg : Str → Option Value} {base : Heap} {A : Ad} {f : Addr} {fd : FuncData} (F : Fun K "agrees" "agrees" s_agrees f fd) (T : Txt K mg A) (C_back : SH.Cal P w K mg base CX0 4 "back" [] (sp_back K A)) : FnOk P w K mg base CX0 5 f fd ["paper", "answers"] (sp_agrees K A) := by
  refine F.ok sc_agrees (fun vs H Q E h => by obtain ⟨_, _, _, _, _, rfl, _⟩ := h; rfl) (fun cdv A' outer s H vs Q E hr h => ?_)
  obtain ⟨o, l, ord, evs, log, rfl, ⟨hO, hL, hI, hP, hol, hN⟩, k⟩ := h
  refine ⟨_, (pss_cons (ps_set (i := 2) sc_agrees.nd rfl (Or.inl rfl) (SH.pe_callF C_back hr (by rfl) pass0 (pa_cons (pv 0) pa_nil)))
        (pss_cons (ps_for PassesOwn.never rfl (pi_list (pv 1)) (pg_tup (by rfl) (pgs_cons (pg_name (i := 3) sc_agrees.nd rfl (Or.inl rfl)) (pgs_cons (pg_name (i := 4) sc_agrees.nd rfl (Or.inl rfl)) (pgs_cons (pg_name (i := 5) sc_agrees.nd rfl (Or.inl rfl)) pgs_nil)))) (pss_one (ps_if (pt_cmpR (SH.oNe hr.units) (pe_cmpR (SH.oLt hr.units0) (pe_ix SH.ixA (pv 2) (pv 3) (fun _ _ => rfl)) (pe_ix SH.ixA (pv 2) (pv 4) (fun _ _ => rfl)) (nomark _)) (pv 5) (nomark _)) (pss_one (ps_ret pe_bl)) pss_nil)))
        (pss_one (ps_ret pe_bl)))), ?_⟩
  walk_at "begin"
  walk_at "rd"
  refine ⟨o, ord, rfl, ⟨hO, hol, hP⟩, fun q H1 hq S1 hq1 => ?_⟩
  have hL1 := S1.sql0 hL
  have hI1 := isl_stp S1 hI
  walk_at "rd"
  refine for_it (walk_list (xs := evs)) (fun j σ H' => Stp [] H1 H' ∧ (∀ e ∈ log.take j, decide (ord.idxOf e.a < ord.idxOf e.b) = e.c) ∧ ∃ v3 v4 v5, σ = [some (.ref o), some (.ref l), some (.ref q), v3, v4, v5]) ⟨.refl _ _, by simp, _, _, _, rfl⟩ (fun _ _ _ _ z => z.1.sql0 hL1) ?_ ?_
  · rintro j x σ H2 H3 hj ⟨S, hag, v3, v4, v5, rfl⟩ ⟨rfl, hx⟩
    obtain ⟨e, t, he, rfl, ht⟩ := isl_ent hI1 hx
    obtain ⟨h1, h2⟩ := hN e (List.mem_of_getElem? he)
    have ht2 := S.sqtM ht
    have hq2 := S.keep0 hq1
    walk_at "rd"
    refine v_ixLn (n := e.a) (v := .int (ord.idxOf e.a : Nat)) (SqL.of hq2) rfl (by unfold nv; rw [List.getElem?_map, inv_at (by omega)]; rfl) ?_
    walk_at "rd"
    refine v_ixLn (n := e.b) (v := .int (ord.idxOf e.b : Nat)) (SqL.of hq2) rfl (by unfold nv; rw [List.getElem?_map, inv_at (by omega)]; rfl) ?_
    walk_at "rd"
    rw [show decide (((ord.idxOf e.a : Nat) : Int) < (ord.idxOf e.b : Nat)) = decide (ord.idxOf e.a < ord.idxOf e.b) from decide_eq_decide.mpr (by omega)]
    refine r_nw (fun hc => ?_) fun hc => ?_
    · walk_at "rd"
      have : ag ord log = false := by
        cases ha : ag ord log with
        | false => rfl
        | true => exact (hc (ag_iff.mp ha e (List.mem_of_getElem? he))).elim
      rw [← this]
      exact k _ (S1.trans S)
    · walk_at "rd"
      refine ⟨S, fun e' he' => ?_, _, _, _, rfl⟩
      rw [List.take_succ, he] at he'
      rcases List.mem_append.mp he' with he' | he'
      · exact hag e' he'
      · simp at he'; subst he'; exact hc
  · rintro σ H2 ⟨S, hag, v3, v4, v5, rfl⟩
    rw [List.take_of_length_le (by have := isl_len hI1; omega)] at hag
    walk_at "rd"
    have : ag ord log = true := ag_iff.mpr hag
    rw [← this]
    exact k _ (S1.trans S)
def sp_shows (K : PySem.W.Frag) (A : Ad) : Sp := fun vs H Q _ => ∃ (o l : Addr) (ord : List Nat) (evs : List V) (log : List Ent), vs = [.ref o, .ref l] ∧
  (SqL K H o (nv ord) ∧ SqL K H l evs ∧ IsL K H evs log ∧ Pap ord ∧ ord.length ≤ 100000 ∧ log.length ≤ 200000 ∧ Norm ord.length log) ∧ ∀ H' b, (b = true ↔ nba ord log ∧ ag ord log = true) → Stp [] H H' → Q (.bl b) H'
theorem ok_shows {P : Program} {w : World} {K : PySem.W.Frag} {mg : Str → Option Value} {base : Heap} {A : Ad} {f : Addr} {fd : FuncData} (F : Fun K "shows" "shows" s_shows f fd) (T : Txt K mg A) (C_agrees : SH.Cal P w K mg base CX0 5 "agrees" [] (sp_agrees K A)) : FnOk P w K mg base CX0 6 f fd ["paper", "answers"] (sp_shows K A) := by
  refine F.ok sc_shows (fun vs H Q E h => by obtain ⟨_, _, _, _, _, rfl, _⟩ := h; rfl) (fun cdv A' outer s H vs Q E hr h => ?_)
  obtain ⟨o, l, ord, evs, log, rfl, ⟨hO, hL, hI, hP, hol, hll, hN⟩, k⟩ := h
  refine ⟨_, (pss_cons (ps_set (i := 2) sc_shows.nd rfl (Or.inl rfl) pe_dnewT)
        (pss_cons (ps_for PassesOwn.never rfl (pi_list (pv 1)) (pg_tup (by rfl) (pgs_cons (pg_name (i := 3) sc_shows.nd rfl (Or.inl rfl)) (pgs_cons (pg_name (i := 4) sc_shows.nd rfl (Or.inl rfl)) (pgs_cons (pg_name (i := 5) sc_shows.nd rfl (Or.inl rfl)) pgs_nil)))) (pss_one (ps_dput (hu_of hr) (pv 2) (pe_tup (pa_cons (pv 3) (pa_cons (pv 4) pa_nil))) (pv 5) rfl)))
        (pss_cons (ps_for PassesOwn.never rfl (pi_zip (by rfl) T.z_zip (pa_cons (pv 0) (pa_cons (pe_slice sl_list (pv 0) (po_some pe_int) po_none) pa_nil))) (pg_tup (by rfl) (pgs_cons (pg_name (i := 6) sc_shows.nd rfl (Or.inl rfl)) (pgs_cons (pg_name (i := 7) sc_shows.nd rfl (Or.inl rfl)) pgs_nil))) (pss_one (ps_if (pt_cmp (pc_dnotin (hu_of hr) (pe_tup (pa_cons (pe_callB (SH.cMax2 rfl) (by rfl) T.z_max (by decide +kernel) (pa_cons (pv 6) (pa_cons (pv 7) pa_nil))) (pa_cons (pe_callB (SH.cMin2 rfl) (by rfl) T.z_min (by decide +kernel) (pa_cons (pv 6) (pa_cons (pv 7) pa_nil))) pa_nil))) (pv 2)) (by rfl)) (pss_one (ps_ret pe_bl)) pss_nil)))
        (pss_one (ps_ret (SH.pe_callF C_agrees hr (by rfl) pass0 (pa_cons (pv 0) (pa_cons (pv 1) pa_nil)))))))), ?_⟩
  walk_at "begin"
  have hel := isl_len hI
  walk_at "rd"
  intro D hD
  walk_at "rd"
  refine for_it (walk_list (xs := evs)) (fun j σ H' => Stp [] H H' ∧ H' D = some (.dT (kn (log.take j))) ∧ ∃ v3 v4 v5, σ = [some (.ref o), some (.ref l), some (.ref D), v3, v4, v5, none, none]) ⟨(Stp.refl _ _).new hD, upd_same, _, _, _, rfl⟩ (fun _ _ _ _ z => z.1.sql0 hL) ?_ ?_
  · rintro j x σ H1 H2 hj ⟨S, hDj, v3, v4, v5, rfl⟩ ⟨rfl, hx⟩
    obtain ⟨e, t, he, rfl, ht⟩ := isl_ent hI hx
    have ht2 := S.sqtM ht
    walk_at "rd"
    intro t2 ht2'
    refine v_dputT (ks := pk e.a e.b) (upd_old hDj ht2') upd_same (Nat.lt_of_le_of_lt (kn_len _) (by rw [List.length_take]; omega)) ?_
    walk_at "rd"
    refine ⟨(S.new ht2').putN hD, ?_, _, _, _, rfl⟩
    rw [upd_same, List.take_succ, he]
    exact congrArg (fun z => some (HO.dT z)) (by show _ = kn (log.take j ++ [e]); exact kn_app.symm)
  rintro σ H1 ⟨S, hD1, v3, v4, v5, rfl⟩
  rw [List.take_of_length_le (by omega)] at hD1
  have hO1 := S.sql0 hO
  walk_at "rd"
  intro q1 hq1
  rw [cut_from1]
  have S1 := S.new (o := .lst (nv (ord.drop 1))) hq1
  have hq2 := upd_same (H := H1) (a := q1) (o := .lst (nv (ord.drop 1)))
  have hD2 := upd_old (u := .lst (nv (ord.drop 1))) hD1 hq1
  have hO2 := S1.sql0 hO
  generalize upd H1 q1 (.lst (nv (ord.drop 1))) = H2 at S1 hO2 hq2 hD2 ⊢
  clear S hO1 hq1 hD1
  walk_at "rd"
  refine for_it (walk_zip rfl) (fun j σ H' => Stp [] H2 H' ∧ (∀ (i u v : Nat), i < j → ord[i]? = some u → ord[i + 1]? = some v → ∃ e ∈ log, e.a = max u v ∧ e.b = min u v) ∧ ∃ v3 v4 v5 v6 v7, σ = [some (.ref o), some (.ref l), some (.ref D), v3, v4, v5, v6, v7]) ⟨.refl _ _, fun i u v h => by omega, _, _, _, _, _, rfl⟩ (fun _ _ _ _ z => ⟨z.1.sql0 hO2, z.1.sql0 (SqL.of hq2)⟩) ?_ ?_
  · rintro j x σ H3 H4 hj ⟨S, hnb, v3, v4, v5, v6, v7, rfl⟩ ⟨T0, x0, y0, rfl, hT0, rfl, hx0, hy0⟩
    obtain ⟨u, v, rfl, rfl, hu, hv⟩ := nbs_at hx0 hy0
    have S3 := S.new (o := .tup [.int u, .int v]) hT0
    have hT := upd_same (H := H3) (a := T0) (o := .tup [.int u, .int v])
    generalize upd H3 T0 (.tup [.int u, .int v]) = H4 at S3 hT ⊢
    clear S hT0
    have hD3 := S3.keep0 hD2
    walk_at "rd"
    rw [max_v, min_v]
    intro t2 ht2'
    walk_at "rd"
    refine v_dnotin (ks := pk (max u v) (min u v)) (upd_old hD3 ht2') upd_same ?_
    have hks := kn_some log (max u v) (min u v)
    cases hc : (valV (kn log) (pk (max u v) (min u v))).isSome with
    | true =>
      walk_at "rd"
      refine ⟨S3.new ht2', fun i u' v' hi hu' hv' => ?_, _, _, _, _, _, rfl⟩
      by_cases e : i = j
      · subst e
        rw [hu] at hu'; rw [hv] at hv'
        cases hu'; cases hv'
        exact hks.mp hc
      · exact hnb i u' v' (by omega) hu' hv'
    | false =>
      walk_at "rd"
      refine k _ false ⟨fun z => (by cases z), fun z => ?_⟩ (S1.trans (S3.new ht2'))
      have := hks.mpr (z.1 j u v hu hv)
      rw [hc] at this
      cases this
  · rintro σ H3 ⟨S, hnb, v3, v4, v5, v6, v7, rfl⟩
    have S3 := S1.trans S
    have hO3 := S3.sql0 hO
    have hL3 := S3.sql0 hL
    have hI3 := isl_stp S3 hI
    clear S1 S
    have hn : nba ord log := fun i u v hu hv => by
      refine hnb i u v ?_ hu hv
      have := (List.getElem?_eq_some_iff.mp hv).1
      simp only [nv, List.length_map, List.length_drop]
      omega
    walk_at "rd"
    exact ⟨o, l, ord, evs, log, rfl, ⟨hO3, hL3, hI3, hP, hol, hN⟩, fun H' S4 => k _ _ ⟨fun z => ⟨hn, z⟩, fun z => z.2⟩ (S3.trans S4)⟩
theorem r_J {t : TS} {D : Ends} {σ : L2.St} {H : Hp} (P : L2.St → Hp → Prop) (hk : ∀ σ' H', P σ' H' → D.nx σ' H') (h : ∀ N : L2.St → Hp → Prop, (∀ σ' H', P σ' H' → N σ' H') → t { D with nx := N } σ H) : t D σ H := h D.nx hk
/-- a row of pairs (key, place) -/
def RowP (H : Hp) (row : List V) (ks : List Int) : Prop := row.length = ks.length ∧ ∀ (i : Nat) (v : V), row[i]? = some v → ∃ (t : Addr), v = .ref t ∧ H t = some (.tup [.int (getE ks i), .int (i : Nat)])
theorem RowP.stp {M : List Addr} {H H' : Hp} {row : List V} {ks : List Int} (h : RowP H row ks) (S : Stp M H H') : RowP H' row ks :=
  ⟨h.1, fun i v e => by obtain ⟨t, h1, h2⟩ := h.2 i v e; exact ⟨t, h1, S.tup h2⟩⟩
/-! ### orders by keys -/
/-- o stands ahead of p -/
def Ahd (ks : List Int) (o p : Nat) : Prop := getE ks o < getE ks p ∨ (getE ks o = getE ks p ∧ o < p)
instance (ks : List Int) (o p : Nat) : Decidable (Ahd ks o p) := inferInstanceAs (Decidable (_ ∨ _))
theorem ahd_told {ks : List Int} {o p : Nat} (h : o ≠ p) : (decide (getE ks (max o p) < getE ks (min o p)) = decide (p < o)) ↔ Ahd ks o p := by
  unfold Ahd
  by_cases e : p < o
  · rw [Nat.max_eq_left (by omega), Nat.min_eq_right (by omega), decide_eq_true e]
    simp only [decide_eq_true_eq]
    omega
  · rw [Nat.max_eq_right (by omega), Nat.min_eq_left (by omega), decide_eq_false e]
    simp only [decide_eq_false_iff_not]
    omega
theorem Ahd.trans {ks : List Int} {a b c : Nat} (h : Ahd ks a b) (k : Ahd ks b c) : Ahd ks a c := by unfold Ahd at *; omega
theorem Ahd.asym {ks : List Int} {a b : Nat} (h : Ahd ks a b) : ¬ Ahd ks b a := by unfold Ahd at *; omega
theorem Ahd.tot {ks : List Int} {a b : Nat} (h : a ≠ b) : Ahd ks a b ∨ Ahd ks b a := by unfold Ahd; omega
theorem not_eq_ite {a b : Bool} (h : a = !b) : ¬ a = b := by cases a <;> cases b <;> simp_all
/-! ### odds and ends of laws with pairs -/
theorem tabs_stp {T : List NTab} {H H' : Hp} (h : TabsN T H) (S : Stp [] H H') : TabsN T H' := fun p hp => (h p hp).ext fun b o e => S.keep0 e
theorem ext_lst {H H' : Hp} {b : Addr} {xs : List V} (e : ExtN H H') (h : H b = some (.lst xs)) : H' b = some (.lst xs) := e _ _ h (by intro ps z; cases z)
theorem ext_tup {H H' : Hp} {b : Addr} {xs : List V} (e : ExtN H H') (h : H b = some (.tup xs)) : H' b = some (.tup xs) := e _ _ h (by intro ps z; cases z)
theorem RowP.ext {H H' : Hp} {row : List V} {ks : List Int} (h : RowP H row ks) (e : ExtN H H') : RowP H' row ks := ⟨h.1, fun i v z => by obtain ⟨t, h1, h2⟩ := h.2 i v z; exact ⟨t, h1, ext_tup e h2⟩⟩
def kOf (H : Hp) (x : V) : Int × Int := match x with
  | .ref t => (match H t with
    | some (.tup [.int a, .int b]) => (a, b)
    | _ => (0, 0))
  | _ => (0, 0)
theorem kOf_at {H : Hp} {t : Addr} {a b : Int} (h : H t = some (.tup [.int a, .int b])) : kOf H (.ref t) = (a, b) := by simp [kOf, h]
theorem lexB_false {a b c d : Int} (h : SrtO.lexB (a, b) (c, d) = false) : c < a ∨ (c = a ∧ d ≤ b) := by
  have : ¬ (a < c ∨ (a = c ∧ b < d)) := fun z => by
    rw [SrtO.lexB_iff.mpr z] at h
    cases h
  omega
/-- an order that was sorted: what stands ahead of a place is what stands ahead in it -/
theorem sorted_mono {ks : List Int} {H : Hp} {zs : List V} {ord : List Nat} {place : Nat} (hs : SrtO.Srtd (ltP (kOf H)) zs) (ho : ∀ (i o : Nat), ord[i]? = some o → ∃ t, zs[i]? = some (.ref t) ∧ H t = some (.tup [.int (getE ks o), .int (o : Nat)])) :
    ∀ (i j : Nat) (a b : Nat), i < j → ord[i]? = some a → ord[j]? = some b → Ahd ks b place → Ahd ks a place := by
  intro i j a b hij ha hb h
  obtain ⟨t, e1, h1⟩ := ho i a ha
  obtain ⟨u, e2, h2⟩ := ho j b hb
  obtain ⟨hi, e1⟩ := List.getElem?_eq_some_iff.mp e1
  obtain ⟨hj, e2⟩ := List.getElem?_eq_some_iff.mp e2
  have := List.pairwise_iff_getElem.mp hs i j hi hj hij
  rw [e1, e2] at this
  unfold ltP at this
  rw [kOf_at h1, kOf_at h2] at this
  have := lexB_false this
  unfold Ahd at h ⊢
  omega
theorem lexLt2 {a b c d : Int} : HT.lexLt [a, b] [c, d] = decide (a < c ∨ (a = c ∧ b < d)) := by
  simp only [HT.lexLt]
  by_cases e : a = c
  · rw [if_pos e]
    by_cases e2 : b = d
    · rw [if_pos e2]; simp [e, e2]
    · rw [if_neg e2]; simp [e]
  · rw [if_neg e]; simp [e]
theorem rd_extN {H H' : Hp} {a : Addr} {u : HO} (s : ExtN H H') (h : Rd H a u) (n : ∀ ps, u ≠ .tbl ps) : Rd H' a u := by
  rcases h with h | ⟨o, h⟩
  · exact .inl (s _ _ h n)
  · exact .inr ⟨o, s _ _ h (by intro ps z; cases z)⟩
theorem sql_extN {K : PySem.W.Frag} {H H' : Hp} {a : Addr} {xs : List V} (s : ExtN H H') (h : SqL K H a xs) : SqL K H' a xs := by
  rcases h with h | h
  · exact .inl (rd_extN s h (by intro ps z; cases z))
  · exact .inr h
theorem sqt_extN {K : PySem.W.Frag} {H H' : Hp} {a : Addr} {xs : List V} (s : ExtN H H') (h : SqT K H a xs) : SqT K H' a xs := by
  rcases h with h | h
  · exact .inl (rd_extN s h (by intro ps z; cases z))
  · exact .inr h
mutual
theorem dp_extN {K : PySem.W.Frag} {H H' : Hp} (S : ExtN H H') : ∀ (d : PyData) (v : V), Dp K H v d → Dp K H' v d
  | .none, _, h => by cases h; exact .non
  | .bool _, _, h => by cases h; exact .bl _
  | .int _, _, h => by cases h; exact .int _
  | .str _, _, h => by cases h; exact .str _
  | .list ds, _, h => by
    cases h with
    | lst hs ha => exact .lst (sql_extN S hs) (dp_extNs S ds _ ha)
  | .tuple ds, _, h => by
    cases h with
    | tup hs ha => exact .tup (sqt_extN S hs) (dp_extNs S ds _ ha)
  | .dict _, _, h => by cases h
theorem dp_extNs {K : PySem.W.Frag} {H H' : Hp} (S : ExtN H H') : ∀ (ds : List PyData) (vs : List V), DpAll K H vs ds → DpAll K H' vs ds
  | [], _, h => by cases h; exact .nil
  | d :: ds, _, h => by
    cases h with
    | cons h1 h2 => exact .cons (dp_extN S d _ h1) (dp_extNs S ds _ h2)
end
theorem isl_extN {K : PySem.W.Frag} {H H' : Hp} {α : Type} [Enc α] {vs : List V} {xs : List α} (S : ExtN H H') (h : IsL K H vs xs) : IsL K H' vs xs := dp_extNs S _ _ h
theorem sql_or {K : PySem.W.Frag} {H : Hp} {a : Addr} {xs : List V} (h : SqL K H a xs) : ∃ ax : List Addr, (∀ x ∈ ax, H x ≠ none) ∧ (a ∈ ax ∨ ∀ H', SqL K H' a xs) := by
  rcases h with (h | ⟨o, h⟩) | h
  · exact ⟨[a], fun x hx => by rw [List.mem_singleton] at hx; subst hx; rw [h]; simp, .inl (by simp)⟩
  · exact ⟨[a], fun x hx => by rw [List.mem_singleton] at hx; subst hx; rw [h]; simp, .inl (by simp)⟩
  · exact ⟨[], by simp, .inr fun H' => .inr h⟩
/-! ### a row of pairs, sorted: its places in order -/
/-- ord is all places, each one ahead of the next ones -/
structure OrdOf (ks : List Int) (ord : List Nat) : Prop where
  perm : ord.Perm (List.range ks.length)
  pw : ord.Pairwise (Ahd ks)
theorem OrdOf.len {ks : List Int} {ord : List Nat} (h : OrdOf ks ord) : ord.length = ks.length := by simpa using h.perm.length_eq
theorem OrdOf.lt {ks : List Int} {ord : List Nat} (h : OrdOf ks ord) {o : Nat} (ho : o ∈ ord) : o < ks.length := by simpa using h.perm.mem_iff.mp ho
theorem OrdOf.nodup {ks : List Int} {ord : List Nat} (h : OrdOf ks ord) : ord.Nodup := h.perm.nodup_iff.mpr List.nodup_range
theorem sorted_ord {ks : List Int} {H : Hp} {row zs : List V} {ord : List Nat} (hr : RowP H row ks) (hs : SrtO.Srtd (ltP (kOf H)) zs) (hp : zs.Perm row) (hl : ord.length = zs.length)
    (ho : ∀ (i o : Nat), ord[i]? = some o → ∃ t, zs[i]? = some (.ref t) ∧ H t = some (.tup [.int (getE ks o), .int (o : Nat)])) : OrdOf ks ord := by
  let g : V → Nat := fun x => (kOf H x).2.toNat
  have e1 : ord = zs.map g := by
    apply List.ext_getElem? ; intro i
    by_cases hi : i < ord.length
    · obtain ⟨t, h1, h2⟩ := ho i _ (List.getElem?_eq_getElem hi)
      rw [List.getElem?_eq_getElem hi, List.getElem?_map, h1, Option.map_some]
      show some _ = some (kOf H (.ref t)).2.toNat
      rw [kOf_at h2]
      simp
    · rw [List.getElem?_eq_none (by omega), List.getElem?_eq_none (by rw [List.length_map]; omega)]
  have e2 : row.map g = List.range ks.length := by
    apply List.ext_getElem? ; intro i
    by_cases hi : i < row.length
    · obtain ⟨t, h1, h2⟩ := hr.2 i _ (List.getElem?_eq_getElem hi)
      rw [List.getElem?_map, List.getElem?_eq_getElem hi, Option.map_some, h1, List.getElem?_range (by rw [← hr.1]; exact hi)]
      show some (kOf H (.ref t)).2.toNat = some i
      rw [kOf_at h2]
      simp
    · rw [List.getElem?_eq_none (by rw [List.length_map]; omega), List.getElem?_eq_none (by rw [List.length_range, ← hr.1]; omega)]
  have hpm : ord.Perm (List.range ks.length) := by rw [e1, ← e2]; exact hp.map g
  refine ⟨hpm, ?_⟩
  have hnd : ord.Nodup := hpm.nodup_iff.mpr List.nodup_range
  refine List.pairwise_iff_getElem.mpr fun i j hi hj hij => ?_
  obtain ⟨t, h1, h2⟩ := ho i _ (List.getElem?_eq_getElem hi)
  obtain ⟨u, h3, h4⟩ := ho j _ (List.getElem?_eq_getElem hj)
  obtain ⟨hi', h1⟩ := List.getElem?_eq_some_iff.mp h1
  obtain ⟨hj', h3⟩ := List.getElem?_eq_some_iff.mp h3
  have := List.pairwise_iff_getElem.mp hs i j hi' hj' hij
  rw [h1, h3] at this
  unfold ltP at this
  rw [kOf_at h2, kOf_at h4] at this
  have hb := lexB_false this
  have hne : ord[i] ≠ ord[j] := List.pairwise_iff_getElem.mp hnd i j hi hj hij
  unfold Ahd
  omega
theorem OrdOf.others {ks : List Int} {ord : List Nat} {spot place : Nat} (h : OrdOf ks ord) (hp : ord[spot]? = some place) :
    (ord.take spot ++ ord.drop (spot + 1)).length + 1 = ks.length ∧ (∀ o ∈ ord.take spot ++ ord.drop (spot + 1), o < ks.length ∧ o ≠ place) ∧ (∀ (i o : Nat), (ord.take spot ++ ord.drop (spot + 1))[i]? = some o → (Ahd ks o place ↔ i < spot)) := by
  have hl := h.len
  obtain ⟨hs, hp'⟩ := List.getElem?_eq_some_iff.mp hp
  have hlen : (ord.take spot ++ ord.drop (spot + 1)).length + 1 = ks.length := by rw [List.length_append, List.length_take, List.length_drop]; omega
  have key : ∀ (i o : Nat), (ord.take spot ++ ord.drop (spot + 1))[i]? = some o → (i < spot ∧ ord[i]? = some o) ∨ (spot ≤ i ∧ ord[i + 1]? = some o) := fun i o e => by
    by_cases hi : i < spot
    · rw [List.getElem?_append_left (by rw [List.length_take]; omega), List.getElem?_take_of_lt hi] at e
      exact .inl ⟨hi, e⟩
    · rw [List.getElem?_append_right (by rw [List.length_take]; omega), List.length_take, Nat.min_eq_left (by omega), List.getElem?_drop] at e
      exact .inr ⟨by omega, by rw [← e]; congr 1; omega⟩
  have key2 : ∀ (i o : Nat), (ord.take spot ++ ord.drop (spot + 1))[i]? = some o → (i < spot ∧ Ahd ks o place) ∨ (spot ≤ i ∧ Ahd ks place o) := fun i o e => by
    rcases key i o e with ⟨a, b⟩ | ⟨a, b⟩
    · obtain ⟨hi, b'⟩ := List.getElem?_eq_some_iff.mp b
      have := List.pairwise_iff_getElem.mp h.pw i spot hi hs a
      rw [b', hp'] at this
      exact .inl ⟨a, this⟩
    · obtain ⟨hi, b'⟩ := List.getElem?_eq_some_iff.mp b
      have := List.pairwise_iff_getElem.mp h.pw spot (i + 1) hs hi (by omega)
      rw [b', hp'] at this
      exact .inr ⟨a, this⟩
  refine ⟨hlen, fun o ho => ?_, fun i o e => ?_⟩
  · obtain ⟨i, hi, e⟩ := List.getElem_of_mem ho
    have e' : (ord.take spot ++ ord.drop (spot + 1))[i]? = some o := by rw [← e]; exact List.getElem?_eq_getElem hi
    refine ⟨?_, ?_⟩
    · rcases key i o e' with ⟨_, b⟩ | ⟨_, b⟩
      · exact h.lt (List.mem_of_getElem? b)
      · exact h.lt (List.mem_of_getElem? b)
    · rintro rfl
      rcases key2 i o e' with ⟨_, b⟩ | ⟨_, b⟩
      · exact b.asym b
      · exact b.asym b
  · rcases key2 i o e with ⟨a, b⟩ | ⟨a, b⟩
    · exact ⟨fun _ => a, fun _ => b⟩
    · exact ⟨fun z => (b.asym z).elim, fun z => by omega⟩
theorem RowX.app {H : Hp} {rvs : List V} {X : List (List Int)} {t : Addr} {xs : List Int} (h : RowX H rvs X) (ht : H t = some (.tup (xs.map V.int))) (hl : xs.length = wX) : RowX H (rvs ++ [.ref t]) (X ++ [xs]) := by
  refine ⟨by simp [h.1], fun i v e => ?_⟩
  by_cases hi : i < rvs.length
  · rw [List.getElem?_append_left hi] at e
    obtain ⟨x, ys, a, b, c⟩ := h.2 i v e
    exact ⟨x, ys, a, by rw [List.getElem?_append_left (by rw [← h.1]; exact hi)]; exact b, c⟩
  · rw [List.getElem?_append_right (by omega)] at e
    have hz : i = rvs.length := by
      have := (List.getElem?_eq_some_iff.mp e).1
      simp at this; omega
    subst hz
    simp at e
    exact ⟨t, xs, e.symm, by rw [h.1, List.getElem?_append_right (Nat.le_refl _), Nat.sub_self]; rfl, ht, hl⟩
theorem isl_pair {K : PySem.W.Frag} {H : Hp} {pvs : List V} {ps : List (Nat × Nat)} (hI : IsL K H pvs ps) {j : Nat} {x : V} (hx : pvs[j]? = some x) : ∃ (p q : Nat) (t : Addr), ps[j]? = some (p, q) ∧ x = .ref t ∧ SqT K H t [.int p, .int q] := by
  obtain ⟨⟨p, q⟩, e, hd⟩ := isl_at hI hx
  cases hd with
  | tup h k =>
    cases k with
    | cons h1 k =>
      cases k with
      | cons h2 k =>
        cases k
        cases h1
        cases h2
        exact ⟨p, q, _, e, rfl, h⟩
def Prs (n : Nat) (ps : List (Nat × Nat)) : Prop := ∀ x ∈ ps, x.1 < n ∧ x.2 < n ∧ x.1 ≠ x.2
def sp__law_pairs (K : PySem.W.Frag) (A : Ad) : Sp := fun vs H Q _ => ∃ (c : Addr) (ns : List Int) (many : Nat), vs = [.ref c, .int many] ∧ (SqL K H c (ns.map V.int) ∧ ns.length ≤ 300 ∧ many ≤ 1000) ∧
  ∀ q H' pvs ps, H q = none → Stp [] H H' → H' q = some (.lst pvs) → IsL K H' pvs ps → Prs many ps → ps.length ≤ ns.length → Q (.ref q) H'
theorem ok__law_pairs {P : Program} {w : World} {K : PySem.W.Frag} {mg : Str → Option Value} {base : Heap} {A : Ad} {f : Addr} {fd : FuncData} (F : Fun K "_law_pairs" "_law_pairs" s__law_pairs f fd) (T : Txt K mg A)  : FnOk P w K mg base CX0 1 f fd ["_law_cells", "_law_many"] (sp__law_pairs K A) := by
  refine F.ok sc__law_pairs (fun vs H Q E h => by obtain ⟨_, _, _, rfl, _⟩ := h; rfl) (fun cdv A' outer s H vs Q E hr h => ?_)
  obtain ⟨c, ns, many, rfl, ⟨hS, hlen, hmany⟩, k⟩ := h
  refine ⟨_, (pss_cons (ps_set (i := 2) sc__law_pairs.nd rfl (Or.inl rfl) (pe_lst pa_nil))
        (pss_cons (ps_for PassesOwn.never rfl (pi_list (pv 0)) (pg_name (i := 3) sc__law_pairs.nd rfl (Or.inl rfl)) (pss_one (ps_if (PW.pt (pw_and (pt_cmpR SH.oGt (pv 1) pe_int (nomark _)) (pw_and1 (pt_cmpR (SH.oNe hr.units) (pe_op SH.oMod (pv 3) (pv 1)) (pe_op SH.oMod (pe_op SH.oDiv (pv 3) (pv 1)) (pv 1)) (nomark _))))) (pss_one (ps_expr (pe_bm PySem.F.plainAttrs_list PySem.F.slot_list_append PySem.F.type_list_append mt_append (pv 2) (pa_cons (pe_tup (pa_cons (pe_op SH.oMod (pv 3) (pv 1)) (pa_cons (pe_op SH.oMod (pe_op SH.oDiv (pv 3) (pv 1)) (pv 1)) pa_nil))) pa_nil)))) pss_nil)))
        (pss_one (ps_ret (pv 2))))), ?_⟩
  walk_at "begin"
  walk_at "rd"
  intro D hD
  walk_at "rd"
  refine for_it (walk_list (xs := ns.map V.int)) (fun j σ H' => (Stp [] H H' ∧ ∃ (pvs : List V) (ps : List (Nat × Nat)), H' D = some (.lst pvs) ∧ IsL K H' pvs ps ∧ Prs many ps ∧ ps.length ≤ j) ∧ ∃ v3, σ = [some (.ref c), some (.int many), some (.ref D), v3]) ⟨⟨(Stp.refl _ _).new hD, [], [], upd_same, isl_nil, (fun x hx => by cases hx), Nat.le_refl _⟩, _, rfl⟩ (fun _ _ _ _ z => z.1.1.sql0 hS) ?_ ?_
  · rintro j x σ H1 H2 hj ⟨⟨S, pvs, ps, hL, hI, hP, hl⟩, v3, rfl⟩ ⟨rfl, hx⟩
    rw [List.length_map] at hj
    rw [List.getElem?_map] at hx
    obtain ⟨cell, -, rfl⟩ := Option.map_eq_some_iff.mp hx
    have hpl := isl_len hI
    walk_at "rd"
    refine r_w (fun hc => ?_) fun hc => ?_
    · have p0 := Int.emod_nonneg cell (show (many : Int) ≠ 0 by omega)
      have p1 := Int.emod_lt_of_pos cell (show (0 : Int) < (many : Int) by omega)
      have q0 := Int.emod_nonneg (cell / (many : Int)) (show (many : Int) ≠ 0 by omega)
      have q1 := Int.emod_lt_of_pos (cell / (many : Int)) (show (0 : Int) < (many : Int) by omega)
      walk_at "rd"
      refine r_nw (fun hne => ?_) fun he => ?_
      · obtain ⟨p, hp⟩ : ∃ p : Nat, cell % (many : Int) = p := ⟨(cell % (many : Int)).toNat, by omega⟩
        obtain ⟨q, hq⟩ : ∃ q : Nat, cell / (many : Int) % (many : Int) = q := ⟨(cell / (many : Int) % (many : Int)).toNat, by omega⟩
        rw [hp, hq] at hne
        rw [hp] at p0 p1
        rw [hq] at q0 q1
        walk_at "rd"
        rw [hp, hq]
        intro t ht
        walk_at "rd"
        refine v_app (upd_old hL ht) (by omega) ?_
        have ntD : t ≠ D := (ne_of_none hL ht).symm
        have S' : Stp [D] H2 (upd (upd H2 t (.tup [.int (p : Nat), .int (q : Nat)])) D (.lst (pvs ++ [.ref t]))) := ((Stp.refl [D] H2).new ht).putL (by simp) (upd_old hL ht)
        refine ⟨⟨(S.new ht).putN hD, pvs ++ [.ref t], ps ++ [(p, q)], upd_same, isl_app (isl_stpM S' hI) (isl_cons (is_pr (SqT.of (by rw [upd_ne ntD, upd_same])) is_nat is_nat) isl_nil), fun x hx => ?_, by simp; omega⟩, _, rfl⟩
        rcases List.mem_append.mp hx with hx | hx
        · exact hP x hx
        · rw [List.mem_singleton] at hx
          subst hx
          exact ⟨by show p < many; omega, by show q < many; omega, by show p ≠ q; omega⟩
      · walk_at "rd"
        exact ⟨⟨S, pvs, ps, hL, hI, hP, by omega⟩, _, rfl⟩
    · refine r_F ?_
      walk_at "rd"
      exact ⟨⟨S, pvs, ps, hL, hI, hP, by omega⟩, _, rfl⟩
  · rintro σ H1 ⟨⟨S, pvs, ps, hL, hI, hP, hl⟩, v3, rfl⟩
    rw [List.length_map] at hl
    walk_at "rd"
    exact k D _ pvs ps hD S hL hI hP hl
def sp__law_reserve (K : PySem.W.Frag) (A : Ad) : Sp := fun vs H Q _ => ∃ (c : Int) (i : Nat), vs = [.int c, .int i] ∧ i ≤ 1000 ∧ ∀ r : Int, 1 ≤ r → Q (.int r) H
theorem ok__law_reserve {P : Program} {w : World} {K : PySem.W.Frag} {mg : Str → Option Value} {base : Heap} {A : Ad} {f : Addr} {fd : FuncData} (F : Fun K "_law_reserve" "_law_reserve" s__law_reserve f fd) (T : Txt K mg A)  : FnOk P w K mg base CX0 1 f fd ["_law_cell", "_law_k"] (sp__law_reserve K A) := by
  refine F.ok sc__law_reserve (fun vs H Q E h => by obtain ⟨_, _, rfl, _⟩ := h; rfl) (fun cdv A' outer s H vs Q E hr h => ?_)
  obtain ⟨c, i, rfl, hi, k⟩ := h
  refine ⟨_, (pss_cons (ps_set (i := 2) sc__law_reserve.nd rfl (Or.inl rfl) (pe_op SH.oMod (pe_op SH.oAdd (pe_op SH.oMod (pv 0) pe_int) (pe_op SH.oMul pe_int (pe_op SH.oAdd (pv 1) pe_int))) pe_int))
        (pss_one (ps_ret (pe_op SH.oAdd pe_int (pe_op SH.oMod (pe_op SH.oAdd (pe_op SH.oAdd (pe_op SH.oMul (pv 2) (pv 2)) (pe_op SH.oMul pe_int (pv 2))) (pe_op SH.oMul pe_int (pv 1))) pe_int))))), ?_⟩
  walk_at "begin"
  walk_at "rd"
  have c0 := Int.emod_nonneg c (show (2147483629 : Int) ≠ 0 by decide)
  have c1 := Int.emod_lt_of_pos c (show (0 : Int) < 2147483629 by decide)
  generalize hw : (c % 2147483629 + 48271 * ((i : Int) + 1)) % 2147483629 = n
  have w0 := Int.emod_nonneg (c % 2147483629 + 48271 * ((i : Int) + 1)) (show (2147483629 : Int) ≠ 0 by decide)
  have w1 := Int.emod_lt_of_pos (c % 2147483629 + 48271 * ((i : Int) + 1)) (show (0 : Int) < 2147483629 by decide)
  rw [hw] at w0 w1
  clear hw
  walk_at "rd"
  have z0 := Int.emod_nonneg (n * n + 48271 * n + 7 * (i : Int)) (show (2147483629 : Int) ≠ 0 by decide)
  exact k _ (by omega)
def sp__law_signed (K : PySem.W.Frag) (A : Ad) : Sp := fun vs H Q _ => ∃ (c : Int), vs = [.int c] ∧ ∀ n : Int, Q (.int n) H
theorem ok__law_signed {P : Program} {w : World} {K : PySem.W.Frag} {mg : Str → Option Value} {base : Heap} {A : Ad} {f : Addr} {fd : FuncData} (F : Fun K "_law_signed" "_law_signed" s__law_signed f fd) (T : Txt K mg A)  : FnOk P w K mg base CX0 1 f fd ["_law_digit"] (sp__law_signed K A) := by
  refine F.ok sc__law_signed (fun vs H Q E h => by obtain ⟨_, rfl, _⟩ := h; rfl) (fun cdv A' outer s H vs Q E hr h => ?_)
  obtain ⟨c, rfl, k⟩ := h
  refine ⟨_, (pss_one (ps_ret (pe_op SH.oMul (pe_op SH.oDiv (pe_op SH.oAdd (pv 0) pe_int) pe_int) (pe_op SH.oSub pe_int (pe_op SH.oMul (pe_op SH.oMod (pv 0) pe_int) pe_int))))), ?_⟩
  walk_at "begin"
  walk_at "rd"
  exact k _
/-- two neighbours of an order, either way -/
structure NbP (ord : List Nat) (ps : List (Nat × Nat)) (m : Nat) : Prop where
  len : ps.length = m
  nb : ∀ x ∈ ps, ∃ (i u v : Nat), ord[i]? = some u ∧ ord[i + 1]? = some v ∧ (x = (u, v) ∨ x = (v, u))
  all : ∀ (i u v : Nat), i < m → ord[i]? = some u → ord[i + 1]? = some v → (u, v) ∈ ps ∨ (v, u) ∈ ps
theorem NbP.ins {ord : List Nat} {ps : List (Nat × Nat)} {m i u v : Nat} {x : Nat × Nat} (h : NbP ord ps m) (hu : ord[m]? = some u) (hv : ord[m + 1]? = some v) (hx : x = (u, v) ∨ x = (v, u)) : NbP ord (ps.take i ++ x :: ps.drop i) (m + 1) := by
  have hm : ∀ y, y ∈ ps.take i ++ x :: ps.drop i ↔ y ∈ ps ∨ y = x := fun y => by
    rw [List.mem_append, List.mem_cons]
    conv => rhs; rw [← List.take_append_drop i ps, List.mem_append]
    constructor
    · rintro (a | a | a)
      · exact .inl (.inl a)
      · exact .inr a
      · exact .inl (.inr a)
    · rintro ((a | a) | a)
      · exact .inl a
      · exact .inr (.inr a)
      · exact .inr (.inl a)
  refine ⟨?_, fun y hy => ?_, fun j a b hj ha hb => ?_⟩
  · have : (ps.take i).length + (ps.drop i).length = m := by rw [← List.length_append, List.take_append_drop]; exact h.len
    rw [List.length_append, List.length_cons]; omega
  · rcases (hm y).mp hy with hy | rfl
    · exact h.nb y hy
    · exact ⟨m, u, v, hu, hv, hx⟩
  · by_cases e : j < m
    · rcases h.all j a b e ha hb with z | z
      · exact .inl ((hm _).mpr (.inl z))
      · exact .inr ((hm _).mpr (.inl z))
    · obtain rfl : j = m := by omega
      rw [hu] at ha; rw [hv] at hb
      cases ha; cases hb
      rcases hx with rfl | rfl
      · exact .inl ((hm _).mpr (.inr rfl))
      · exact .inr ((hm _).mpr (.inr rfl))
theorem isl_ins {α : Type} [Enc α] {K : PySem.W.Frag} {H : Hp} {vs : List V} {xs : List α} {v : V} {x : α} {i : Nat} (h : SH.IsL K H vs xs) (hv : SH.Is K H v x) : SH.IsL K H (vs.take i ++ [v] ++ vs.drop i) (xs.take i ++ x :: xs.drop i) := by
  have := isl_app (isl_app (isl_take (n := i) h) (isl_cons hv isl_nil)) (isl_drop (n := i) h)
  rw [List.append_assoc (xs.take i)] at this
  exact this
theorem log2_le {w : Int} (h0 : 0 < w) (h1 : w ≤ big60) : w.natAbs.log2 < 9000 := by
  have h2 : w.natAbs ≤ 10 ^ 60 := by
    have e : (big60 : Int) = ((10 ^ 60 : Nat) : Int) := by decide +kernel
    rw [e] at h1
    generalize (10 ^ 60 : Nat) = z at h1 ⊢
    omega
  refine Nat.lt_of_lt_of_le ((Nat.log2_lt (by omega)).mpr (Nat.lt_of_le_of_lt h2 (show 10 ^ 60 < 2 ^ 200 by decide +kernel))) (by decide)
def sp__law_turned (K : PySem.W.Frag) (A : Ad) : Sp := fun vs H Q _ => ∃ (o : Addr) (ord : List Nat) (c : Int), vs = [.ref o, .int c] ∧ (SqL K H o (nv ord) ∧ ord.length ≤ 300) ∧
  ∀ q H' pvs ps, H q = none → Stp [] H H' → H' q = some (.lst pvs) → IsL K H' pvs ps → NbP ord ps (ord.length - 1) → Q (.ref q) H'
theorem ok__law_turned {P : Program} {w : World} {K : PySem.W.Frag} {mg : Str → Option Value} {base : Heap} {A : Ad} {f : Addr} {fd : FuncData} (F : Fun K "_law_turned" "_law_turned" s__law_turned f fd) (T : Txt K mg A)  : FnOk P w K mg base CX0 1 f fd ["_law_paper", "_law_cell"] (sp__law_turned K A) := by
  refine F.ok sc__law_turned (fun vs H Q E h => by obtain ⟨_, _, _, rfl, _⟩ := h; rfl) (fun cdv A' outer s H vs Q E hr h => ?_)
  obtain ⟨o, ord, c, rfl, ⟨hO, hol⟩, k⟩ := h
  refine ⟨_, (pss_cons (ps_set (i := 2) sc__law_turned.nd rfl (Or.inl rfl) (pe_lst pa_nil))
        (pss_cons (ps_set (i := 3) sc__law_turned.nd rfl (Or.inl rfl) (pe_op SH.oAdd (pe_op SH.oMod (pv 1) pe_int) pe_int))
        (pss_cons (ps_for PassesOwn.never rfl (pi_range1 (by rfl) T.z_range (pa_cons (pe_op SH.oSub (pe_callB SH.cLen (by rfl) T.z_len (by decide +kernel) (pa_cons (pv 0) pa_nil)) pe_int) pa_nil)) (pg_name (i := 4) sc__law_turned.nd rfl (Or.inl rfl)) (pss_cons (ps_set (i := 3) sc__law_turned.nd rfl (Or.inl rfl) (pe_op SH.oMod (pe_op SH.oAdd (pe_op SH.oAdd (pe_op SH.oAdd (pe_op SH.oMul (pv 3) (pv 3)) (pe_op SH.oMul pe_int (pv 3))) (pe_op SH.oMul pe_int (pv 4))) pe_int) pe_int))
        (pss_cons (ps_set (i := 5) sc__law_turned.nd rfl (Or.inl rfl) (pe_tup (pa_cons (pe_ix SH.ixA (pv 0) (pv 4) (fun _ _ => rfl)) (pa_cons (pe_ix SH.ixA (pv 0) (pe_op SH.oAdd (pv 4) pe_int) (fun _ _ => rfl)) pa_nil))))
        (pss_cons (ps_if (pt_cmpR (SH.oEq hr.units) (pe_op SH.oMod (pe_op SH.oDiv (pv 3) pe_int) pe_int) pe_int (nomark _)) (pss_one (ps_set (i := 5) sc__law_turned.nd rfl (Or.inl rfl) (pe_tup (pa_cons (pe_ix SH.ixA (pv 0) (pe_op SH.oAdd (pv 4) pe_int) (fun _ _ => rfl)) (pa_cons (pe_ix SH.ixA (pv 0) (pv 4) (fun _ _ => rfl)) pa_nil))))) pss_nil)
        (pss_one (ps_expr (pe_bm PySem.F.plainAttrs_list PySem.F.slot_list_insert PySem.F.type_list_insert SH.mIns (pv 2) (pa_cons (pe_op SH.oMod (pv 3) (pe_op SH.oAdd (pv 4) pe_int)) (pa_cons (pv 5) pa_nil)))))))))
        (pss_one (ps_ret (pv 2)))))), ?_⟩
  walk_at "begin"
  walk_at "rd"
  intro D hD
  walk_at "rd"
  refine for_it walk_range (fun j σ H' => (Stp [] H H' ∧ ∃ (pvs : List V) (ps : List (Nat × Nat)), H' D = some (.lst pvs) ∧ IsL K H' pvs ps ∧ NbP ord ps j) ∧ ∃ (n : Int) (v4 v5 : Option V), (0 ≤ n ∧ n < 4294967296) ∧ σ = [some (.ref o), some (.int c), some (.ref D), some (.int n), v4, v5]) ⟨⟨(Stp.refl _ _).new hD, [], [], upd_same, isl_nil, ⟨rfl, (fun x hx => by cases hx), fun i u v hi => by omega⟩⟩, _, _, _, ⟨by omega, by omega⟩, rfl⟩ (fun _ _ _ _ _ => True.intro) ?_ ?_
  · rintro j x σ H1 H2 hj ⟨⟨S, pvs, ps, hL, hI, hP⟩, n, v4, v5, ⟨n0, n1⟩, rfl⟩ ⟨rfl, rfl⟩
    have hj1 : j + 1 < ord.length := by simp at hj; omega
    obtain ⟨u, hu⟩ : ∃ u, ord[j]? = some u := ⟨_, List.getElem?_eq_getElem (by omega)⟩
    obtain ⟨v, hv⟩ : ∃ v, ord[j + 1]? = some v := ⟨_, List.getElem?_eq_getElem hj1⟩
    have hu' : (nv ord)[j]? = some (.int u) := by unfold nv; rw [List.getElem?_map, hu]; rfl
    have hv' : (nv ord)[j + 1]? = some (.int v) := by unfold nv; rw [List.getElem?_map, hv]; rfl
    have hO2 := S.sql0 hO
    have hpl := isl_len hI
    simp only [Int.zero_add]
    walk_at "rd"
    refine v_ixLn (n := j) hO2 rfl hu' ?_
    walk_at "rd"
    refine v_ixLn (n := j + 1) hO2 (by omega) hv' ?_
    walk_at "rd"
    intro t ht
    have S2 := S.new (o := .tup [.int u, .int v]) ht
    have ht2 := upd_same (H := H2) (a := t) (o := .tup [.int u, .int v])
    have hL2 := upd_old (u := .tup [.int u, .int v]) hL ht
    have hI2 := isl_stp ((Stp.refl [] H2).new (o := .tup [.int u, .int v]) ht) hI
    have hO3 := S2.sql0 hO
    generalize upd H2 t (.tup [.int u, .int v]) = H3 at S2 ht2 hL2 hI2 hO3 ⊢
    generalize hw : (n * n + 48271 * n + 7 * (j : Int) + 1) % 2147483629 = m
    have w0 := Int.emod_nonneg (n * n + 48271 * n + 7 * (j : Int) + 1) (show (2147483629 : Int) ≠ 0 by decide)
    have w1 := Int.emod_lt_of_pos (n * n + 48271 * n + 7 * (j : Int) + 1) (show (0 : Int) < 2147483629 by decide)
    rw [hw] at w0 w1
    clear hw
    have m0 := Int.emod_nonneg m (show ((j : Int) + 1) ≠ 0 by omega)
    have m1 := Int.emod_lt_of_pos m (show (0 : Int) < (j : Int) + 1 by omega)
    walk_at "ri"
    refine r_J (fun σ' H' => ∃ (t' : Addr) (x : Nat × Nat), (x = (u, v) ∨ x = (v, u)) ∧ Stp [] H3 H' ∧ H' t' = some (.tup [.int (x.1 : Nat), .int (x.2 : Nat)]) ∧ σ' = [some (.ref o), some (.int c), some (.ref D), some (.int m), some (.int j), some (.ref t')]) ?_ fun N hN => ?_
    rotate_left
    · walk_at "rd"
      refine r_w (fun hc => ?_) fun hc => ?_
      · walk_at "rd"
        refine v_ixLn (n := j + 1) hO3 (by omega) hv' ?_
        walk_at "rd"
        refine v_ixLn (n := j) hO3 rfl hu' ?_
        walk_at "rd"
        intro t2 ht2'
        walk_at "rd"
        exact hN _ _ ⟨t2, (v, u), .inr rfl, (Stp.refl _ _).new ht2', upd_same, rfl⟩
      · walk_at "rd"
        exact hN _ _ ⟨t, (u, v), .inl rfl, .refl _ _, ht2, rfl⟩
    rintro σ' H4 ⟨t', x, hx, S4, ht4, rfl⟩
    have hL4 := S4.keep0 hL2
    have hI4 := isl_stp S4 hI2
    walk_at "rd"
    obtain ⟨i, hi⟩ : ∃ i : Nat, m % ((j : Int) + 1) = i := ⟨(m % ((j : Int) + 1)).toNat, by omega⟩
    rw [hi] at m0 m1 ⊢
    have ntD : t' ≠ D := fun z => by subst z; rw [hL4] at ht4; cases ht4
    refine ⟨D, pvs, i, .ref t', rfl, rfl, hL4, Nat.lt_of_le_of_lt (m := 1000) (by rw [hpl, hP.len]; omega) (by decide), by omega, by omega, ?_⟩
    rw [show ((i : Nat) : Int).toNat = i from rfl]
    have S5 : Stp [D] H4 (upd H4 D (.lst (pvs.take i ++ [V.ref t'] ++ pvs.drop i))) := (Stp.refl [D] H4).putL (by simp) hL4
    exact ⟨⟨(S2.trans S4).putN hD, _, ps.take i ++ x :: ps.drop i, upd_same, isl_ins (isl_stpM S5 hI4) (is_pr (SqT.of (by rw [upd_ne ntD]; exact ht4)) is_nat is_nat), hP.ins hu hv hx⟩, _, _, _, ⟨w0, by omega⟩, rfl⟩
  · rintro σ H1 ⟨⟨S, pvs, ps, hL, hI, hP⟩, n, v4, v5, _, rfl⟩
    walk_at "rd"
    exact k D _ pvs ps hD S hL hI (by rw [show ((ord.length : Int) - 1).toNat = ord.length - 1 by omega] at hP; exact hP)
def sp__law_turned_of (K : PySem.W.Frag) (A : Ad) : Sp := fun vs H Q _ => ∃ (o : Addr) (ord : List Nat) (c : Int), vs = [.ref o, .int c] ∧ (SqL K H o (nv ord) ∧ ord.length ≤ 300) ∧
  ∀ q H' pvs ps, H q = none → Stp [] H H' → H' q = some (.lst pvs) → IsL K H' pvs ps → NbP ord ps (ord.length - 1) → Q (.ref q) H'
theorem ok__law_turned_of {P : Program} {w : World} {K : PySem.W.Frag} {mg : Str → Option Value} {base : Heap} {A : Ad} {f : Addr} {fd : FuncData} (F : Fun K "_law_turned_of" "_law_turned_of" s__law_turned_of f fd) (T : Txt K mg A) (C__law_reserve : SH.Cal P w K mg base CX0 1 "_law_reserve" [] (sp__law_reserve K A)) : FnOk P w K mg base CX0 2 f fd ["_law_paper", "_law_cell"] (sp__law_turned_of K A) := by
  refine F.ok sc__law_turned_of (fun vs H Q E h => by obtain ⟨_, _, _, rfl, _⟩ := h; rfl) (fun cdv A' outer s H vs Q E hr h => ?_)
  obtain ⟨o, ord, c, rfl, ⟨hO, hol⟩, k⟩ := h
  refine ⟨_, (pss_cons (ps_set (i := 2) sc__law_turned_of.nd rfl (Or.inl rfl) (pe_lst pa_nil))
        (pss_cons (ps_set (i := 3) sc__law_turned_of.nd rfl (Or.inl rfl) (pv 1))
        (pss_cons (ps_for PassesOwn.never rfl (pi_range1 (by rfl) T.z_range (pa_cons (pe_op SH.oSub (pe_callB SH.cLen (by rfl) T.z_len (by decide +kernel) (pa_cons (pv 0) pa_nil)) pe_int) pa_nil)) (pg_name (i := 4) sc__law_turned_of.nd rfl (Or.inl rfl)) (pss_cons (ps_if (pt_cmpR (SH.oLt hr.units0) (pv 1) pe_int (nomark _)) (pss_one (ps_set (i := 1) sc__law_turned_of.nd rfl (Or.inl rfl) (SH.pe_callF C__law_reserve hr (by rfl) pass0 (pa_cons (pv 3) (pa_cons (pv 4) pa_nil))))) pss_nil)
        (pss_cons (ps_set (i := 5) sc__law_turned_of.nd rfl (Or.inl rfl) (pe_tup (pa_cons (pe_ix SH.ixA (pv 0) (pv 4) (fun _ _ => rfl)) (pa_cons (pe_ix SH.ixA (pv 0) (pe_op SH.oAdd (pv 4) pe_int) (fun _ _ => rfl)) pa_nil))))
        (pss_cons (ps_if (pt_cmpR (SH.oEq hr.units) (pe_op SH.oMod (pv 1) pe_int) pe_int (nomark _)) (pss_one (ps_set (i := 5) sc__law_turned_of.nd rfl (Or.inl rfl) (pe_tup (pa_cons (pe_ix SH.ixA (pv 0) (pe_op SH.oAdd (pv 4) pe_int) (fun _ _ => rfl)) (pa_cons (pe_ix SH.ixA (pv 0) (pv 4) (fun _ _ => rfl)) pa_nil))))) pss_nil)
        (pss_cons (ps_expr (pe_bm PySem.F.plainAttrs_list PySem.F.slot_list_insert PySem.F.type_list_insert SH.mIns (pv 2) (pa_cons (pe_op SH.oMod (pe_op SH.oDiv (pv 1) pe_int) (pe_op SH.oAdd (pv 4) pe_int)) (pa_cons (pv 5) pa_nil))))
        (pss_one (ps_set (i := 1) sc__law_turned_of.nd rfl (Or.inl rfl) (pe_op SH.oDiv (pe_op SH.oDiv (pv 1) pe_int) (pe_op SH.oAdd (pv 4) pe_int)))))))))
        (pss_one (ps_ret (pv 2)))))), ?_⟩
  walk_at "begin"
  walk_at "rd"
  intro D hD
  walk_at "rd"
  refine for_it walk_range (fun j σ H' => (Stp [] H H' ∧ ∃ (pvs : List V) (ps : List (Nat × Nat)), H' D = some (.lst pvs) ∧ IsL K H' pvs ps ∧ NbP ord ps j) ∧ ∃ (n : Int) (v4 v5 : Option V), σ = [some (.ref o), some (.int n), some (.ref D), some (.int c), v4, v5]) ⟨⟨(Stp.refl _ _).new hD, [], [], upd_same, isl_nil, ⟨rfl, (fun x hx => by cases hx), fun i u v hi => by omega⟩⟩, _, _, _, rfl⟩ (fun _ _ _ _ _ => True.intro) ?_ ?_
  · rintro j x σ H1 H2 hj ⟨⟨S, pvs, ps, hL, hI, hP⟩, n, v4, v5, rfl⟩ ⟨rfl, rfl⟩
    have hj1 : j + 1 < ord.length := by simp at hj; omega
    obtain ⟨u, hu⟩ : ∃ u, ord[j]? = some u := ⟨_, List.getElem?_eq_getElem (by omega)⟩
    obtain ⟨v, hv⟩ : ∃ v, ord[j + 1]? = some v := ⟨_, List.getElem?_eq_getElem hj1⟩
    have hu' : (nv ord)[j]? = some (.int u) := by unfold nv; rw [List.getElem?_map, hu]; rfl
    have hv' : (nv ord)[j + 1]? = some (.int v) := by unfold nv; rw [List.getElem?_map, hv]; rfl
    have hO2 := S.sql0 hO
    have hpl := isl_len hI
    simp only [Int.zero_add]
    walk_at "ri"
    refine r_J (fun σ' H' => H2 = H' ∧ ∃ m : Int, σ' = [some (.ref o), some (.int m), some (.ref D), some (.int c), some (.int j), v5]) ?_ fun N hN => ?_
    rotate_left
    · walk_at "rd"
      refine r_w (fun hc => ?_) fun hc => ?_
      · walk_at "rd"
        refine ⟨c, j, rfl, by omega, fun r hr => ?_⟩
        walk_at "rd"
        exact hN _ _ ⟨rfl, _, rfl⟩
      · walk_at "rd"
        exact hN _ _ ⟨rfl, _, rfl⟩
    rintro σ' H2' ⟨rfl, m, rfl⟩
    dsimp only
    walk_at "rd"
    refine v_ixLn (n := j) hO2 rfl hu' ?_
    walk_at "rd"
    refine v_ixLn (n := j + 1) hO2 (by omega) hv' ?_
    walk_at "rd"
    intro t ht
    have S2 := S.new (o := .tup [.int u, .int v]) ht
    have ht2 := upd_same (H := H2) (a := t) (o := .tup [.int u, .int v])
    have hL2 := upd_old (u := .tup [.int u, .int v]) hL ht
    have hI2 := isl_stp ((Stp.refl [] H2).new (o := .tup [.int u, .int v]) ht) hI
    have hO3 := S2.sql0 hO
    generalize upd H2 t (.tup [.int u, .int v]) = H3 at S2 ht2 hL2 hI2 hO3 ⊢
    have m0 := Int.emod_nonneg (m / 2) (show ((j : Int) + 1) ≠ 0 by omega)
    have m1 := Int.emod_lt_of_pos (m / 2) (show (0 : Int) < (j : Int) + 1 by omega)
    walk_at "ri"
    refine r_J (fun σ' H' => ∃ (t' : Addr) (x : Nat × Nat), (x = (u, v) ∨ x = (v, u)) ∧ Stp [] H3 H' ∧ H' t' = some (.tup [.int (x.1 : Nat), .int (x.2 : Nat)]) ∧ σ' = [some (.ref o), some (.int m), some (.ref D), some (.int c), some (.int j), some (.ref t')]) ?_ fun N hN => ?_
    rotate_left
    · walk_at "rd"
      refine r_w (fun hc => ?_) fun hc => ?_
      · walk_at "rd"
        refine v_ixLn (n := j + 1) hO3 (by omega) hv' ?_
        walk_at "rd"
        refine v_ixLn (n := j) hO3 rfl hu' ?_
        walk_at "rd"
        intro t2 ht2'
        walk_at "rd"
        exact hN _ _ ⟨t2, (v, u), .inr rfl, (Stp.refl _ _).new ht2', upd_same, rfl⟩
      · walk_at "rd"
        exact hN _ _ ⟨t, (u, v), .inl rfl, .refl _ _, ht2, rfl⟩
    rintro σ' H4 ⟨t', x, hx, S4, ht4, rfl⟩
    have hL4 := S4.keep0 hL2
    have hI4 := isl_stp S4 hI2
    walk_at "rd"
    obtain ⟨i, hi⟩ : ∃ i : Nat, m / 2 % ((j : Int) + 1) = i := ⟨(m / 2 % ((j : Int) + 1)).toNat, by omega⟩
    rw [hi] at m0 m1 ⊢
    have ntD : t' ≠ D := fun z => by subst z; rw [hL4] at ht4; cases ht4
    refine ⟨D, pvs, i, .ref t', rfl, rfl, hL4, Nat.lt_of_le_of_lt (m := 1000) (by rw [hpl, hP.len]; omega) (by decide), by omega, by omega, ?_⟩
    rw [show ((i : Nat) : Int).toNat = i from rfl]
    have S5 : Stp [D] H4 (upd H4 D (.lst (pvs.take i ++ [V.ref t'] ++ pvs.drop i))) := (Stp.refl [D] H4).putL (by simp) hL4
    walk_at "rd"
    exact ⟨⟨(S2.trans S4).putN hD, _, ps.take i ++ x :: ps.drop i, upd_same, isl_ins (isl_stpM S5 hI4) (is_pr (SqT.of (by rw [upd_ne ntD]; exact ht4)) is_nat is_nat), hP.ins hu hv hx⟩, _, _, _, rfl⟩
  · rintro σ H1 ⟨⟨S, pvs, ps, hL, hI, hP⟩, n, v4, v5, rfl⟩
    walk_at "rd"
    exact k D _ pvs ps hD S hL hI (by rw [show ((ord.length : Int) - 1).toNat = ord.length - 1 by omega] at hP; exact hP)

def sp__law_row_of (K : PySem.W.Frag) (A : Ad) : Sp := fun vs H Q _ => ∃ (a : Addr) (ns : List Int), vs = [.ref a] ∧ (SqL K H a (ns.map V.int) ∧ ns.length ≤ 63) ∧
  ∀ q H' rvs X, H q = none → Stp [] H H' → H' q = some (.lst rvs) → RowX H' rvs X → X.length ≤ 63 → Q (.ref q) H'
theorem ok__law_row_of {P : Program} {w : World} {K : PySem.W.Frag} {mg : Str → Option Value} {base : Heap} {A : Ad} {f : Addr} {fd : FuncData} (F : Fun K "_law_row_of" "_law_row_of" s__law_row_of f fd) (T : Txt K mg A) (C__law_cell_at : SH.Cal P w K mg base CX0 1 "_law_cell_at" [] (sp__law_cell_at K A)) (C__law_signed : SH.Cal P w K mg base CX0 1 "_law_signed" [] (sp__law_signed K A)) : FnOk P w K mg base CX0 2 f fd ["_law_script"] (sp__law_row_of K A) := by
  refine F.ok sc__law_row_of (fun vs H Q E h => by obtain ⟨_, _, rfl, _⟩ := h; rfl) (fun cdv A' outer s H vs Q E hr h => ?_)
  obtain ⟨a, ns, rfl, ⟨hS, hlen⟩, k⟩ := h
  refine ⟨_, (pss_cons (ps_set (i := 1) sc__law_row_of.nd rfl (Or.inr rfl) (pe_ix SH.ixA (pe_lst (pa_cons pe_int (pa_cons pe_int (pa_cons (pe_op SH.oPow pe_int pe_int) pa_nil)))) (pe_op SH.oMod (SH.pe_callF C__law_cell_at hr (by rfl) pass0 (pa_cons (pv 0) (pa_cons pe_int pa_nil))) pe_int) (fun _ _ => rfl)))
        (pss_cons (ps_if (pt_cmpR (SH.oEq hr.units) (pe_op SH.oMod (SH.pe_callF C__law_cell_at hr (by rfl) pass0 (pa_cons (pv 0) (pa_cons pe_int pa_nil))) pe_int) pe_int (nomark _)) (pss_one (ps_ret (pe_lc (own := [("_law_cell", 2)]) (g := (gName 2)) (tt := tYes) (by rfl) sc__law_row_of.nd (pi_list (pe_slice sl_list (pv 0) (po_some pe_int) (po_some pe_int))) (blkOk_by (own := [("_law_cell", 2)]) (N := ["_law_script", "_law_width", "_law_cell"]) (sc := defScope s__law_row_of) (by decide +kernel)) (fun _ _ _ _ _ => (pg_name (i := 2) sc__law_row_of.nd rfl (Or.inl rfl))) (fun _ _ _ _ _ => pts_nil) (fun _ _ _ _ _ => (pe_tup (pa_cons (SH.pe_callF C__law_signed hr (by rfl) pass0 (pa_cons (pe_op SH.oMod (pv 2) (pv 1)) pa_nil)) (pa_cons (pe_op SH.oMod (pe_op SH.oDiv (pv 2) (pv 1)) (pv 1)) pa_nil))))))) pss_nil)
        (pss_one (ps_ret (pe_lc (own := [("_law_cell", 2)]) (g := (gName 2)) (tt := tYes) (by rfl) sc__law_row_of.nd (pi_list (pe_slice sl_list (pv 0) (po_some pe_int) (po_some pe_int))) (blkOk_by (own := [("_law_cell", 2)]) (N := ["_law_script", "_law_width", "_law_cell"]) (sc := defScope s__law_row_of) (by decide +kernel)) (fun _ _ _ _ _ => (pg_name (i := 2) sc__law_row_of.nd rfl (Or.inl rfl))) (fun _ _ _ _ _ => pts_nil) (fun _ _ _ _ _ => (pe_tup (pa_cons (pe_op SH.oMod (pv 2) (pv 1)) (pa_cons (pe_op SH.oMod (pe_op SH.oDiv (pv 2) pe_int) pe_int) pa_nil))))))))), ?_⟩
  walk_at "begin"
  walk_at "rd"
  intro wl hwl
  walk_at "rd"
  refine ⟨a, ns, 0, rfl, by walk_at "sq", fun c0 => ?_⟩
  walk_at "rd"
  refine v_ixMod (m := 3) (by walk_at "sq") rfl (by decide) fun v hv => ?_
  have hv' : ∃ w : Int, v = .int w ∧ 0 < w ∧ w ≤ big60 := by
    rcases List.mem_cons.mp hv with rfl | hv
    · exact ⟨2, rfl, by decide, by decide +kernel⟩
    rcases List.mem_cons.mp hv with rfl | hv
    · exact ⟨7, rfl, by decide, by decide +kernel⟩
    rw [List.mem_singleton] at hv
    exact ⟨big60, hv, by decide +kernel, Int.le_refl _⟩
  obtain ⟨w', rfl, hw0, hw1⟩ := hv'
  clear hv
  have S0 := (Stp.refl [] H).new (o := .lst [.int 2, .int 7, .int big60]) hwl
  have hS1 := S0.sql0 hS
  generalize upd H wl (.lst [.int 2, .int 7, .int big60]) = H1 at S0 hS1 ⊢
  walk_at "rd"
  refine ⟨a, ns, 1, rfl, hS1, fun c1 => ?_⟩
  walk_at "rd"
  refine r_w (fun hc => ?_) fun hc => ?_
  · walk_at "rd"
    intro cp hcp
    rw [cut_map]
    have hcl : (cutL ns (some 3) (some 23)).length ≤ 63 := Nat.le_trans (cutL_len _ _ _) hlen
    generalize cutL ns (some 3) (some 23) = cs at hcl ⊢
    have S1 := (Stp.refl [] H1).new (o := .lst (cs.map V.int)) hcp
    have hcp1 := upd_same (H := H1) (a := cp) (o := .lst (cs.map V.int))
    generalize upd H1 cp (.lst (cs.map V.int)) = H2 at S1 hcp1 ⊢
    walk_at "rd"
    intro D hD
    refine lc_it (walk_list (xs := cs.map V.int)) (fun j H' => Stp [] H2 H' ∧ ∃ (rvs : List V) (X : List (List Int)), H' D = some (.lst rvs) ∧ X.length = j ∧ RowX H' rvs X) ⟨(Stp.refl _ _).new hD, [], [], upd_same, rfl, rfl, fun i v e => by cases e⟩ (fun j H' _ z => z.1.sql0 (SqL.of hcp1)) ?_ ?_
    · rintro j x H3 H4 hj ⟨S, rvs, X, hL, hXj, hX⟩ ⟨rfl, hx⟩
      rw [List.getElem?_map] at hx
      obtain ⟨c, -, rfl⟩ := Option.map_eq_some_iff.mp hx
      walk_at "rd"
      refine ⟨_, rfl, fun n => ?_⟩
      walk_at "rd"
      refine v_divW hw0 (log2_le hw0 hw1) ?_
      walk_at "rd"
      intro t ht
      have hrl := hX.1
      have S' : Stp [D] H4 (upd (upd H4 t (.tup [.int n, .int (c / w' % w')])) D (.lst (rvs ++ [.ref t]))) := ((Stp.refl [D] H4).new ht).putL (by simp) (upd_old hL ht)
      have ntD : t ≠ D := (ne_of_none hL ht).symm
      exact ⟨rvs, upd_old hL ht, Nat.lt_of_le_of_lt (m := 1000) (by simp at hj; omega) (by decide), (S.new ht).putN hD, rvs ++ [.ref t], X ++ [[n, c / w' % w']], upd_same, by simp [hXj], (hX.stp S').app (by rw [upd_ne ntD, upd_same]; rfl) rfl⟩
    rintro H3 ⟨S3, rvs, X, hR, hXl, hX⟩
    rw [List.length_map] at hXl
    exact k D _ rvs X (S0.dom _ (S1.dom _ hD)) ((S0.trans S1).trans S3) hR hX (by omega)
  · walk_at "rd"
    intro cp hcp
    rw [cut_map]
    have hcl : (cutL ns (some 3) (some 23)).length ≤ 63 := Nat.le_trans (cutL_len _ _ _) hlen
    generalize cutL ns (some 3) (some 23) = cs at hcl ⊢
    have S1 := (Stp.refl [] H1).new (o := .lst (cs.map V.int)) hcp
    have hcp1 := upd_same (H := H1) (a := cp) (o := .lst (cs.map V.int))
    generalize upd H1 cp (.lst (cs.map V.int)) = H2 at S1 hcp1 ⊢
    walk_at "rd"
    intro D hD
    refine lc_it (walk_list (xs := cs.map V.int)) (fun j H' => Stp [] H2 H' ∧ ∃ (rvs : List V) (X : List (List Int)), H' D = some (.lst rvs) ∧ X.length = j ∧ RowX H' rvs X) ⟨(Stp.refl _ _).new hD, [], [], upd_same, rfl, rfl, fun i v e => by cases e⟩ (fun j H' _ z => z.1.sql0 (SqL.of hcp1)) ?_ ?_
    · rintro j x H3 H4 hj ⟨S, rvs, X, hL, hXj, hX⟩ ⟨rfl, hx⟩
      rw [List.getElem?_map] at hx
      obtain ⟨c, -, rfl⟩ := Option.map_eq_some_iff.mp hx
      walk_at "rd"
      intro t ht
      have hrl := hX.1
      have S' : Stp [D] H4 (upd (upd H4 t (.tup [.int (c % w'), .int (c / 7 % 3)])) D (.lst (rvs ++ [.ref t]))) := ((Stp.refl [D] H4).new ht).putL (by simp) (upd_old hL ht)
      have ntD : t ≠ D := (ne_of_none hL ht).symm
      exact ⟨rvs, upd_old hL ht, Nat.lt_of_le_of_lt (m := 1000) (by simp at hj; omega) (by decide), (S.new ht).putN hD, rvs ++ [.ref t], X ++ [[c % w', c / 7 % 3]], upd_same, by simp [hXj], (hX.stp S').app (by rw [upd_ne ntD, upd_same]; rfl) rfl⟩
    rintro H3 ⟨S3, rvs, X, hR, hXl, hX⟩
    rw [List.length_map] at hXl
    exact k D _ rvs X (S0.dom _ (S1.dom _ hD)) ((S0.trans S1).trans S3) hR hX (by omega)
def sp__law_asks (K : PySem.W.Frag) (A : Ad) : Sp := fun vs H Q _ => ∃ (a o : Addr) (ns : List Int) (ord : List Nat), vs = [.ref a, .ref o] ∧ (SqL K H a (ns.map V.int) ∧ ns.length ≤ 63 ∧ SqL K H o (nv ord) ∧ ord.length ≤ 300) ∧
  ∀ t q1 q2 H' pvs ps pvs2 ps2, H q1 = none → Stp [] H H' → H' t = some (.lst [.ref q1, .ref q2]) → H' q1 = some (.lst pvs) → IsL K H' pvs ps → Prs ord.length ps → ps.length ≤ 63 → H' q2 = some (.lst pvs2) → IsL K H' pvs2 ps2 → NbP ord ps2 (ord.length - 1) → Q (.ref t) H'
theorem ok__law_asks {P : Program} {w : World} {K : PySem.W.Frag} {mg : Str → Option Value} {base : Heap} {A : Ad} {f : Addr} {fd : FuncData} (F : Fun K "_law_asks" "_law_asks" s__law_asks f fd) (T : Txt K mg A) (C__law_cell_at : SH.Cal P w K mg base CX0 1 "_law_cell_at" [] (sp__law_cell_at K A)) (C__law_pairs : SH.Cal P w K mg base CX0 1 "_law_pairs" [] (sp__law_pairs K A)) (C__law_turned : SH.Cal P w K mg base CX0 1 "_law_turned" [] (sp__law_turned K A)) (C__law_turned_of : SH.Cal P w K mg base CX0 2 "_law_turned_of" [] (sp__law_turned_of K A)) : FnOk P w K mg base CX0 3 f fd ["_law_script", "_law_paper"] (sp__law_asks K A) := by
  refine F.ok sc__law_asks (fun vs H Q E h => by obtain ⟨_, _, _, _, rfl, _⟩ := h; rfl) (fun cdv A' outer s H vs Q E hr h => ?_)
  obtain ⟨a, o, ns, ord, rfl, ⟨hS, hlen, hO, hol⟩, k⟩ := h
  refine ⟨_, (pss_cons (ps_set (i := 2) sc__law_asks.nd rfl (Or.inl rfl) (SH.pe_callF C__law_pairs hr (by rfl) pass0 (pa_cons (pe_slice sl_list (pv 0) (po_some pe_int) (po_some pe_int)) (pa_cons (pe_callB SH.cLen (by rfl) T.z_len (by decide +kernel) (pa_cons (pv 1) pa_nil)) pa_nil))))
        (pss_cons (ps_if (pt_cmpR (SH.oEq hr.units) (pe_op SH.oMod (SH.pe_callF C__law_cell_at hr (by rfl) pass0 (pa_cons (pv 0) (pa_cons pe_int pa_nil))) pe_int) pe_int (nomark _)) (pss_one (ps_ret (pe_lst (pa_cons (pv 2) (pa_cons (SH.pe_callF C__law_turned_of hr (by rfl) pass0 (pa_cons (pv 1) (pa_cons (pe_op SH.oDiv (SH.pe_callF C__law_cell_at hr (by rfl) pass0 (pa_cons (pv 0) (pa_cons pe_int pa_nil))) pe_int) pa_nil))) pa_nil))))) pss_nil)
        (pss_one (ps_ret (pe_lst (pa_cons (pv 2) (pa_cons (SH.pe_callF C__law_turned hr (by rfl) pass0 (pa_cons (pv 1) (pa_cons (SH.pe_callF C__law_cell_at hr (by rfl) pass0 (pa_cons (pv 0) (pa_cons pe_int pa_nil))) pa_nil))) pa_nil))))))), ?_⟩
  walk_at "begin"
  walk_at "rd"
  intro cp hcp
  rw [cut_map]
  have hcl : (cutL ns (some 23) (some 43)).length ≤ 63 := Nat.le_trans (cutL_len _ _ _) hlen
  generalize cutL ns (some 23) (some 43) = cs at hcl ⊢
  have S1 := (Stp.refl [] H).new (o := .lst (cs.map V.int)) hcp
  have hcp1 := upd_same (H := H) (a := cp) (o := .lst (cs.map V.int))
  have hS1 := S1.sql0 hS
  have hO1 := S1.sql0 hO
  generalize upd H cp (.lst (cs.map V.int)) = H1 at S1 hcp1 hS1 hO1 ⊢
  walk_at "rd"
  refine ⟨cp, cs, ord.length, by simp [nv], ⟨SqL.of hcp1, by omega, by omega⟩, fun q1 H2 pvs ps hq1 S2 hq12 hI hP hpl => ?_⟩
  have hS2 := S2.sql0 hS1
  have hO2 := S2.sql0 hO1
  walk_at "rd"
  refine ⟨a, ns, 1, rfl, hS2, fun c1 => ?_⟩
  walk_at "rd"
  refine r_w (fun hc => ?_) fun hc => ?_
  · walk_at "rd"
    refine ⟨a, ns, 1, rfl, hS2, fun c1' => ?_⟩
    walk_at "rd"
    refine ⟨o, ord, _, rfl, ⟨hO2, hol⟩, fun q2 H3 pvs2 ps2 hq2 S3 hq23 hI2 hP2 => ?_⟩
    walk_at "rd"
    intro t ht
    have S4 := (Stp.refl [] H3).new (o := .lst [.ref q1, .ref q2]) ht
    exact k t q1 q2 _ pvs ps pvs2 ps2 (S1.dom _ hq1) ((S1.trans S2).trans (S3.trans S4)) upd_same (S4.keep0 (S3.keep0 hq12)) (isl_stp (S3.trans S4) hI) hP (by omega) (S4.keep0 hq23) (isl_stp S4 hI2) hP2
  · walk_at "rd"
    refine ⟨a, ns, 1, rfl, hS2, fun c1' => ?_⟩
    walk_at "rd"
    refine ⟨o, ord, _, rfl, ⟨hO2, hol⟩, fun q2 H3 pvs2 ps2 hq2 S3 hq23 hI2 hP2 => ?_⟩
    walk_at "rd"
    intro t ht
    have S4 := (Stp.refl [] H3).new (o := .lst [.ref q1, .ref q2]) ht
    exact k t q1 q2 _ pvs ps pvs2 ps2 (S1.dom _ hq1) ((S1.trans S2).trans (S3.trans S4)) upd_same (S4.keep0 (S3.keep0 hq12)) (isl_stp (S3.trans S4) hI) hP (by omega) (S4.keep0 hq23) (isl_stp S4 hI2) hP2
theorem q_true {Q : VK} {H : Hp} {b : Bool} (h : b = true) (k : Q (.bl true) H) : Q (.bl b) H := h ▸ k
def knw (ord : List Nat) (ps : List (Nat × Nat)) : Prop := ∀ (i u v : Nat), ord[i]? = some u → ord[i + 1]? = some v → (u, v) ∈ ps ∨ (v, u) ∈ ps
def sp__law_known (K : PySem.W.Frag) (A : Ad) : Sp := fun vs H Q _ => ∃ (o l : Addr) (ord : List Nat) (avs : List V) (ps : List (Nat × Nat)), vs = [.ref o, .ref l] ∧ (SqL K H o (nv ord) ∧ SqL K H l avs ∧ IsL K H avs ps ∧ ord.length ≤ 300) ∧
  ∀ H' b, Stp [] H H' → (b = true ↔ knw ord ps) → Q (.bl b) H'
theorem ok__law_known {P : Program} {w : World} {K : PySem.W.Frag} {mg : Str → Option Value} {base : Heap} {A : Ad} {f : Addr} {fd : FuncData} (F : Fun K "_law_known" "_law_known" s__law_known f fd) (T : Txt K mg A)  : FnOk P w K mg base CX0 1 f fd ["_law_paper", "_law_asked"] (sp__law_known K A) := by
  refine F.ok sc__law_known (fun vs H Q E h => by obtain ⟨_, _, _, _, _, rfl, _⟩ := h; rfl) (fun cdv A' outer s H vs Q E hr h => ?_)
  obtain ⟨o, l, ord, avs, ps, rfl, ⟨hO, hL, hI, hol⟩, k⟩ := h
  refine ⟨_, (pss_cons (ps_for PassesOwn.never rfl (pi_range1 (by rfl) T.z_range (pa_cons (pe_op SH.oSub (pe_callB SH.cLen (by rfl) T.z_len (by decide +kernel) (pa_cons (pv 0) pa_nil)) pe_int) pa_nil)) (pg_name (i := 2) sc__law_known.nd rfl (Or.inl rfl)) (pss_one (ps_if (PW.pt (pw_and (pt_cmpR (SH.op_notInD hr.units) (pe_tup (pa_cons (pe_ix SH.ixA (pv 0) (pv 2) (fun _ _ => rfl)) (pa_cons (pe_ix SH.ixA (pv 0) (pe_op SH.oAdd (pv 2) pe_int) (fun _ _ => rfl)) pa_nil))) (pv 1) (by rfl)) (pw_and1 (pt_cmpR (SH.op_notInD hr.units) (pe_tup (pa_cons (pe_ix SH.ixA (pv 0) (pe_op SH.oAdd (pv 2) pe_int) (fun _ _ => rfl)) (pa_cons (pe_ix SH.ixA (pv 0) (pv 2) (fun _ _ => rfl)) pa_nil))) (pv 1) (by rfl))))) (pss_one (ps_ret pe_bl)) pss_nil)))
        (pss_one (ps_ret pe_bl))), ?_⟩
  walk_at "begin"
  walk_at "rd"
  refine for_it walk_range (fun j σ H' => (Stp [] H H' ∧ ∀ (i u v : Nat), i < j → ord[i]? = some u → ord[i + 1]? = some v → (u, v) ∈ ps ∨ (v, u) ∈ ps) ∧ ∃ v2, σ = [some (.ref o), some (.ref l), v2]) ⟨⟨.refl _ _, fun i u v hi => by omega⟩, _, rfl⟩ (fun _ _ _ _ _ => True.intro) ?_ ?_
  · rintro j x σ H1 H2 hj ⟨⟨S, hk⟩, v2, rfl⟩ ⟨rfl, rfl⟩
    have hj1 : j + 1 < ord.length := by simp at hj; omega
    obtain ⟨u, hu⟩ : ∃ u, ord[j]? = some u := ⟨_, List.getElem?_eq_getElem (by omega)⟩
    obtain ⟨v, hv⟩ : ∃ v, ord[j + 1]? = some v := ⟨_, List.getElem?_eq_getElem hj1⟩
    have hu' : (nv ord)[j]? = some (.int u) := by unfold nv; rw [List.getElem?_map, hu]; rfl
    have hv' : (nv ord)[j + 1]? = some (.int v) := by unfold nv; rw [List.getElem?_map, hv]; rfl
    have hO2 := S.sql0 hO
    have hL2 := S.sql0 hL
    have hI2 := isl_stp S hI
    simp only [Int.zero_add]
    walk_at "rd"
    refine v_ixLn (n := j) hO2 rfl hu' ?_
    walk_at "rd"
    refine v_ixLn (n := j + 1) hO2 (by omega) hv' ?_
    walk_at "rd"
    intro t ht
    have S3 := (Stp.refl [] H2).new (o := .tup [.int u, .int v]) ht
    have ht3 := upd_same (H := H2) (a := t) (o := .tup [.int u, .int v])
    have hO3 := S3.sql0 hO2
    have hL3 := S3.sql0 hL2
    have hI3 := isl_stp S3 hI2
    generalize upd H2 t (.tup [.int u, .int v]) = H3 at S3 ht3 hO3 hL3 hI3 ⊢
    walk_at "rd"
    refine v_notInE (x := (u, v)) (is_pr (SqT.of ht3) is_nat is_nat) hL3 hI3 fun b hb => ?_
    walk_at "rd"
    cases b with
    | true =>
      walk_at "rd"
      refine ⟨⟨S.trans S3, fun i u' v' hi hu2 hv2 => ?_⟩, _, rfl⟩
      by_cases e : i < j
      · exact hk i u' v' e hu2 hv2
      · obtain rfl : i = j := by omega
        rw [hu] at hu2; rw [hv] at hv2
        cases hu2; cases hv2
        exact .inl (hb.mp rfl)
    | false =>
      walk_at "rd"
      refine v_ixLn (n := j + 1) hO3 (by omega) hv' ?_
      walk_at "rd"
      refine v_ixLn (n := j) hO3 rfl hu' ?_
      walk_at "rd"
      intro t2 ht2
      have S4 := (Stp.refl [] H3).new (o := .tup [.int v, .int u]) ht2
      have ht4 := upd_same (H := H3) (a := t2) (o := .tup [.int v, .int u])
      have hL4 := S4.sql0 hL3
      have hI4 := isl_stp S4 hI3
      generalize upd H3 t2 (.tup [.int v, .int u]) = H4 at S4 ht4 hL4 hI4 ⊢
      walk_at "rd"
      refine v_notInE (x := (v, u)) (is_pr (SqT.of ht4) is_nat is_nat) hL4 hI4 fun b2 hb2 => ?_
      walk_at "rd"
      cases b2 with
      | true =>
        walk_at "rd"
        refine ⟨⟨(S.trans S3).trans S4, fun i u' v' hi hu2 hv2 => ?_⟩, _, rfl⟩
        by_cases e : i < j
        · exact hk i u' v' e hu2 hv2
        · obtain rfl : i = j := by omega
          rw [hu] at hu2; rw [hv] at hv2
          cases hu2; cases hv2
          exact .inr (hb2.mp rfl)
      | false =>
        walk_at "rd"
        refine k H4 false ((S.trans S3).trans S4) ⟨(fun z => by cases z), fun z => ?_⟩
        rcases z j u v hu hv with z | z
        · have := hb.mpr z; cases this
        · have := hb2.mpr z; cases this
  · rintro σ H1 ⟨⟨S, hk⟩, v2, rfl⟩
    walk_at "rd"
    refine k H1 true S ⟨fun _ i u v hu hv => hk i u v ?_ hu hv, fun _ => rfl⟩
    have := (List.getElem?_eq_some_iff.mp hv).1
    simp [nv]
    omega
def ansE (ord : List Nat) (p q : Nat) : Ent := ⟨max p q, min p q, decide (ord.idxOf (max p q) < ord.idxOf (min p q))⟩
def ansL (ord : List Nat) (ps : List (Nat × Nat)) : List Ent := ps.map fun x => ansE ord x.1 x.2
theorem ansL_norm {ord : List Nat} {ps : List (Nat × Nat)} {n : Nat} (h : Prs n ps) : Norm n (ansL ord ps) := fun e he => by
  obtain ⟨x, hx, rfl⟩ := List.mem_map.mp he
  obtain ⟨h1, h2, h3⟩ := h x hx
  exact ⟨by show min x.1 x.2 < max x.1 x.2; omega, by show max x.1 x.2 < n; omega⟩
theorem ansL_ag {ord : List Nat} {ps : List (Nat × Nat)} : ag ord (ansL ord ps) = true := ag_iff.mpr fun e he => by
  obtain ⟨x, hx, rfl⟩ := List.mem_map.mp he
  rfl
theorem ansL_nba {ord : List Nat} {ps : List (Nat × Nat)} : nba ord (ansL ord ps) ↔ knw ord ps := by
  constructor
  · intro h i u v hu hv
    obtain ⟨e, he, h1, h2⟩ := h i u v hu hv
    obtain ⟨⟨p, q⟩, hx, rfl⟩ := List.mem_map.mp he
    have h1' : max p q = max u v := h1
    have h2' : min p q = min u v := h2
    by_cases c : p = u
    · have : q = v := by omega
      subst c; subst this
      exact .inl hx
    · have e1 : p = v := by omega
      have e2 : q = u := by omega
      subst e1; subst e2
      exact .inr hx
  · intro h i u v hu hv
    rcases h i u v hu hv with hx | hx
    · exact ⟨_, List.mem_map.mpr ⟨_, hx, rfl⟩, rfl, rfl⟩
    · exact ⟨_, List.mem_map.mpr ⟨_, hx, rfl⟩, Nat.max_comm _ _, Nat.min_comm _ _⟩
def sp__law_answers (K : PySem.W.Frag) (A : Ad) : Sp := fun vs H Q _ => ∃ (I : Ask) (o tq aq : Addr) (ord : List Nat) (avs : List V) (ps : List (Nat × Nat)), vs = [.ref I.s, .ref o, .ref tq, .ref aq] ∧
  (I.At K A H (ansL ord ps) ∧ H o = some (.lst (nv ord)) ∧ Pap ord ∧ ord.length ≤ 300 ∧ H tq = some (.lst (nv (inv ord))) ∧ H aq = some (.lst avs) ∧ IsL K H avs ps ∧ Prs ord.length ps ∧ ps.length ≤ 1000) ∧
  ∀ H', Stp [] H H' → Q (.bl true) H'
theorem ok__law_answers {P : Program} {w : World} {K : PySem.W.Frag} {mg : Str → Option Value} {base : Heap} {A : Ad} {f : Addr} {fd : FuncData} (F : Fun K "_law_answers" "_law_answers" s__law_answers f fd) (T : Txt K mg A) (M_Asker_answers : SH.CalM P w K mg base CX0 1 A.Asker "answers" [] (sp_Asker_answers K A)) (C__law_known : SH.Cal P w K mg base CX0 1 "_law_known" [] (sp__law_known K A)) (C_agrees : SH.Cal P w K mg base CX0 5 "agrees" [] (sp_agrees K A)) (C_shows : SH.Cal P w K mg base CX0 6 "shows" [] (sp_shows K A)) : FnOk P w K mg base CX0 7 f fd ["_law_asker", "_law_paper", "_law_turn", "_law_asked"] (sp__law_answers K A) := by
  refine F.ok sc__law_answers (fun vs H Q E h => by obtain ⟨_, _, _, _, _, _, _, rfl, _⟩ := h; rfl) (fun cdv A' outer s H vs Q E hr h => ?_)
  obtain ⟨I, o, tq, aq, ord, avs, ps, rfl, ⟨hA, hO, hP, hol, hT, hQ, hI, hPr, hpl⟩, k⟩ := h
  refine ⟨_, (pss_cons (ps_set (i := 4) sc__law_answers.nd rfl (Or.inl rfl) (pe_lst pa_nil))
        (pss_cons (ps_for PassesOwn.never rfl (pi_list (pv 3)) (pg_tup (by rfl) (pgs_cons (pg_name (i := 5) sc__law_answers.nd rfl (Or.inl rfl)) (pgs_cons (pg_name (i := 6) sc__law_answers.nd rfl (Or.inl rfl)) pgs_nil))) (pss_cons (ps_set (i := 7) sc__law_answers.nd rfl (Or.inl rfl) (pe_callB (SH.cMax2 rfl) (by rfl) T.z_max (by decide +kernel) (pa_cons (pv 5) (pa_cons (pv 6) pa_nil))))
        (pss_cons (ps_set (i := 8) sc__law_answers.nd rfl (Or.inl rfl) (pe_callB (SH.cMin2 rfl) (by rfl) T.z_min (by decide +kernel) (pa_cons (pv 5) (pa_cons (pv 6) pa_nil))))
        (pss_one (ps_expr (pe_bm PySem.F.plainAttrs_list PySem.F.slot_list_append PySem.F.type_list_append mt_append (pv 4) (pa_cons (pe_tup (pa_cons (pv 7) (pa_cons (pv 8) (pa_cons (pe_cmpR (SH.oLt hr.units0) (pe_ix SH.ixA (pv 2) (pv 7) (fun _ _ => rfl)) (pe_ix SH.ixA (pv 2) (pv 8) (fun _ _ => rfl)) (nomark _)) pa_nil)))) pa_nil)))))))
        (pss_cons (ps_set (i := 9) sc__law_answers.nd rfl (Or.inl rfl) (SH.pe_methF0 (pv 0) M_Asker_answers hr pass0))
        (pss_cons (ps_if (PW.pt (pw_or (pt_not (pt_val (pe_callB call_isi (by rfl) T.z_isinstance (by decide +kernel) (pa_cons (pv 9) (pa_cons (pe_bltn (v := .ty "list") (by rfl) T.z_list (by decide +kernel) rfl) pa_nil))))) (pw_or (pt_cmpR (SH.oNe hr.units) (pv 9) (pv 4) (nomark _)) (pw_or1 (pt_cmpR SH.oNotB (SH.pe_callF C_agrees hr (by rfl) pass0 (pa_cons (pv 1) (pa_cons (pv 9) pa_nil))) pe_bl (nomark _)))))) (pss_one (ps_ret pe_bl)) pss_nil)
        (pss_cons (ps_set (i := 10) sc__law_answers.nd rfl (Or.inl rfl) (SH.pe_callF C_shows hr (by rfl) pass0 (pa_cons (pv 1) (pa_cons (pv 9) pa_nil))))
        (pss_one (ps_ret (pe_and (pe_callB call_isi (by rfl) T.z_isinstance (by decide +kernel) (pa_cons (pv 10) (pa_cons (pe_bltn (v := .ty "bool") (by rfl) T.z_bool (by decide +kernel) rfl) pa_nil))) (pe_one (pe_cmpR (SH.oEq hr.units) (pv 10) (SH.pe_callF C__law_known hr (by rfl) pass0 (pa_cons (pv 1) (pa_cons (pv 3) pa_nil))) (nomark _))))))))))), ?_⟩
  walk_at "begin"
  have hal := isl_len hI
  walk_at "rd"
  intro D hD
  walk_at "rd"
  refine for_it (walk_list (xs := avs)) (fun j σ H' => (Stp [] H H' ∧ ∃ dvs : List V, H' D = some (.lst dvs) ∧ IsL K H' dvs (ansL ord (ps.take j))) ∧ ∃ v5 v6 v7 v8, σ = [some (.ref I.s), some (.ref o), some (.ref tq), some (.ref aq), some (.ref D), v5, v6, v7, v8, none, none]) ⟨⟨(Stp.refl _ _).new hD, [], upd_same, isl_nil⟩, _, _, _, _, rfl⟩ (fun _ _ _ _ z => z.1.1.sql0 (SqL.of hQ)) ?_ ?_
  · rintro j x σ H1 H2 hj ⟨⟨S, dvs, hL, hId⟩, v5, v6, v7, v8, rfl⟩ ⟨rfl, hx⟩
    obtain ⟨p, q, t, hpq, rfl, ht⟩ := isl_pair hI hx
    obtain ⟨h1, h2, h3⟩ := hPr _ (List.mem_of_getElem? hpq)
    have ht2 := S.sqt0 ht
    have hT2 := S.keep0 hT
    have hdl := isl_len hId
    walk_at "rd"
    rw [max_v, min_v]
    walk_at "rd"
    refine v_ixLn (n := max p q) (v := .int (ord.idxOf (max p q) : Nat)) (SqL.of hT2) rfl (by unfold nv; rw [List.getElem?_map, inv_at (by omega)]; rfl) ?_
    walk_at "rd"
    refine v_ixLn (n := min p q) (v := .int (ord.idxOf (min p q) : Nat)) (SqL.of hT2) rfl (by unfold nv; rw [List.getElem?_map, inv_at (by omega)]; rfl) ?_
    walk_at "rd"
    intro t3 ht3
    have ntD : t3 ≠ D := (ne_of_none hL ht3).symm
    walk_at "rd"
    refine v_app (upd_old hL ht3) (by rw [hdl]; simp [ansL]; omega) ?_
    have S' : Stp [D] H2 (upd (upd H2 t3 (.tup [.int (max p q : Nat), .int (min p q : Nat), .bl (decide (((ord.idxOf (max p q) : Nat) : Int) < ((ord.idxOf (min p q) : Nat) : Int)))])) D (.lst (dvs ++ [.ref t3]))) := ((Stp.refl [D] H2).new ht3).putL (by simp) (upd_old hL ht3)
    refine ⟨⟨(S.new ht3).putN hD, dvs ++ [.ref t3], upd_same, ?_⟩, _, _, _, _, rfl⟩
    have et : ansL ord (ps.take (j + 1)) = ansL ord (ps.take j) ++ [ansE ord p q] := by
      rw [List.take_succ, hpq]
      simp [ansL]
    rw [et]
    refine isl_app (isl_stpM S' hId) (isl_cons (is_t3 (SqT.of (by rw [upd_ne ntD, upd_same])) is_nat is_nat ?_) isl_nil)
    have eb : decide (((ord.idxOf (max p q) : Nat) : Int) < ((ord.idxOf (min p q) : Nat) : Int)) = decide (ord.idxOf (max p q) < ord.idxOf (min p q)) := decide_eq_decide.mpr (by omega)
    rw [eb]
    exact is_bl
  · rintro σ H1 ⟨⟨S, dvs, hL, hId⟩, v5, v6, v7, v8, rfl⟩
    rw [List.take_of_length_le (by omega)] at hId
    have hA1 := hA.stp S (by simp)
    have hs1 := hA1.hs
    unfold AskF at hs1
    have hO1 := S.keep0 hO
    have hQ1 := S.keep0 hQ
    have hI1 := isl_stp S hI
    walk_at "rd"
    refine ⟨I, _, rfl, hA1, fun q H2 evs hq S2 hq2 hI2 => ?_⟩
    have hL2 := S2.keep0 hL
    have hId2 := isl_stp S2 hId
    have hO2 := S2.keep0 hO1
    have hQ2 := S2.keep0 hQ1
    have hI22 := isl_stp S2 hI1
    walk_at "rd"
    refine v_neE (is_lst (SqL.of hq2) hI2) (is_lst (SqL.of hL2) hId2) ?_
    rw [@decide_eq_true _ (Enc.dec _ _) rfl]
    walk_at "rd"
    refine ⟨o, q, ord, evs, _, rfl, ⟨SqL.of hO2, SqL.of hq2, hI2, hP, by omega, ansL_norm hPr⟩, fun H3 S3 => ?_⟩
    rw [ansL_ag]
    have hO3 := S3.keep0 hO2
    have hQ3 := S3.keep0 hQ2
    have hq3 := S3.keep0 hq2
    have hI3 := isl_stp S3 hI2
    have hI32 := isl_stp S3 hI22
    walk_at "rd"
    rw [if_neg (by simp)]
    walk_at "rd"
    refine ⟨o, q, ord, evs, _, rfl, ⟨SqL.of hO3, SqL.of hq3, hI3, hP, by omega, by simp [ansL]; omega, ansL_norm hPr⟩, fun H4 b hb S4 => ?_⟩
    have hO4 := S4.keep0 hO3
    have hQ4 := S4.keep0 hQ3
    have hI4 := isl_stp S4 hI32
    walk_at "rd"
    refine ⟨o, aq, ord, avs, ps, rfl, ⟨SqL.of hO4, SqL.of hQ4, hI4, hol⟩, fun H5 b2 S5 hb2 => ?_⟩
    have eb : b = b2 := by
      rw [Bool.eq_iff_iff, hb, hb2, ansL_nba]
      exact and_iff_left ansL_ag
    subst eb
    walk_at "rd"
    exact q_true (by simp) (k _ ((S.trans S2).trans (S3.trans (S4.trans S5))))

def key (X : List (List Int)) (p : Nat) : Int := getE (getX X p) 0
theorem kG_one {up : Bool} {X : List (List Int)} {p q : Nat} : kG [(0, up)] X p q = if key X p ≠ key X q then decide (key X p < key X q) == up else false := by
  unfold kG key
  simp only [keyB]
theorem key_ahd {up : Bool} {X : List (List Int)} {p q : Nat} (hp : p < X.length) (hq : q < X.length) (h : rkOf X.length (kG [(0, up)] X) p < rkOf X.length (kG [(0, up)] X) q ∨ (rkOf X.length (kG [(0, up)] X) p = rkOf X.length (kG [(0, up)] X) q ∧ p < q)) :
    (key X p = key X q ∧ p < q) ∨ (key X p ≠ key X q ∧ decide (key X p < key X q) = up) := by
  have h1 := kG_rank (cols := [(0, up)]) hp hq
  have h2 := kG_rank (cols := [(0, up)]) hq hp
  rw [kG_one] at h1 h2
  by_cases e : key X p = key X q
  · rw [if_neg (by simp [e])] at h1
    have h1' : ¬ rkOf X.length (kG [(0, up)] X) p < rkOf X.length (kG [(0, up)] X) q := fun z => by have := h1.mpr z; cases this
    exact .inl ⟨e, by omega⟩
  · rw [if_pos e] at h1
    rw [if_pos (Ne.symm e)] at h2
    refine .inr ⟨e, ?_⟩
    have h2' : ¬ (decide (key X q < key X p) == up) = true := fun z => by have := h2.mp z; omega
    cases up with
    | true =>
      have : ¬ key X q < key X p := fun z => h2' (by simp [z])
      exact decide_eq_true (by omega)
    | false =>
      have : key X q < key X p := by
        by_cases z : key X q < key X p
        · exact z
        · exact (h2' (by simp [z])).elim
      exact decide_eq_false (by omega)
theorem pw_idx {R : Nat → Nat → Prop} {ord : List Nat} (hP : Pap ord) (hw : ord.Pairwise R) {p q : Nat} (hp : p < ord.length) (hq : q < ord.length) (h : ord.idxOf p < ord.idxOf q) : R p q := by
  obtain ⟨h1, e1⟩ := hP.idx hp
  obtain ⟨h2, e2⟩ := hP.idx hq
  obtain ⟨_, e1⟩ := List.getElem?_eq_some_iff.mp e1
  obtain ⟨_, e2⟩ := List.getElem?_eq_some_iff.mp e2
  have := List.pairwise_iff_getElem.mp hw _ _ h1 h2 h
  rw [e1, e2] at this
  exact this
theorem ch_at2 {R : Nat → Nat → Prop} {ord : List Nat} (hw : ord.Pairwise R) {j p q : Nat} (hp : ord[j]? = some p) (hq : ord[j + 1]? = some q) : R p q := by
  obtain ⟨h1, e1⟩ := List.getElem?_eq_some_iff.mp hp
  obtain ⟨h2, e2⟩ := List.getElem?_eq_some_iff.mp hq
  have := List.pairwise_iff_getElem.mp hw _ _ h1 h2 (by omega)
  rw [e1, e2] at this
  exact this
theorem said_idx {up : Bool} {X : List (List Int)} {ord : List Nat} (hP : Pap ord) (hl : ord.length = X.length)
    (hw : ord.Pairwise fun p q => (key X p = key X q ∧ p < q) ∨ (key X p ≠ key X q ∧ decide (key X p < key X q) = up)) {p q : Nat} (hp : p < X.length) (hq : q < X.length) (hpq : q < p) :
    keyB [(0, up)] [key X p] [key X q] = decide (ord.idxOf p < ord.idxOf q) := by
  have e : keyB [(0, up)] [key X p] [key X q] = if key X p ≠ key X q then decide (key X p < key X q) == up else false := rfl
  rw [e]
  by_cases c : ord.idxOf p < ord.idxOf q
  · rw [decide_eq_true c]
    rcases pw_idx hP hw (by omega) (by omega) c with ⟨a, b⟩ | ⟨a, b⟩
    · omega
    · rw [if_pos a, b]; simp
  · rw [decide_eq_false c]
    have c' : ord.idxOf q < ord.idxOf p := by
      have : ord.idxOf p ≠ ord.idxOf q := fun z => by have := pap_inj hP (by omega) (by omega) z; omega
      omega
    rcases pw_idx hP hw (by omega) (by omega) c' with ⟨a, b⟩ | ⟨a, b⟩
    · rw [if_neg (by simp [a])]
    · rw [if_pos (Ne.symm a)]
      have : decide (key X p < key X q) = !up := by
        rw [← b]
        rw [← decide_not]
        exact decide_eq_decide.mpr (by omega)
      rw [this]
      cases up <;> rfl
theorem said_turn {ord : List Nat} (hP : Pap ord) {p q : Nat} (hp : p < ord.length) (hq : q < ord.length) (hne : p ≠ q) : decide (decide (ord.idxOf (max p q) < ord.idxOf (min p q)) = decide (q < p)) = decide (ord.idxOf p < ord.idxOf q) := by
  have hi : ord.idxOf p ≠ ord.idxOf q := fun z => hne (pap_inj hP hp hq z)
  by_cases c : q < p
  · rw [Nat.max_eq_left (by omega), Nat.min_eq_right (by omega), decide_eq_true c]
    by_cases d : ord.idxOf p < ord.idxOf q <;> simp [d]
  · rw [Nat.max_eq_right (by omega), Nat.min_eq_left (by omega), decide_eq_false c]
    by_cases d : ord.idxOf p < ord.idxOf q
    · have d' : ¬ ord.idxOf q < ord.idxOf p := by omega
      simp [d, d']
    · have d' : ord.idxOf q < ord.idxOf p := by omega
      simp [d, d']
theorem RowP.app {H : Hp} {row : List V} {ks : List Int} {t : Addr} {k : Int} (h : RowP H row ks) (ht : H t = some (.tup [.int k, .int (row.length : Nat)])) : RowP H (row ++ [.ref t]) (ks ++ [k]) := by
  refine ⟨by simp [h.1], fun i v e => ?_⟩
  by_cases hi : i < row.length
  · rw [List.getElem?_append_left hi] at e
    obtain ⟨t', a, b⟩ := h.2 i v e
    exact ⟨t', a, by rw [getE_app (by rw [← h.1]; exact hi)]; exact b⟩
  · rw [List.getElem?_append_right (by omega)] at e
    have hz : i = row.length := by
      have := (List.getElem?_eq_some_iff.mp e).1
      simp at this; omega
    subst hz
    simp at e
    exact ⟨t, e.symm, by rw [getE_last h.1.symm]; exact ht⟩
theorem rep0 (n : Nat) : ((List.replicate ((n : Nat) : Int).toNat [V.int 0]).flatten) = nv (List.replicate n 0) := by
  rw [show ((n : Nat) : Int).toNat = n by omega]
  unfold nv
  rw [List.map_replicate]
  induction n with
  | zero => rfl
  | succ n ih => rw [List.replicate_succ, List.flatten_cons, ih, List.replicate_succ]; rfl
theorem Ask.Msub (I : Ask) {b : Addr} (h : b ∈ I.M) : b ∈ I.own := by
  simp only [Ask.M, Ask.own, List.mem_cons, List.not_mem_nil, or_false] at h ⊢
  rcases h with h | h <;> simp [h]
theorem Ask.At.freshO' {I : Ask} {K : PySem.W.Frag} {A : Ad} {H : Hp} {log : List Ent} (h : I.At K A H log) {b : Addr} (hb : H b = none) : b ∉ I.own := by
  obtain ⟨evs, h2, _⟩ := h.hl
  simp only [Ask.own, List.mem_cons, List.not_mem_nil, or_false, not_or]
  exact ⟨(ne_of_none h.hs hb).symm, (ne_of_none h2 hb).symm, (ne_of_none h.hr hb).symm, (ne_of_none h.hu hb).symm, (ne_of_none h.hc hb).symm⟩
/-! ### the law -/
def sp_law (K : PySem.W.Frag) (A : Ad) : Sp := lawSp K
theorem ok_law {P : Program} {w : World} {K : PySem.W.Frag} {mg : Str → Option Value} {base : Heap} {A : Ad} {f : Addr} {fd : FuncData} (F : Fun K "law" "law" s_law f fd) (T : Txt K mg A) (M_Asker_ahead : SH.CalM P w K mg base CX0 2 A.Asker "ahead" [] (sp_Asker_ahead K A)) (M_Asker_answers : SH.CalM P w K mg base CX0 1 A.Asker "answers" [] (sp_Asker_answers K A)) (C__law_answers : SH.Cal P w K mg base CX0 7 "_law_answers" [] (sp__law_answers K A)) (C__law_asks : SH.Cal P w K mg base CX0 3 "_law_asks" [] (sp__law_asks K A)) (C__law_cell_at : SH.Cal P w K mg base CX0 1 "_law_cell_at" [] (sp__law_cell_at K A)) (C__law_row_of : SH.Cal P w K mg base CX0 2 "_law_row_of" [] (sp__law_row_of K A)) (C_laid : SH.Cal P w K mg base CX0 4 "laid" [] (sp_laid K A)) (N_Asker_d1 : SH.CalC P w K mg base CX0 1 "Asker" A.Asker [.non] (sp_Asker___init__ K A)) (N_KeyRule : SH.CalC P w K mg base CX0 2 "KeyRule" A.KeyRule [] (sp_KeyRule___init__ K A)) (C_ranked : SH.Cal P w K mg base CX0 3 "ranked" [] (sp_ranked K A)) (C_shows : SH.Cal P w K mg base CX0 6 "shows" [] (sp_shows K A)) : FnOk P w K mg base CX0 8 f fd ["_law_script"] (sp_law K A) := by
  refine F.ok sc_law (fun vs H Q E h => by obtain ⟨_, _, rfl, _⟩ := h; rfl) (fun cdv A' outer s H vs Q E hr h => ?_)
  obtain ⟨a, ns, rfl, hS, hlen, k⟩ := h
  refine ⟨_, (pss_cons (ps_set (i := 1) sc_law.nd rfl (Or.inl rfl) (SH.pe_callF C__law_row_of hr (by rfl) pass0 (pa_cons (pv 0) pa_nil)))
        (pss_cons (ps_set (i := 2) sc_law.nd rfl (Or.inl rfl) (pe_callB SH.cLen (by rfl) T.z_len (by decide +kernel) (pa_cons (pv 1) pa_nil)))
        (pss_cons (ps_set (i := 3) sc_law.nd rfl (Or.inl rfl) (pe_ix SH.ixA (pe_lst (pa_cons pe_str (pa_cons pe_str pa_nil))) (pe_op SH.oMod (pe_op SH.oDiv (SH.pe_callF C__law_cell_at hr (by rfl) pass0 (pa_cons (pv 0) (pa_cons pe_int pa_nil))) pe_int) pe_int) (fun _ _ => rfl)))
        (pss_cons (ps_set (i := 4) sc_law.nd rfl (Or.inl rfl) (SH.pe_makeF N_KeyRule hr (by rfl) pass0 (pa_cons (pe_lst (pa_cons (pe_tup (pa_cons pe_int (pa_cons (pv 3) pa_nil))) pa_nil)) pa_nil)))
        (pss_cons (ps_set (i := 5) sc_law.nd rfl (Or.inr rfl) (SH.pe_callF C_ranked hr (by rfl) pass0 (pa_cons (pe_callTy SH.cListOf (by rfl) T.z_list (by decide +kernel) (pa_cons (pv 1) pa_nil)) (pa_cons (pv 4) pa_nil))))
        (pss_cons (ps_if (PW.pt (pw_or (pt_not (pt_val (pe_callB call_isi (by rfl) T.z_isinstance (by decide +kernel) (pa_cons (pv 5) (pa_cons (pe_bltn (v := .ty "tuple") (by rfl) T.z_tuple (by decide +kernel) rfl) pa_nil))))) (pw_or (pt_cmpR (SH.oNe hr.units) (pe_callB SH.cLen (by rfl) T.z_len (by decide +kernel) (pa_cons (pv 5) pa_nil)) pe_int (nomark _)) (pw_or (pt_cmpR (SH.oNe hr.units) (pe_ix SH.ixA (pv 5) pe_int (fun _ _ => rfl)) pe_str (nomark _)) (pw_or1 (pt_cmpR (SH.oNe hr.units) (pe_callB SH.cLen (by rfl) T.z_len (by decide +kernel) (pa_cons (pe_ix SH.ixA (pv 5) pe_int (fun _ _ => rfl)) pa_nil)) (pv 2) (nomark _))))))) (pss_one (ps_ret pe_bl)) pss_nil)
        (pss_cons (ps_setLc (i := 7) (own := [("_law_rank", 18), ("_law_place", 19)]) (g := (gTup K 2 (gCons (gName 18) (gCons (gName 19) gNil)))) (tt := tYes) (by rfl) sc_law.nd rfl rfl (sw_true rfl rfl rfl (by decide +kernel)) (pi_list (pe_callB cr_sortedPO (by rfl) T.z_sorted (by decide +kernel) (pa_cons (pe_lc (own := [("_law_k", 6)]) (g := (gName 6)) (tt := tYes) (by rfl) sc_law.nd (pi_range1 (by rfl) T.z_range (pa_cons (pv 2) pa_nil)) (blkOk_by (own := [("_law_k", 6)]) (N := ["_law_script", "_law_row", "_law_many", "_law_way", "_law_rule", "_law_found", "_law_k", "_law_paper", "_law_things", "_law_turn", "_law_asker", "_law_asked", "_law_some", "_law_others", "_law_pairs_here", "_law_p", "_law_q", "_law_said", "_law_rank", "_law_place"]) (sc := defScope s_law) (by decide +kernel)) (fun _ _ _ _ _ => (pg_name (i := 6) sc_law.nd rfl (Or.inl rfl))) (fun _ _ _ _ _ => pts_nil) (fun _ _ _ _ _ => (pe_tup (pa_cons (pe_ix (SH.ixK SH.aIx K SH.ixA) (pe_ix (SH.ixK SH.aIx K SH.ixA) (pv 5) pe_int (fun _ _ => rfl)) (pv 6) (fun _ _ => rfl)) (pa_cons (pv 6) pa_nil))))) pa_nil))) (blkOk_by (own := [("_law_rank", 18), ("_law_place", 19)]) (N := ["_law_script", "_law_row", "_law_many", "_law_way", "_law_rule", "_law_found", "_law_k", "_law_paper", "_law_things", "_law_turn", "_law_asker", "_law_asked", "_law_some", "_law_others", "_law_pairs_here", "_law_p", "_law_q", "_law_said", "_law_rank", "_law_place"]) (sc := defScope s_law) (by decide +kernel)) (fun _ _ _ _ _ => (pg_tup (by rfl) (pgs_cons (pg_name (i := 18) sc_law.nd rfl (Or.inl rfl)) (pgs_cons (pg_name (i := 19) sc_law.nd rfl (Or.inl rfl)) pgs_nil)))) (fun _ _ _ _ _ => pts_nil) (fun _ _ _ _ _ => (pv 19)))
        (pss_cons (ps_set (i := 8) sc_law.nd rfl (Or.inl rfl) (SH.pe_callF C_laid hr (by rfl) pass0 (pa_cons (pv 1) (pa_cons (pv 7) pa_nil))))
        (pss_cons (ps_for PassesOwn.never rfl (pi_range1 (by rfl) T.z_range (pa_cons (pe_op SH.oSub (pv 2) pe_int) pa_nil)) (pg_name (i := 6) sc_law.nd rfl (Or.inl rfl)) (pss_cons (ps_if (PW.pt (pw_and (pt_cmpR (SH.oEq hr.units) (pe_cmpR SH.oGt (pe_ix SH.ixA (pe_ix SH.ixA (pv 8) (pv 6) (fun _ _ => rfl)) pe_int (fun _ _ => rfl)) (pe_ix SH.ixA (pe_ix SH.ixA (pv 8) (pe_op SH.oAdd (pv 6) pe_int) (fun _ _ => rfl)) pe_int (fun _ _ => rfl)) (nomark _)) (pe_cmpR (SH.oEq hr.units) (pv 3) pe_str (nomark _)) (nomark _)) (pw_and1 (pt_cmpR (SH.oNe hr.units) (pe_ix SH.ixA (pe_ix SH.ixA (pv 8) (pv 6) (fun _ _ => rfl)) pe_int (fun _ _ => rfl)) (pe_ix SH.ixA (pe_ix SH.ixA (pv 8) (pe_op SH.oAdd (pv 6) pe_int) (fun _ _ => rfl)) pe_int (fun _ _ => rfl)) (nomark _))))) (pss_one (ps_ret pe_bl)) pss_nil)
        (pss_one (ps_if (PW.pt (pw_and (pt_cmpR (SH.oEq hr.units) (pe_ix SH.ixA (pe_ix SH.ixA (pv 8) (pv 6) (fun _ _ => rfl)) pe_int (fun _ _ => rfl)) (pe_ix SH.ixA (pe_ix SH.ixA (pv 8) (pe_op SH.oAdd (pv 6) pe_int) (fun _ _ => rfl)) pe_int (fun _ _ => rfl)) (nomark _)) (pw_and1 (pt_cmpR SH.oGt (pe_ix SH.ixA (pv 7) (pv 6) (fun _ _ => rfl)) (pe_ix SH.ixA (pv 7) (pe_op SH.oAdd (pv 6) pe_int) (fun _ _ => rfl)) (nomark _))))) (pss_one (ps_ret pe_bl)) pss_nil))))
        (pss_cons (ps_set (i := 9) sc_law.nd rfl (Or.inl rfl) (pe_op SH.oMul (pe_lst (pa_cons pe_int pa_nil)) (pv 2)))
        (pss_cons (ps_for PassesOwn.never rfl (pi_range1 (by rfl) T.z_range (pa_cons (pv 2) pa_nil)) (pg_name (i := 6) sc_law.nd rfl (Or.inl rfl)) (pss_one (ps_asg (pv 6) (pg_sub (pv 9) (pe_ix SH.ixA (pv 7) (pv 6) (fun _ _ => rfl)) set_list))))
        (pss_cons (ps_set (i := 10) sc_law.nd rfl (Or.inl rfl) (SH.pe_makeF N_Asker_d1 hr (by rfl) pass0 (pa_cons (pv 1) (pa_cons (pv 4) pa_nil))))
        (pss_cons (ps_set (i := 11) sc_law.nd rfl (Or.inl rfl) (pe_lst pa_nil))
        (pss_cons (ps_asg (SH.pe_callF C__law_asks hr (by rfl) pass0 (pa_cons (pv 0) (pa_cons (pv 7) pa_nil))) (pg_lst rfl (pgs_cons (pg_name (i := 12) sc_law.nd rfl (Or.inl rfl)) (pgs_cons (pg_name (i := 13) sc_law.nd rfl (Or.inl rfl)) pgs_nil))))
        (pss_cons (ps_set (i := 14) sc_law.nd rfl (Or.inl rfl) (pe_op SH.oAdd (pv 12) (pv 13)))
        (pss_cons (ps_for PassesOwn.never rfl (pi_range1 (by rfl) T.z_range (pa_cons (pe_callB SH.cLen (by rfl) T.z_len (by decide +kernel) (pa_cons (pv 14) pa_nil)) pa_nil)) (pg_name (i := 6) sc_law.nd rfl (Or.inl rfl)) (pss_cons (ps_asg (pe_ix SH.ixA (pv 14) (pv 6) (fun _ _ => rfl)) (pg_tup (by rfl) (pgs_cons (pg_name (i := 15) sc_law.nd rfl (Or.inl rfl)) (pgs_cons (pg_name (i := 16) sc_law.nd rfl (Or.inl rfl)) pgs_nil))))
        (pss_cons (ps_if (PW.pt (pw_and (pt_cmpR SH.oGe (pv 6) (pe_callB SH.cLen (by rfl) T.z_len (by decide +kernel) (pa_cons (pv 12) pa_nil)) (nomark _)) (pw_and1 (pt_not (pt_val (SH.pe_callF C__law_answers hr (by rfl) pass0 (pa_cons (pv 10) (pa_cons (pv 7) (pa_cons (pv 9) (pa_cons (pv 11) pa_nil)))))))))) (pss_one (ps_ret pe_bl)) pss_nil)
        (pss_cons (ps_set (i := 17) sc_law.nd rfl (Or.inl rfl) (SH.pe_methF (pv 10) M_Asker_ahead hr pass0 (pa_cons (pv 15) (pa_cons (pv 16) pa_nil))))
        (pss_cons (ps_if (PW.pt (pw_or (pt_not (pt_val (pe_callB call_isi (by rfl) T.z_isinstance (by decide +kernel) (pa_cons (pv 17) (pa_cons (pe_bltn (v := .ty "bool") (by rfl) T.z_bool (by decide +kernel) rfl) pa_nil))))) (pw_or1 (pt_cmpR (SH.oNe hr.units) (pv 17) (pe_cmpR (SH.oLt hr.units0) (pe_ix SH.ixA (pv 9) (pv 15) (fun _ _ => rfl)) (pe_ix SH.ixA (pv 9) (pv 16) (fun _ _ => rfl)) (nomark _)) (nomark _))))) (pss_one (ps_ret pe_bl)) pss_nil)
        (pss_one (ps_expr (pe_bm PySem.F.plainAttrs_list PySem.F.slot_list_append PySem.F.type_list_append mt_append (pv 11) (pa_cons (pe_tup (pa_cons (pv 15) (pa_cons (pv 16) pa_nil))) pa_nil)))))))))
        (pss_one (ps_ret (pe_and (SH.pe_callF C__law_answers hr (by rfl) pass0 (pa_cons (pv 10) (pa_cons (pv 7) (pa_cons (pv 9) (pa_cons (pv 11) pa_nil))))) (pe_one (pe_cmpR SH.oIsB (SH.pe_callF C_shows hr (by rfl) pass0 (pa_cons (pv 7) (pa_cons (SH.pe_methF0 (pv 10) M_Asker_answers hr pass0) pa_nil))) pe_bl (nomark _)))))))))))))))))))))), ?_⟩
  walk_at "begin"
  walk_at "rd"
  refine ⟨a, ns, rfl, ⟨hS, hlen⟩, fun rq H1 rvs X hrq S1 hR hX hXl => ?_⟩
  have hS1 := S1.sql0 hS
  have hrl := hX.1
  walk_at "rd"
  intro wl hwl
  have S2 := (Stp.refl [] H1).new (o := .lst [.str "up", .str "down"]) hwl
  have hwl2 := upd_same (H := H1) (a := wl) (o := .lst [.str "up", .str "down"])
  have hS2 := S2.sql0 hS1
  have hR2 := S2.keep0 hR
  have hX2 := hX.stp S2
  generalize upd H1 wl (.lst [.str "up", .str "down"]) = H2 at S2 hwl2 hS2 hR2 hX2 ⊢
  clear hS1 hR hX
  walk_at "rd"
  refine ⟨a, ns, 0, rfl, hS2, fun c0 => ?_⟩
  walk_at "rd"
  refine v_ixMod (m := 2) (SqL.of hwl2) rfl (by decide) fun v hv => ?_
  have hv' : ∃ b, v = .str (wayS b) := by
    rcases List.mem_cons.mp hv with rfl | hv
    · exact ⟨true, rfl⟩
    rw [List.mem_singleton] at hv
    exact ⟨false, hv⟩
  obtain ⟨up, rfl⟩ := hv'
  clear hv
  walk_at "rd"
  intro t0 ht0
  walk_at "rd"
  intro p0 hp0
  have S3 := ((Stp.refl [] H2).new (o := .tup [.int 0, .str (wayS up)]) ht0).new (o := .lst [.ref t0]) hp0
  have ht3 := upd_old (u := .lst [.ref t0]) (upd_same (H := H2) (a := t0) (o := .tup [.int 0, .str (wayS up)])) hp0
  have hp3 := upd_same (H := upd H2 t0 (.tup [.int 0, .str (wayS up)])) (a := p0) (o := .lst [.ref t0])
  have hS3 := S3.sql0 hS2
  have hR3 := S3.keep0 hR2
  have hX3 := hX2.stp S3
  generalize upd (upd H2 t0 (.tup [.int 0, .str (wayS up)])) p0 (.lst [.ref t0]) = H3 at S3 ht3 hp3 hS3 hR3 hX3 ⊢
  clear S1 S2 S3 hS2 hR2 hX2 hS hwl hwl2 ht0 hp0 hrq
  have hcols : ∀ {H : Hp}, H t0 = some (.tup [.int 0, .str (wayS up)]) → Cols K H [.ref t0] [(0, up)] := fun {H} e => ⟨rfl, fun j v e' => by
    match j, e' with
    | 0, e' => cases e'; exact ⟨t0, (0, up), rfl, rfl, e⟩⟩
  walk_at "rd"
  intro u du hu hdu hne
  have S5 : Stp [] H3 (upd (upd H3 du (.own u)) u (.ins A.KeyRule du [])) := ((Stp.refl [] H3).new hdu).new (by rw [upd_ne hne.symm]; exact hu)
  refine ⟨u, p0, [.ref t0], [(0, up)], rfl, ⟨du, upd_same⟩, ⟨S5.sql0 (SqL.of hp3), hcols (S5.keep0 ht3), by simp, by simp⟩, fun dx l H6 hl hul hu6 hl6 S6 => ⟨rfl, ?_⟩⟩
  have S36 : Stp [] H3 H6 := S5.then S6 (by simp; exact hu)
  have ht6 := S36.keep0 ht3
  have hS6 := S36.sql0 hS3
  have hR6 := S36.keep0 hR3
  have hX6 := hX3.stp S36
  clear S36 S6 S5 ht3 hp3 hS3 hR3 hX3 hl hul hu hdu hne
  walk_at "rd"
  intro cq hcq
  have S7 := (Stp.refl [] H6).new (o := .lst rvs) hcq
  have hcq7 := upd_same (H := H6) (a := cq) (o := .lst rvs)
  have ht7 := S7.keep0 ht6
  have hS7 := S7.sql0 hS6
  have hR7 := S7.keep0 hR6
  have hX7 := hX6.stp S7
  have hu7 := S7.keep0 hu6
  have hl7 := S7.keep0 hl6
  generalize upd H6 cq (.lst rvs) = H7 at S7 hcq7 ht7 hS7 hR7 hX7 hu7 hl7 ⊢
  clear S7 hcq ht6 hS6 hR6 hX6 hu6 hl6
  walk_at "rd"
  refine ⟨cq, u, rvs, X, [(0, up)], rfl, ⟨SqL.of hcq7, hX7, by omega, ⟨_, l, _, hu7, hl7, hcols ht7, by simp⟩⟩, fun t H8 lq ht S8 ht8 hlq hlq8 => ?_⟩
  have htt8 := S8.tup ht7
  have hS8 := S8.sql0 hS7
  have hR8 := S8.keep0 hR7
  have hX8 := hX7.stp S8
  have hu8 := S8.keep0 hu7
  have hl8 := S8.keep0 hl7
  clear S8 hcq7 ht7 hS7 hR7 hX7 hu7 hl7 ht hlq
  generalize hR : rkOf X.length (kG [(0, up)] X) = R at hlq8
  walk_at "rd"
  refine ⟨_, rfl, ?_⟩
  walk_at "rd"
  refine v_ixTn (n := 0) (SqT.of ht8) rfl rfl ?_
  walk_at "rd"
  refine v_neS ?_
  rw [decide_eq_true rfl]
  walk_at "rd"
  refine v_ixTn (n := 1) (SqT.of ht8) rfl rfl ?_
  walk_at "rd"
  refine r_nwF (by simp; omega) ?_
  walk_at "rd"
  rw [hrl]
  intro D hD
  refine lc_it walk_range (fun j H' => Stp [] H8 H' ∧ ∃ row2, H' D = some (.lst row2) ∧ RowP H' row2 ((List.range j).map fun i => (R i : Int))) ⟨(Stp.refl _ _).new hD, [], upd_same, rfl, fun i v e => by cases e⟩ (fun _ _ _ _ => True.intro) ?_ ?_
  · rintro j x H3 H4 hj ⟨S, row2, hL, hP2⟩ ⟨rfl, rfl⟩
    have hj' : j < X.length := by omega
    have hlq4 := S.keep0 hlq8
    have ht4 := S.tup ht8
    simp only [Int.zero_add]
    walk_at "rd"
    refine v_ixTn (n := 1) (SqT.of ht4) rfl rfl ?_
    walk_at "rd"
    refine v_ixLn (n := j) (v := .int (R j : Nat)) (SqL.of hlq4) rfl (by unfold nv; rw [List.getElem?_map, List.getElem?_map, List.getElem?_range hj']; rfl) ?_
    walk_at "rd"
    intro t2 ht2
    have hr2 := hP2.1
    rw [List.length_map, List.length_range] at hr2
    have ntD : t2 ≠ D := (ne_of_none hL ht2).symm
    have S' : Stp [D] H4 (upd (upd H4 t2 (.tup [.int (R j : Nat), .int (j : Nat)])) D (.lst (row2 ++ [.ref t2]))) := ((Stp.refl [D] H4).new ht2).putL (by simp) (upd_old hL ht2)
    refine ⟨row2, upd_old hL ht2, Nat.lt_of_le_of_lt (m := 1000) (by omega) (by decide), (S.new ht2).putN hD, row2 ++ [.ref t2], upd_same, ?_⟩
    rw [List.range_succ, List.map_append]
    exact RowP.app (hP2.stp S') (by rw [upd_ne ntD, upd_same, hr2])
  rintro H9 ⟨S9, row2, hD9, hP9⟩
  have hXn : ((X.length : Nat) : Int).toNat = X.length := by omega
  rw [hXn] at hP9
  generalize hks : (List.range X.length).map (fun i => (R i : Int)) = ks2 at hP9
  have hks2l : ks2.length = X.length := by rw [← hks]; simp
  have hksR : ∀ p, p < X.length → getE ks2 p = R p := fun p hp => by rw [← hks]; unfold getE; simp [hp]
  have htt9 := S9.tup htt8
  have hS9 := S9.sql0 hS8
  have hR9 := S9.keep0 hR8
  have hX9 := hX8.stp S9
  have hu9 := S9.keep0 hu8
  have hl9 := S9.keep0 hl8
  clear S9 htt8 hS8 hR8 hX8 hu8 hl8 hlq8 ht8 hD
  walk_at "rd"
  refine ⟨D, row2, kOf H9, rfl, SqL.of hD9, fun x hx => ?_, fun zs zl hsrt hstb hzl => ?_⟩
  · obtain ⟨i, hi, e⟩ := List.getElem_of_mem hx
    obtain ⟨t, h1, h2⟩ := hP9.2 i x (by rw [← e]; exact List.getElem?_eq_getElem hi)
    exact ⟨t, h1, by rw [h1, kOf_at h2]; exact h2⟩
  have hzs : ∀ x ∈ zs, ∃ (t : Addr) (p : Nat), x = .ref t ∧ H9 t = some (.tup [.int (getE ks2 p), .int (p : Nat)]) ∧ p < ks2.length := fun x hx => by
    obtain ⟨i, hi, e⟩ := List.getElem_of_mem (hstb.perm.mem_iff.mp hx)
    obtain ⟨t, h1, h2⟩ := hP9.2 i x (by rw [← e]; exact List.getElem?_eq_getElem hi)
    exact ⟨t, i, h1, h2, by have := hP9.1; omega⟩
  have hzl2 := hstb.len
  have hr2l := hP9.1
  walk_at "rd"
  intro oq hoq
  refine lc_it (walk_list (xs := zs)) (fun j H' => Stp [] (upd H9 zl (.lst zs)) H' ∧ ∃ ord : List Nat, ord.length = j ∧ (∀ (i o : Nat), ord[i]? = some o → ∃ t, zs[i]? = some (.ref t) ∧ H9 t = some (.tup [.int (getE ks2 o), .int (o : Nat)])) ∧ H' oq = some (.lst (nv ord))) ⟨(Stp.refl _ _).new hoq, [], rfl, (by intro i o e; simp at e), upd_same⟩ (fun j H' _ z => z.1.sql0 (SqL.of upd_same)) ?_ ?_
  · rintro j x H4 H5 hj ⟨S, ord, hol, hord, hL⟩ ⟨rfl, hx⟩
    obtain ⟨t, p, rfl, ht, hp1⟩ := hzs x (List.mem_of_getElem? hx)
    have ht5 := S.tup (upd_old (u := .lst zs) ht hzl)
    walk_at "rd"
    refine ⟨_, hL, Nat.lt_of_le_of_lt (m := 1000) (by rw [List.length_map]; omega) (by decide), S.putN hoq, ord ++ [p], by simp [hol], fun i o e => ?_, by rw [upd_same, nv_app]⟩
    by_cases hi : i < ord.length
    · rw [List.getElem?_append_left hi] at e; exact hord i o e
    · rw [List.getElem?_append_right (by omega)] at e
      have hz : i = ord.length := by
        have := (List.getElem?_eq_some_iff.mp e).1
        simp at this; omega
      subst hz
      simp at e
      subst e
      exact ⟨t, by rw [hol]; exact hx, ht⟩
  rintro H10 ⟨S10, ord, hol, hord, hO10⟩
  have hOrd := sorted_ord hP9 hsrt hstb.perm hol hord
  have S910 : Stp [] H9 H10 := (Stp.refl _ _ |>.new hzl).trans S10
  have holn := hOrd.len
  have htt10 := S910.tup htt9
  have hS10 := S910.sql0 hS9
  have hR10 := S910.keep0 hR9
  have hX10 := hX9.stp S910
  have hu10 := S910.keep0 hu9
  have hl10 := S910.keep0 hl9
  clear S10 S910 hoq hzl hsrt hstb hzl2 hord hol hzs htt9 hS9 hR9 hX9 hu9 hl9 hD9 hP9
  have hPap : Pap ord := by unfold Pap; rw [holn]; exact hOrd.perm
  have hon : ord.length = X.length := by omega
  have hpw : ord.Pairwise fun p q => (key X p = key X q ∧ p < q) ∨ (key X p ≠ key X q ∧ decide (key X p < key X q) = up) := by
    refine hOrd.pw.imp_of_mem fun {p q} hp hq h => ?_
    have hp' : p < X.length := by have := hOrd.lt hp; omega
    have hq' : q < X.length := by have := hOrd.lt hq; omega
    refine key_ahd hp' hq' ?_
    unfold Ahd at h
    rw [hksR p hp', hksR q hq'] at h
    rw [hR]
    omega
  clear hOrd hksR hks hr2l
  walk_at "rd"
  refine ⟨rq, oq, rvs, ord, rfl, ⟨SqL.of hR10, SqL.of hO10, by omega, by omega, hPap⟩, fun th H11 hth S11 hth11 => ?_⟩
  have htt11 := S11.tup htt10
  have hS11 := S11.sql0 hS10
  have hR11 := S11.keep0 hR10
  have hX11 := hX10.stp S11
  have hu11 := S11.keep0 hu10
  have hl11 := S11.keep0 hl10
  have hO11 := S11.keep0 hO10
  clear S11 htt10 hS10 hR10 hX10 hu10 hl10 hO10 hth
  have hlay : ∀ {H' : Hp}, RowX H' rvs X → ∀ (i p : Nat), ord[i]? = some p → ∃ x y, (lay V.non rvs ord)[i]? = some (.ref x) ∧ H' x = some (.tup [.int (key X p), .int y]) := fun {H'} hX i p hp => by
    have hpl : p < rvs.length := by have := hPap.lt (List.mem_of_getElem? hp); omega
    obtain ⟨x, xs, e1, e2, e3, e4⟩ := hX.2 p _ (List.getElem?_eq_getElem hpl)
    refine ⟨x, getE xs 1, ?_, ?_⟩
    · unfold lay
      rw [List.getElem?_map, hp]
      show some (rvs.getD p .non) = _
      rw [List.getD, List.getElem?_eq_getElem hpl, e1]
      rfl
    · have : xs = [key X p, getE xs 1] := by
        unfold key
        rw [getX_at e2]
        match xs, e4 with
        | [a, b], _ => rfl
      rw [e3, this]
      rfl
  walk_at "rd"
  refine for_it walk_range (fun j σ H' => H' = H11 ∧ ∃ v6, σ = [some (.ref a), some (.ref rq), some (.int X.length), some (.str (wayS up)), some (.ref u), some (.ref t), v6, some (.ref oq), some (.ref th), none, none, none, none, none, none, none, none, none, none, none]) ⟨rfl, _, rfl⟩ (fun _ _ _ _ _ => True.intro) ?_ ?_
  · rintro j x σ H1 H2 hj ⟨rfl, v6, rfl⟩ ⟨rfl, rfl⟩
    have hj1 : j + 1 < ord.length := by omega
    obtain ⟨p, hp⟩ : ∃ p, ord[j]? = some p := ⟨_, List.getElem?_eq_getElem (by omega)⟩
    obtain ⟨q, hq⟩ : ∃ q, ord[j + 1]? = some q := ⟨_, List.getElem?_eq_getElem hj1⟩
    have hp' : (nv ord)[j]? = some (.int p) := by unfold nv; rw [List.getElem?_map, hp]; rfl
    have hq' : (nv ord)[j + 1]? = some (.int q) := by unfold nv; rw [List.getElem?_map, hq]; rfl
    obtain ⟨x1, y1, e1, f1⟩ := hlay hX11 j p hp
    obtain ⟨x2, y2, e2, f2⟩ := hlay hX11 (j + 1) q hq
    have hpq := ch_at2 hpw hp hq
    simp only [Int.zero_add]
    walk_at "rd"
    refine v_ixLn (n := j) (SqL.of hth11) rfl e1 ?_
    walk_at "rd"
    refine v_ixTn (n := 0) (SqT.of f1) rfl rfl ?_
    walk_at "rd"
    refine v_ixLn (n := j + 1) (SqL.of hth11) (by omega) e2 ?_
    walk_at "rd"
    refine v_ixTn (n := 0) (SqT.of f2) rfl rfl ?_
    walk_at "rd"
    refine v_eqS ?_
    rw [wayS_up]
    walk_at "rd"
    refine r_waJ (fun σ' H' => H2 = H' ∧ σ' = [some (.ref a), some (.ref rq), some (.int X.length), some (.str (wayS up)), some (.ref u), some (.ref t), some (.int j), some (.ref oq), some (.ref th), none, none, none, none, none, none, none, none, none, none, none]) ?_ (fun hc N hN => ?_) (fun hc N hN => ?_)
    · rintro σ' H' ⟨rfl, rfl⟩
      walk_at "rd"
      refine v_ixLn (n := j) (SqL.of hth11) rfl e1 ?_
      walk_at "rd"
      refine v_ixTn (n := 0) (SqT.of f1) rfl rfl ?_
      walk_at "rd"
      refine v_ixLn (n := j + 1) (SqL.of hth11) (by omega) e2 ?_
      walk_at "rd"
      refine v_ixTn (n := 0) (SqT.of f2) rfl rfl ?_
      walk_at "rd"
      refine r_w (fun hc => ?_) fun hc => ?_
      · have hlt : p < q := hpq.elim (fun z => z.2) fun z => (z.1 hc).elim
        walk_at "rd"
        refine v_ixLn (n := j) (SqL.of hO11) rfl hp' ?_
        walk_at "rd"
        refine v_ixLn (n := j + 1) (SqL.of hO11) (by omega) hq' ?_
        walk_at "rd"
        refine r_wF (by omega) ?_
        walk_at "rd"
        exact ⟨rfl, _, rfl⟩
      · refine r_F ?_
        walk_at "rd"
        exact ⟨rfl, _, rfl⟩
    · have heq : key X p = key X q := hpq.elim (fun z => z.1) fun z => by
        exfalso
        have z2 := z.2
        rw [← hc] at z2
        have := decide_eq_decide.mp z2
        have := z.1
        omega
      walk_at "rd"
      refine v_ixLn (n := j) (SqL.of hth11) rfl e1 ?_
      walk_at "rd"
      refine v_ixTn (n := 0) (SqT.of f1) rfl rfl ?_
      walk_at "rd"
      refine v_ixLn (n := j + 1) (SqL.of hth11) (by omega) e2 ?_
      walk_at "rd"
      refine v_ixTn (n := 0) (SqT.of f2) rfl rfl ?_
      walk_at "rd"
      refine r_nwF heq ?_
      walk_at "rd"
      exact hN _ _ ⟨rfl, rfl⟩
    · walk_at "rd"
      exact hN _ _ ⟨rfl, rfl⟩
  rintro σ H12 ⟨rfl, v6, rfl⟩
  walk_at "rd"
  intro z1 hz1
  walk_at "rd"
  refine v_mulL (xs := [.int 0]) (k := (X.length : Nat)) upd_same ⟨by omega, by omega⟩ (Nat.le_trans (m := 1000) (by simp; omega) (by decide)) fun sa hsa => ?_
  have S7 := ((Stp.refl [] H12).new (o := .lst [.int 0]) hz1).new (o := .lst ((List.replicate ((X.length : Nat) : Int).toNat [V.int 0]).flatten)) hsa
  have hsa7 := upd_same (H := upd H12 z1 (.lst [.int 0])) (a := sa) (o := .lst ((List.replicate ((X.length : Nat) : Int).toNat [V.int 0]).flatten))
  generalize upd (upd H12 z1 (.lst [.int 0])) sa (.lst ((List.replicate ((X.length : Nat) : Int).toNat [V.int 0]).flatten)) = H7 at S7 hsa7 ⊢
  have fsa : H12 sa = none := (upd_free hsa).1
  rw [rep0] at hsa7
  clear hz1 hsa
  walk_at "rd"
  refine for_it walk_range (fun j σ H' => ∃ (spl : List Nat) (v6 : Option V), H' sa = some (.lst (nv spl)) ∧ spl.length = ord.length ∧ (∀ i o, i < j → ord[i]? = some o → spl[o]? = some i) ∧ Stp [] H12 H' ∧ σ = [some (.ref a), some (.ref rq), some (.int X.length), some (.str (wayS up)), some (.ref u), some (.ref t), v6, some (.ref oq), some (.ref th), some (.ref sa), none, none, none, none, none, none, none, none, none, none])
    ⟨_, _, hsa7, by simp; omega, fun i o h => by omega, S7, rfl⟩ (fun _ _ _ _ _ => True.intro) ?_ ?_
  · clear S7 hsa7 H7
    rintro j x σ H7 H8 hj ⟨spl, v6, hsp7, hsl, hspl, S7, rfl⟩ ⟨rfl, rfl⟩
    have hj' : j < ord.length := by have : j < (X.length : Int).toNat := hj; omega
    have ho : ord[j]? = some ord[j] := List.getElem?_eq_getElem hj'
    have hol2 := hPap.lt (List.mem_of_getElem? ho)
    generalize ord[j] = p at ho hol2
    have hO7 := S7.keep0 hO11
    simp only [Int.zero_add]
    walk_at "rd"
    refine v_ixLn (n := j) (v := .int p) (SqL.of hO7) rfl (by unfold nv; rw [List.getElem?_map, ho]; rfl) ?_
    walk_at "rd"
    refine v_setL (n := p) hsp7 rfl (by rw [List.length_map]; omega) ?_
    walk_at "rd"
    refine ⟨spl.set p j, _, ?_, by rw [List.length_set]; exact hsl, fun i o' hi ho' => ?_, S7.putN fsa, rfl⟩
    · rw [upd_same]; unfold nv; rw [List.map_set]
    · by_cases e : i = j
      · subst e
        rw [ho] at ho'; cases ho'
        rw [List.getElem?_set, if_pos rfl, if_pos (by omega)]
      · have hne : p ≠ o' := fun z => by
          subst z
          exact e ((hPap.idx_at ho').symm.trans (hPap.idx_at ho))
        rw [List.getElem?_set, if_neg hne]
        exact hspl i o' (by omega) ho'
  rintro σ H13 ⟨spl, v6, hsa13, hsl, hspl, S13, rfl⟩
  have espl : spl = inv ord := hPap.inv_of hsl fun i p hp => hspl i p (by have := (List.getElem?_eq_some_iff.mp hp).1; omega) hp
  rw [espl] at hsa13
  have htt13 := S13.keep0 htt11
  have hS13 := S13.sql0 hS11
  have hR13 := S13.keep0 hR11
  have hX13 := hX11.stp S13
  have hu13 := S13.keep0 hu11
  have hl13 := S13.keep0 hl11
  have hO13 := S13.keep0 hO11
  clear S13 htt11 hS11 hR11 hX11 hu11 hl11 hO11 fsa hspl espl S7 hsa7 hth11
  walk_at "rd"
  intro s dx' hs hdx hne
  have S14 : Stp [] H13 (upd (upd H13 dx' (.own s)) s (.ins A.Asker dx' [])) := ((Stp.refl [] H13).new hdx).new (by rw [upd_ne hne.symm]; exact hs)
  refine ⟨s, rq, .ref u, rvs, rfl, ⟨dx', upd_same⟩, ⟨S14.sql0 (SqL.of hR13), by omega⟩, fun dx2 r l2 H14 hr hl2 hlr hsr hsl2 S15 hs14 hr14 hl14 => ⟨rfl, ?_⟩⟩
  have S : Stp [] H13 H14 := S14.then S15 (by simp; exact hs)
  have hl20 : H13 l2 = none := S14.dom _ hl2
  have hr0 : H13 r = none := S14.dom _ hr
  have hk : ∀ p, p < X.length → getE (X.map fun xs => getE xs 0) p = key X p := fun p hp => by
    unfold key
    rw [getX_at (List.getElem?_eq_getElem hp)]
    simp [getE, hp]
  obtain ⟨I, hI⟩ : ∃ I : Ask, I = ⟨s, r, l2, dx2, u, dx, l, t0, up, X.map fun xs => getE xs 0, rvs⟩ := ⟨_, rfl⟩
  have hA : I.At K A H14 [] := by
    subst hI
    refine ⟨hs14, hr14, ⟨[], hl14, isl_nil⟩, S.keep0 hu13, S.keep0 hl13, S.tup htt13, ⟨by simp; omega, fun i v e => ?_⟩, (ne_of_none hu13 hs).symm, hlr, (ne_of_none hl13 hl20).symm, by simp, by show rvs.length ≤ _; omega⟩
    obtain ⟨x, xs, e1, e2, e3, e4⟩ := hX13.2 i v e
    refine ⟨x, xs, e1, S.tup e3, by rw [e4]; decide, ?_⟩
    have hi : i < X.length := (List.getElem?_eq_some_iff.mp e2).1
    rw [hk i hi]
    unfold key
    rw [getX_at e2]
  have hIn : I.n = X.length := by rw [hI]; simp [Ask.n]
  have hIor : ∀ log p q, p < X.length → q < X.length → I.or log p q = keyB [(0, up)] [key X p] [key X q] := fun log p q hp hq => by
    rw [hI]
    show keyB [(0, up)] [getE (X.map fun xs => getE xs 0) p] [getE (X.map fun xs => getE xs 0) q] = _
    rw [hk p hp, hk q hq]
  have hIs : I.s = s := by rw [hI]
  rw [← hIs]
  have hO14 := S.keep0 hO13
  have hS14 := S.sql0 hS13
  have hsa14 := S.keep0 hsa13
  have hMo : oq ∉ I.M := by
    rw [hI]
    simp only [Ask.M, List.mem_cons, List.not_mem_nil, or_false, not_or]
    exact ⟨ne_of_none hO13 hs, ne_of_none hO13 hl20⟩
  have hMs : sa ∉ I.M := by
    rw [hI]
    simp only [Ask.M, List.mem_cons, List.not_mem_nil, or_false, not_or]
    exact ⟨ne_of_none hsa13 hs, ne_of_none hsa13 hl20⟩
  clear hI hs14 hr14 hl14 S S14 S15 hr hl2 hlr hsr hsl2 hl20 hr0 hk htt13 hR13 hX13 hu13 hl13 hO13 hsa13 hS13 hs hdx hne
  walk_at "rd"
  intro aq haq
  have S16 := (Stp.refl [] H14).new (o := .lst []) haq
  have haq16 := upd_same (H := H14) (a := aq) (o := .lst [])
  have hA16 := hA.stp S16 (by simp)
  have haO := hA.freshO' haq
  have hO16 := S16.keep0 hO14
  have hS16 := S16.sql0 hS14
  have hsa16 := S16.keep0 hsa14
  have naO : aq ≠ oq := (ne_of_none hO14 haq).symm
  have nas : aq ≠ sa := (ne_of_none hsa14 haq).symm
  generalize upd H14 aq (.lst []) = H16 at S16 haq16 hA16 hO16 hS16 hsa16 ⊢
  clear S16 hA hO14 hS14 hsa14 haq
  walk_at "rd"
  refine ⟨a, oq, ns, ord, rfl, ⟨hS16, hlen, SqL.of hO16, by omega⟩, fun t2 q1 q2 H17 pvs ps pvs2 ps2 hq1n S17 ht217 hq1 hI1 hP1 hpl1 hq2 hI2 hN2 => ?_⟩
  have nq1a : q1 ≠ aq := (ne_of_none haq16 hq1n).symm
  have nq1M : q1 ∉ I.M := fun z => hA16.freshO' hq1n (I.Msub z)
  have haM : aq ∉ I.M := fun z => haO (I.Msub z)
  have haq17 := S17.keep0 haq16
  have hA17 := hA16.stp S17 (by simp)
  have hO17 := S17.keep0 hO16
  have hsa17 := S17.keep0 hsa16
  clear S17 haq16 hA16 hO16 hS16 hsa16
  walk_at "rd"
  have hl1 := isl_len hI1
  have hl2' := isl_len hI2
  have hl3 := hN2.len
  refine v_addL hq1 hq2 (Nat.le_trans (m := 1000) (by omega) (by decide)) fun w hw => ?_
  have S18 := (Stp.refl [] H17).new (o := .lst (pvs ++ pvs2)) hw
  have hw18 := upd_same (H := H17) (a := w) (o := .lst (pvs ++ pvs2))
  have nwa : w ≠ aq := (ne_of_none haq17 hw).symm
  have nwM : w ∉ I.M := fun z => hA17.freshO' hw (I.Msub z)
  have hIw := isl_stp S18 (isl_app hI1 hI2)
  have haq18 := S18.keep0 haq17
  have hA18 := hA17.stp S18 (by simp)
  have hO18 := S18.keep0 hO17
  have hsa18 := S18.keep0 hsa17
  have hq118 := S18.keep0 hq1
  have hPS : Prs ord.length (ps ++ ps2) := fun x hx => by
    rcases List.mem_append.mp hx with hx | hx
    · exact hP1 x hx
    · obtain ⟨i, u, v, hu, hv, e⟩ := hN2.nb x hx
      have h1 := hPap.lt (List.mem_of_getElem? hu)
      have h2 := hPap.lt (List.mem_of_getElem? hv)
      have h3 : u ≠ v := fun z => by
        subst z
        have := (hPap.idx_at hu).symm.trans (hPap.idx_at hv)
        omega
      rcases e with rfl | rfl
      · exact ⟨h1, h2, h3⟩
      · exact ⟨h2, h1, h3.symm⟩
  have hkn : knw ord (ps ++ ps2) := fun i u v hu hv => by
    rcases hN2.all i u v (by have := (List.getElem?_eq_some_iff.mp hv).1; omega) hu hv with z | z
    · exact .inl (List.mem_append_right _ z)
    · exact .inr (List.mem_append_right _ z)
  have hPSl : (ps ++ ps2).length ≤ 400 := by rw [List.length_append]; omega
  have hpvl : (pvs ++ pvs2).length = (ps ++ ps2).length := by rw [List.length_append, List.length_append]; omega
  generalize upd H17 w (.lst (pvs ++ pvs2)) = H18 at S18 hw18 hIw haq18 hA18 hO18 hsa18 hq118 ⊢
  clear S18 hI1 hI2 haq17 hA17 hO17 hsa17 hq1 hq2 hw ht217 hq1n
  generalize pvs ++ pvs2 = wvs at hw18 hIw hpvl
  generalize ps ++ ps2 = PS at hIw hPS hkn hPSl hpvl
  walk_at "rd"
  refine for_it walk_range (fun j σ H' => (Stp (aq :: I.M) H18 H' ∧ I.At K A H' (ansL ord (PS.take j)) ∧ ∃ avs, H' aq = some (.lst avs) ∧ IsL K H' avs (PS.take j)) ∧ ∃ v6 v15 v16 v17, σ = [some (.ref a), some (.ref rq), some (.int X.length), some (.str (wayS up)), some (.ref u), some (.ref t), v6, some (.ref oq), some (.ref th), some (.ref sa), some (.ref I.s), some (.ref aq), some (.ref q1), some (.ref q2), some (.ref w), v15, v16, v17, none, none])
    ⟨⟨.refl _ _, hA18, [], haq18, isl_nil⟩, _, _, _, _, rfl⟩ (fun _ _ _ _ _ => True.intro) ?_ ?_
  · rintro j x σ H1 H2 hj ⟨⟨S, hA2, avs, haq2, hIa⟩, v6, v15, v16, v17, rfl⟩ ⟨rfl, rfl⟩
    have hjl : j < wvs.length := by have : j < ((wvs.length : Nat) : Int).toNat := hj; omega
    obtain ⟨p, q, t3, hpq, ew, ht3⟩ := isl_pair (isl_stpM S hIw) (List.getElem?_eq_getElem hjl)
    obtain ⟨hp, hq, hne⟩ := hPS _ (List.mem_of_getElem? hpq)
    have hm : ∀ b : Addr, b ≠ aq → b ∉ I.M → b ∉ aq :: I.M := fun b h1 h2 z => (List.mem_cons.mp z).elim h1 h2
    have hw2 := S.keep hw18 (hm _ nwa nwM)
    have hO2 := S.keep hO18 (hm _ naO.symm hMo)
    have hsa2 := S.keep hsa18 (hm _ nas.symm hMs)
    have hq12 := S.keep hq118 (hm _ nq1a nq1M)
    have hs2 := hA2.hs
    unfold AskF at hs2
    simp only [Int.zero_add]
    walk_at "rd"
    refine v_ixLn (n := j) (SqL.of hw2) rfl ((List.getElem?_eq_getElem hjl).trans (congrArg some ew)) ?_
    walk_at "rd"
    refine r_waJ (fun σ' H' => Stp [] H2 H' ∧ σ' = [some (.ref a), some (.ref rq), some (.int X.length), some (.str (wayS up)), some (.ref u), some (.ref t), some (.int j), some (.ref oq), some (.ref th), some (.ref sa), some (.ref I.s), some (.ref aq), some (.ref q1), some (.ref q2), some (.ref w), some (.int p), some (.int q), v17, none, none]) ?_ (fun hc N hN => ?_) (fun hc N hN => ?_)
    rotate_left
    · walk_at "rd"
      refine ⟨I, oq, sa, aq, ord, avs, PS.take j, rfl, ⟨hA2, hO2, hPap, by omega, hsa2, haq2, hIa, fun x hx => hPS x (List.mem_of_mem_take hx), by rw [List.length_take]; omega⟩, fun H3 S3 => ?_⟩
      walk_at "rd"
      exact hN _ _ ⟨S3, rfl⟩
    · walk_at "rd"
      exact hN _ _ ⟨.refl _ _, rfl⟩
    rintro σ' H3 ⟨S3, rfl⟩
    have hA3 := hA2.stp S3 (by simp)
    have haq3 := S3.keep0 haq2
    have hIa3 := isl_stp S3 hIa
    have hsa3 := S3.keep0 hsa2
    have hs3 := hA3.hs
    unfold AskF at hs3
    have hall := isl_len hIa
    have hlt : (PS.take j).length = j := by rw [List.length_take]; omega
    clear hs2 hA2 haq2 hIa hsa2 hw2 hO2 hq12
    walk_at "rd"
    refine ⟨I, _, p, q, rfl, ⟨hA3, by rw [hIn]; omega, by rw [hIn]; omega, hne, by simp [ansL]; omega⟩, fun H4 said hsaid S4 hA4 => ?_⟩
    have esaid : said = decide (ord.idxOf (max p q) < ord.idxOf (min p q)) := by
      rw [hsaid, hIor _ _ _ (by omega) (by omega)]
      exact said_idx hPap hon hpw (by omega) (by omega) (by omega)
    have haq4 := S4.keep haq3 haM
    have hIa4 := isl_stpM S4 hIa3
    have hsa4 := S4.keep hsa3 hMs
    rw [esaid, said_turn hPap hp hq hne]
    walk_at "rd"
    refine v_ixLn (n := p) (v := .int (ord.idxOf p : Nat)) (SqL.of hsa4) rfl (by unfold nv; rw [List.getElem?_map, inv_at hp]; rfl) ?_
    walk_at "rd"
    refine v_ixLn (n := q) (v := .int (ord.idxOf q : Nat)) (SqL.of hsa4) rfl (by unfold nv; rw [List.getElem?_map, inv_at hq]; rfl) ?_
    walk_at "rd"
    have ecmp : decide (((ord.idxOf p : Nat) : Int) < ((ord.idxOf q : Nat) : Int)) = decide (ord.idxOf p < ord.idxOf q) := decide_eq_decide.mpr (by omega)
    refine r_nwF ecmp.symm ?_
    walk_at "rd"
    intro t4 ht4
    have hal4 := isl_len hIa4
    have nt4 : t4 ≠ aq := (ne_of_none haq4 ht4).symm
    walk_at "rd"
    refine v_app (upd_old haq4 ht4) (by omega) ?_
    have S5 : Stp [aq] H4 (upd (upd H4 t4 (.tup [.int (p : Nat), .int (q : Nat)])) aq (.lst (avs ++ [.ref t4]))) := ((Stp.refl [aq] H4).new ht4).putL (by simp) (upd_old haq4 ht4)
    have etk : PS.take (j + 1) = PS.take j ++ [(p, q)] := by rw [List.take_succ, hpq]; rfl
    refine ⟨⟨(S.trans (S3.mono (by simp))).trans ((S4.mono (fun m hm => List.mem_cons_of_mem _ hm)).trans (S5.mono (by simp))), ?_, avs ++ [.ref t4], upd_same, ?_⟩, _, _, _, _, rfl⟩
    · have e : ansL ord (PS.take (j + 1)) = ansL ord (PS.take j) ++ [⟨max p q, min p q, said⟩] := by
        rw [etk, esaid]
        simp [ansL, ansE]
      rw [e]
      exact hA4.stp S5 (fun m hm => by rw [List.mem_singleton] at hm; subst hm; exact haO)
    · rw [etk]
      exact isl_app (isl_stpM S5 hIa4) (isl_cons (is_pr (SqT.of (by rw [upd_ne nt4, upd_same])) is_nat is_nat) isl_nil)
  rintro σ H19 ⟨⟨S, hA2, avs, haq2, hIa⟩, v6, v15, v16, v17, rfl⟩
  have hm : ∀ b : Addr, b ≠ aq → b ∉ I.M → b ∉ aq :: I.M := fun b h1 h2 z => (List.mem_cons.mp z).elim h1 h2
  rw [List.take_of_length_le (by omega)] at hA2 hIa
  have hO2 := S.keep hO18 (hm _ naO.symm hMo)
  have hsa2 := S.keep hsa18 (hm _ nas.symm hMs)
  walk_at "rd"
  refine ⟨I, oq, sa, aq, ord, avs, PS, rfl, ⟨hA2, hO2, hPap, by omega, hsa2, haq2, hIa, hPS, by omega⟩, fun H20 S20 => ?_⟩
  have hA20 := hA2.stp S20 (by simp)
  have hs20 := hA20.hs
  unfold AskF at hs20
  have hO20 := S20.keep0 hO2
  walk_at "rd"
  refine ⟨I, _, rfl, hA20, fun q' H21 evs hq' S21 hq'2 hI2 => ?_⟩
  walk_at "rd"
  refine ⟨oq, q', ord, evs, _, rfl, ⟨SqL.of (S21.keep0 hO20), SqL.of hq'2, hI2, hPap, by omega, by simp [ansL]; omega, ansL_norm hPS⟩, fun H22 b hb S22 => ?_⟩
  have eb : b = true := hb.mpr ⟨ansL_nba.mpr hkn, ansL_ag⟩
  subst eb
  walk_at "rd"
  exact q_true (by simp) (k _)
theorem all_mk {l : PySem.W.OpenLaw} {w : World} {K : PySem.W.Frag} {h : Heap} {mg : Str → Option Value} {fa : Addr} (X : K.In h) (G : h.Ns mainGlobals mg) (hfa : mg "law" = some (.ref fa))
    {f1 f2 f3 f4 f5 f6 f7 f8 f9 f10 f11 f12 f13 f14 f15 f16 f17 f18 f19 f20 f21 f22 f23 f24 f25 f26 f27 f28 f29 f30 c_HallError c_NoRule c_NoPaper c_Spent c_Asker c_Rule c_KeyRule : Addr} {od1 an1 od2 an2 od3 an3 od4 an4 od5 an5 od6 an6 od7 an7 od8 an8 od9 an9 od10 an10 od11 an11 od12 an12 od13 an13 od14 an14 od15 an15 od16 an16 od17 an17 od18 an18 od19 an19 od20 an20 od21 an21 od22 an22 od23 an23 od24 an24 od25 an25 od26 an26 od27 an27 od28 an28 od29 an29 od30 an30 : Option Addr} {sl1 sl2 sl3 sl4 sl5 sl6 sl7 sl8 sl9 sl10 sl11 sl12 sl13 sl14 sl15 sl16 sl17 sl18 sl19 sl20 sl21 sl22 sl23 sl24 sl25 sl26 sl27 sl28 sl29 sl30 : Array (Option Value)} {oc1 kV1 dc1 pm1 cd1 ct1 oc2 kV2 dc2 pm2 cd2 ct2 oc3 kV3 dc3 pm3 cd3 ct3 oc4 kV4 dc4 pm4 cd4 ct4 oc5 kV5 dc5 pm5 cd5 ct5 oc6 kV6 dc6 pm6 cd6 ct6 oc7 kV7 dc7 pm7 cd7 ct7 oc8 kV8 dc8 pm8 cd8 ct8 oc9 kV9 dc9 pm9 cd9 ct9 oc10 kV10 dc10 pm10 cd10 ct10 oc11 kV11 dc11 pm11 cd11 ct11 oc12 kV12 dc12 pm12 cd12 ct12 oc13 kV13 dc13 pm13 cd13 ct13 oc14 kV14 dc14 pm14 cd14 ct14 oc15 kV15 dc15 pm15 cd15 ct15 oc16 kV16 dc16 pm16 cd16 ct16 oc17 kV17 dc17 pm17 cd17 ct17 oc18 kV18 dc18 pm18 cd18 ct18 oc19 kV19 dc19 pm19 cd19 ct19 oc20 kV20 dc20 pm20 cd20 ct20 oc21 kV21 dc21 pm21 cd21 ct21 oc22 kV22 dc22 pm22 cd22 ct22 oc23 kV23 dc23 pm23 cd23 ct23 oc24 kV24 dc24 pm24 cd24 ct24 oc25 kV25 dc25 pm25 cd25 ct25 oc26 kV26 dc26 pm26 cd26 ct26 oc27 kV27 dc27 pm27 cd27 ct27 oc28 kV28 dc28 pm28 cd28 ct28 oc29 kV29 dc29 pm29 cd29 ct29 oc30 kV30 dc30 pm30 cd30 ct30 : Value} {dT17 : Addr} {oT17 : Value} {oU17 : Option Addr} {tsl17 : Array (Option Value)} {nT17 : Nat} {t_LAST : Tok}
    (aC_HallError : PySem.W.nsIn K mainGlobals "HallError" = some (some (.ref c_HallError)))
    (aC_NoRule : PySem.W.nsIn K mainGlobals "NoRule" = some (some (.ref c_NoRule)))
    (aC_NoPaper : PySem.W.nsIn K mainGlobals "NoPaper" = some (some (.ref c_NoPaper)))
    (aC_Spent : PySem.W.nsIn K mainGlobals "Spent" = some (some (.ref c_Spent)))
    (aC_Asker : PySem.W.nsIn K mainGlobals "Asker" = some (some (.ref c_Asker)))
    (pg_Asker : PySem.W.plainGet K c_Asker Str.empty = true)
    (hd_Asker : PySem.W.hasDictIn K c_Asker = true)
    (po_Asker : PySem.W.plainOver K c_Asker = true)
    (sa_Asker : PySem.W.findIn K (.ref c_Asker) "__setattr__" = some (some (.builtin "object.__setattr__")))
    (mk_Asker : PySem.W.makesIn K c_Asker = true)
    (kc_Asker : PySem.W.keepIn K (.ref c_Asker) = true)
    (na_Asker_row : PySem.W.findIn K (.ref c_Asker) "row" = some none)
    (na_Asker_rule : PySem.W.findIn K (.ref c_Asker) "rule" = some none)
    (na_Asker_most : PySem.W.findIn K (.ref c_Asker) "most" = some none)
    (na_Asker_asked : PySem.W.findIn K (.ref c_Asker) "asked" = some none)
    (na_Asker_log : PySem.W.findIn K (.ref c_Asker) "log" = some none)
    (aC_Rule : PySem.W.nsIn K mainGlobals "Rule" = some (some (.ref c_Rule)))
    (pg_Rule : PySem.W.plainGet K c_Rule Str.empty = true)
    (hd_Rule : PySem.W.hasDictIn K c_Rule = true)
    (po_Rule : PySem.W.plainOver K c_Rule = true)
    (sa_Rule : PySem.W.findIn K (.ref c_Rule) "__setattr__" = some (some (.builtin "object.__setattr__")))
    (mk_Rule : PySem.W.makesIn K c_Rule = true)
    (kc_Rule : PySem.W.keepIn K (.ref c_Rule) = true)
    (aC_KeyRule : PySem.W.nsIn K mainGlobals "KeyRule" = some (some (.ref c_KeyRule)))
    (pg_KeyRule : PySem.W.plainGet K c_KeyRule Str.empty = true)
    (hd_KeyRule : PySem.W.hasDictIn K c_KeyRule = true)
    (po_KeyRule : PySem.W.plainOver K c_KeyRule = true)
    (sa_KeyRule : PySem.W.findIn K (.ref c_KeyRule) "__setattr__" = some (some (.builtin "object.__setattr__")))
    (mk_KeyRule : PySem.W.makesIn K c_KeyRule = true)
    (kc_KeyRule : PySem.W.keepIn K (.ref c_KeyRule) = true)
    (na_KeyRule_columns : PySem.W.findIn K (.ref c_KeyRule) "columns" = some none)
    (a1 : PySem.W.nsIn K mainGlobals "straight" = some (some (.ref f1)))
    (l1 : K.lookup f1 = some ⟨oc1, od1, .func (PySem.W.fnOf "straight" "straight" (defArgs s_straight) (defBody s_straight) (defScope s_straight) .none kV1 dc1 pm1 an1 cd1 ct1), sl1⟩)
    (c1 : PySem.W.codeIn K cd1 "straight" = true)
    (k1 : PySem.W.keepIn K (.ref f1) = true)
    (a2 : PySem.W.nsIn K mainGlobals "is_paper" = some (some (.ref f2)))
    (l2 : K.lookup f2 = some ⟨oc2, od2, .func (PySem.W.fnOf "is_paper" "is_paper" (defArgs s_is_paper) (defBody s_is_paper) (defScope s_is_paper) .none kV2 dc2 pm2 an2 cd2 ct2), sl2⟩)
    (c2 : PySem.W.codeIn K cd2 "is_paper" = true)
    (k2 : PySem.W.keepIn K (.ref f2) = true)
    (a3 : PySem.W.nsIn K mainGlobals "paper_for" = some (some (.ref f3)))
    (l3 : K.lookup f3 = some ⟨oc3, od3, .func (PySem.W.fnOf "paper_for" "paper_for" (defArgs s_paper_for) (defBody s_paper_for) (defScope s_paper_for) .none kV3 dc3 pm3 an3 cd3 ct3), sl3⟩)
    (c3 : PySem.W.codeIn K cd3 "paper_for" = true)
    (k3 : PySem.W.keepIn K (.ref f3) = true)
    (a4 : PySem.W.nsIn K mainGlobals "laid" = some (some (.ref f4)))
    (l4 : K.lookup f4 = some ⟨oc4, od4, .func (PySem.W.fnOf "laid" "laid" (defArgs s_laid) (defBody s_laid) (defScope s_laid) .none kV4 dc4 pm4 an4 cd4 ct4), sl4⟩)
    (c4 : PySem.W.codeIn K cd4 "laid" = true)
    (k4 : PySem.W.keepIn K (.ref f4) = true)
    (a5 : PySem.W.nsIn K mainGlobals "back" = some (some (.ref f5)))
    (l5 : K.lookup f5 = some ⟨oc5, od5, .func (PySem.W.fnOf "back" "back" (defArgs s_back) (defBody s_back) (defScope s_back) .none kV5 dc5 pm5 an5 cd5 ct5), sl5⟩)
    (c5 : PySem.W.codeIn K cd5 "back" = true)
    (k5 : PySem.W.keepIn K (.ref f5) = true)
    (a6 : PySem.W.nsIn K mainGlobals "_law_cell_at" = some (some (.ref f6)))
    (l6 : K.lookup f6 = some ⟨oc6, od6, .func (PySem.W.fnOf "_law_cell_at" "_law_cell_at" (defArgs s__law_cell_at) (defBody s__law_cell_at) (defScope s__law_cell_at) .none kV6 dc6 pm6 an6 cd6 ct6), sl6⟩)
    (c6 : PySem.W.codeIn K cd6 "_law_cell_at" = true)
    (k6 : PySem.W.keepIn K (.ref f6) = true)
    (a7 : PySem.W.nsIn K mainGlobals "good" = some (some (.ref f7)))
    (l7 : K.lookup f7 = some ⟨oc7, od7, .func (PySem.W.fnOf "good" "good" (defArgs s_good) (defBody s_good) (defScope s_good) .none kV7 dc7 pm7 an7 cd7 ct7), sl7⟩)
    (c7 : PySem.W.codeIn K cd7 "good" = true)
    (k7 : PySem.W.keepIn K (.ref f7) = true)
    (a8_KeyRule : PySem.W.findIn K (.ref c_KeyRule) "__init__" = some (some (.ref f8)))
    (i8 : PySem.W.isFn K (.ref f8) = true)
    (l8 : K.lookup f8 = some ⟨oc8, od8, .func (PySem.W.fnOf "__init__" "KeyRule.__init__" (defArgs s_KeyRule___init__) (defBody s_KeyRule___init__) (defScope s_KeyRule___init__) .none kV8 dc8 pm8 an8 cd8 ct8), sl8⟩)
    (c8 : PySem.W.codeIn K cd8 "KeyRule.__init__" = true)
    (k8 : PySem.W.keepIn K (.ref f8) = true)
    (a9_KeyRule : PySem.W.findIn K (.ref c_KeyRule) "before" = some (some (.ref f9)))
    (i9 : PySem.W.isFn K (.ref f9) = true)
    (l9 : K.lookup f9 = some ⟨oc9, od9, .func (PySem.W.fnOf "before" "KeyRule.before" (defArgs s_KeyRule_before) (defBody s_KeyRule_before) (defScope s_KeyRule_before) .none kV9 dc9 pm9 an9 cd9 ct9), sl9⟩)
    (c9 : PySem.W.codeIn K cd9 "KeyRule.before" = true)
    (k9 : PySem.W.keepIn K (.ref f9) = true)
    (a10 : PySem.W.nsIn K mainGlobals "plain_flaw" = some (some (.ref f10)))
    (l10 : K.lookup f10 = some ⟨oc10, od10, .func (PySem.W.fnOf "plain_flaw" "plain_flaw" (defArgs s_plain_flaw) (defBody s_plain_flaw) (defScope s_plain_flaw) .none kV10 dc10 pm10 an10 cd10 ct10), sl10⟩)
    (c10 : PySem.W.codeIn K cd10 "plain_flaw" = true)
    (k10 : PySem.W.keepIn K (.ref f10) = true)
    (a11 : PySem.W.nsIn K mainGlobals "torn_by" = some (some (.ref f11)))
    (l11 : K.lookup f11 = some ⟨oc11, od11, .func (PySem.W.fnOf "torn_by" "torn_by" (defArgs s_torn_by) (defBody s_torn_by) (defScope s_torn_by) .none kV11 dc11 pm11 an11 cd11 ct11), sl11⟩)
    (c11 : PySem.W.codeIn K cd11 "torn_by" = true)
    (k11 : PySem.W.keepIn K (.ref f11) = true)
    (a12 : PySem.W.nsIn K mainGlobals "tie_in" = some (some (.ref f12)))
    (l12 : K.lookup f12 = some ⟨oc12, od12, .func (PySem.W.fnOf "tie_in" "tie_in" (defArgs s_tie_in) (defBody s_tie_in) (defScope s_tie_in) .none kV12 dc12 pm12 an12 cd12 ct12), sl12⟩)
    (c12 : PySem.W.codeIn K cd12 "tie_in" = true)
    (k12 : PySem.W.keepIn K (.ref f12) = true)
    (a13 : PySem.W.nsIn K mainGlobals "matrix_of" = some (some (.ref f13)))
    (l13 : K.lookup f13 = some ⟨oc13, od13, .func (PySem.W.fnOf "matrix_of" "matrix_of" (defArgs s_matrix_of) (defBody s_matrix_of) (defScope s_matrix_of) .none kV13 dc13 pm13 an13 cd13 ct13), sl13⟩)
    (c13 : PySem.W.codeIn K cd13 "matrix_of" = true)
    (k13 : PySem.W.keepIn K (.ref f13) = true)
    (a14 : PySem.W.nsIn K mainGlobals "ranked" = some (some (.ref f14)))
    (l14 : K.lookup f14 = some ⟨oc14, od14, .func (PySem.W.fnOf "ranked" "ranked" (defArgs s_ranked) (defBody s_ranked) (defScope s_ranked) .none kV14 dc14 pm14 an14 cd14 ct14), sl14⟩)
    (c14 : PySem.W.codeIn K cd14 "ranked" = true)
    (k14 : PySem.W.keepIn K (.ref f14) = true)
    (a15_Asker : PySem.W.findIn K (.ref c_Asker) "ahead" = some (some (.ref f15)))
    (i15 : PySem.W.isFn K (.ref f15) = true)
    (l15 : K.lookup f15 = some ⟨oc15, od15, .func (PySem.W.fnOf "ahead" "Asker.ahead" (defArgs s_Asker_ahead) (defBody s_Asker_ahead) (defScope s_Asker_ahead) .none kV15 dc15 pm15 an15 cd15 ct15), sl15⟩)
    (c15 : PySem.W.codeIn K cd15 "Asker.ahead" = true)
    (k15 : PySem.W.keepIn K (.ref f15) = true)
    (a16_Asker : PySem.W.findIn K (.ref c_Asker) "many" = some (some (.ref f16)))
    (i16 : PySem.W.isFn K (.ref f16) = true)
    (l16 : K.lookup f16 = some ⟨oc16, od16, .func (PySem.W.fnOf "many" "Asker.many" (defArgs s_Asker_many) (defBody s_Asker_many) (defScope s_Asker_many) .none kV16 dc16 pm16 an16 cd16 ct16), sl16⟩)
    (c16 : PySem.W.codeIn K cd16 "Asker.many" = true)
    (k16 : PySem.W.keepIn K (.ref f16) = true)
    (a17_Asker : PySem.W.findIn K (.ref c_Asker) "__init__" = some (some (.ref f17)))
    (i17 : PySem.W.isFn K (.ref f17) = true)
    (l17 : K.lookup f17 = some ⟨oc17, od17, .func (PySem.W.fnOf "__init__" "Asker.__init__" (defArgs s_Asker___init__) (defBody s_Asker___init__) (defScope s_Asker___init__) (.ref dT17) kV17 dc17 pm17 an17 cd17 ct17), sl17⟩)
    (lt17 : K.lookup dT17 = some ⟨oT17, oU17, .seq ([Value.none] : List Value).toArray nT17, tsl17⟩)
    (c17 : PySem.W.codeIn K cd17 "Asker.__init__" = true)
    (k17 : PySem.W.keepIn K (.ref f17) = true)
    (a18_Asker : PySem.W.findIn K (.ref c_Asker) "answers" = some (some (.ref f18)))
    (i18 : PySem.W.isFn K (.ref f18) = true)
    (l18 : K.lookup f18 = some ⟨oc18, od18, .func (PySem.W.fnOf "answers" "Asker.answers" (defArgs s_Asker_answers) (defBody s_Asker_answers) (defScope s_Asker_answers) .none kV18 dc18 pm18 an18 cd18 ct18), sl18⟩)
    (c18 : PySem.W.codeIn K cd18 "Asker.answers" = true)
    (k18 : PySem.W.keepIn K (.ref f18) = true)
    (a19 : PySem.W.nsIn K mainGlobals "agrees" = some (some (.ref f19)))
    (l19 : K.lookup f19 = some ⟨oc19, od19, .func (PySem.W.fnOf "agrees" "agrees" (defArgs s_agrees) (defBody s_agrees) (defScope s_agrees) .none kV19 dc19 pm19 an19 cd19 ct19), sl19⟩)
    (c19 : PySem.W.codeIn K cd19 "agrees" = true)
    (k19 : PySem.W.keepIn K (.ref f19) = true)
    (a20 : PySem.W.nsIn K mainGlobals "shows" = some (some (.ref f20)))
    (l20 : K.lookup f20 = some ⟨oc20, od20, .func (PySem.W.fnOf "shows" "shows" (defArgs s_shows) (defBody s_shows) (defScope s_shows) .none kV20 dc20 pm20 an20 cd20 ct20), sl20⟩)
    (c20 : PySem.W.codeIn K cd20 "shows" = true)
    (k20 : PySem.W.keepIn K (.ref f20) = true)
    (a21 : PySem.W.nsIn K mainGlobals "_law_pairs" = some (some (.ref f21)))
    (l21 : K.lookup f21 = some ⟨oc21, od21, .func (PySem.W.fnOf "_law_pairs" "_law_pairs" (defArgs s__law_pairs) (defBody s__law_pairs) (defScope s__law_pairs) .none kV21 dc21 pm21 an21 cd21 ct21), sl21⟩)
    (c21 : PySem.W.codeIn K cd21 "_law_pairs" = true)
    (k21 : PySem.W.keepIn K (.ref f21) = true)
    (a22 : PySem.W.nsIn K mainGlobals "_law_reserve" = some (some (.ref f22)))
    (l22 : K.lookup f22 = some ⟨oc22, od22, .func (PySem.W.fnOf "_law_reserve" "_law_reserve" (defArgs s__law_reserve) (defBody s__law_reserve) (defScope s__law_reserve) .none kV22 dc22 pm22 an22 cd22 ct22), sl22⟩)
    (c22 : PySem.W.codeIn K cd22 "_law_reserve" = true)
    (k22 : PySem.W.keepIn K (.ref f22) = true)
    (a23 : PySem.W.nsIn K mainGlobals "_law_signed" = some (some (.ref f23)))
    (l23 : K.lookup f23 = some ⟨oc23, od23, .func (PySem.W.fnOf "_law_signed" "_law_signed" (defArgs s__law_signed) (defBody s__law_signed) (defScope s__law_signed) .none kV23 dc23 pm23 an23 cd23 ct23), sl23⟩)
    (c23 : PySem.W.codeIn K cd23 "_law_signed" = true)
    (k23 : PySem.W.keepIn K (.ref f23) = true)
    (a24 : PySem.W.nsIn K mainGlobals "_law_turned" = some (some (.ref f24)))
    (l24 : K.lookup f24 = some ⟨oc24, od24, .func (PySem.W.fnOf "_law_turned" "_law_turned" (defArgs s__law_turned) (defBody s__law_turned) (defScope s__law_turned) .none kV24 dc24 pm24 an24 cd24 ct24), sl24⟩)
    (c24 : PySem.W.codeIn K cd24 "_law_turned" = true)
    (k24 : PySem.W.keepIn K (.ref f24) = true)
    (a25 : PySem.W.nsIn K mainGlobals "_law_turned_of" = some (some (.ref f25)))
    (l25 : K.lookup f25 = some ⟨oc25, od25, .func (PySem.W.fnOf "_law_turned_of" "_law_turned_of" (defArgs s__law_turned_of) (defBody s__law_turned_of) (defScope s__law_turned_of) .none kV25 dc25 pm25 an25 cd25 ct25), sl25⟩)
    (c25 : PySem.W.codeIn K cd25 "_law_turned_of" = true)
    (k25 : PySem.W.keepIn K (.ref f25) = true)
    (a26 : PySem.W.nsIn K mainGlobals "_law_row_of" = some (some (.ref f26)))
    (l26 : K.lookup f26 = some ⟨oc26, od26, .func (PySem.W.fnOf "_law_row_of" "_law_row_of" (defArgs s__law_row_of) (defBody s__law_row_of) (defScope s__law_row_of) .none kV26 dc26 pm26 an26 cd26 ct26), sl26⟩)
    (c26 : PySem.W.codeIn K cd26 "_law_row_of" = true)
    (k26 : PySem.W.keepIn K (.ref f26) = true)
    (a27 : PySem.W.nsIn K mainGlobals "_law_asks" = some (some (.ref f27)))
    (l27 : K.lookup f27 = some ⟨oc27, od27, .func (PySem.W.fnOf "_law_asks" "_law_asks" (defArgs s__law_asks) (defBody s__law_asks) (defScope s__law_asks) .none kV27 dc27 pm27 an27 cd27 ct27), sl27⟩)
    (c27 : PySem.W.codeIn K cd27 "_law_asks" = true)
    (k27 : PySem.W.keepIn K (.ref f27) = true)
    (a28 : PySem.W.nsIn K mainGlobals "_law_known" = some (some (.ref f28)))
    (l28 : K.lookup f28 = some ⟨oc28, od28, .func (PySem.W.fnOf "_law_known" "_law_known" (defArgs s__law_known) (defBody s__law_known) (defScope s__law_known) .none kV28 dc28 pm28 an28 cd28 ct28), sl28⟩)
    (c28 : PySem.W.codeIn K cd28 "_law_known" = true)
    (k28 : PySem.W.keepIn K (.ref f28) = true)
    (a29 : PySem.W.nsIn K mainGlobals "_law_answers" = some (some (.ref f29)))
    (l29 : K.lookup f29 = some ⟨oc29, od29, .func (PySem.W.fnOf "_law_answers" "_law_answers" (defArgs s__law_answers) (defBody s__law_answers) (defScope s__law_answers) .none kV29 dc29 pm29 an29 cd29 ct29), sl29⟩)
    (c29 : PySem.W.codeIn K cd29 "_law_answers" = true)
    (k29 : PySem.W.keepIn K (.ref f29) = true)
    (a30 : PySem.W.nsIn K mainGlobals "law" = some (some (.ref f30)))
    (l30 : K.lookup f30 = some ⟨oc30, od30, .func (PySem.W.fnOf "law" "law" (defArgs s_law) (defBody s_law) (defScope s_law) .none kV30 dc30 pm30 an30 cd30 ct30), sl30⟩)
    (c30 : PySem.W.codeIn K cd30 "law" = true)
    (k30 : PySem.W.keepIn K (.ref f30) = true)
    (z_ValueError : PySem.W.nsIn K mainGlobals "ValueError" = some none)
    (z_list : PySem.W.nsIn K mainGlobals "list" = some none)
    (z_enumerate : PySem.W.nsIn K mainGlobals "enumerate" = some none)
    (z_zip : PySem.W.nsIn K mainGlobals "zip" = some none)
    (z_range : PySem.W.nsIn K mainGlobals "range" = some none)
    (z_len : PySem.W.nsIn K mainGlobals "len" = some none)
    (z_sorted : PySem.W.nsIn K mainGlobals "sorted" = some none)
    (z_max : PySem.W.nsIn K mainGlobals "max" = some none)
    (z_min : PySem.W.nsIn K mainGlobals "min" = some none)
    (z_isinstance : PySem.W.nsIn K mainGlobals "isinstance" = some none)
    (z_bool : PySem.W.nsIn K mainGlobals "bool" = some none)
    (z_tuple : PySem.W.nsIn K mainGlobals "tuple" = some none)
    (kk_LAST : PySem.W.nsIn K mainGlobals "LAST" = some (some (.int 7 t_LAST))) :
    ∃ fd : FuncData, (∀ (s : Shared) (v : Value), BindsTo s fd ⟨[v], []⟩ [("_law_script", v)]) ∧ ∀ base : Heap, K.In base → base.Ns mainGlobals mg → ∃ A : Ad, FnOk l.prog w K mg base CX0 8 fa fd ["_law_script"] (sp_law K A) := by
  have e := hfa.symm.trans (PySem.W.mg_of X G a30)
  cases e
  let A : Ad := ⟨c_HallError, c_NoRule, c_NoPaper, c_Spent, c_Asker, c_Rule, c_KeyRule⟩
  have T : Txt K mg A := ⟨PySem.W.mg_none_of X G z_ValueError, PySem.W.mg_none_of X G z_list, PySem.W.mg_none_of X G z_enumerate, PySem.W.mg_none_of X G z_zip, PySem.W.mg_none_of X G z_range, PySem.W.mg_none_of X G z_len, PySem.W.mg_none_of X G z_sorted, PySem.W.mg_none_of X G z_max, PySem.W.mg_none_of X G z_min, PySem.W.mg_none_of X G z_isinstance, PySem.W.mg_none_of X G z_bool, PySem.W.mg_none_of X G z_tuple, PySem.W.mg_of X G aC_HallError, PySem.W.mg_of X G aC_NoRule, PySem.W.mg_of X G aC_NoPaper, PySem.W.mg_of X G aC_Spent, PySem.W.mg_of X G aC_Asker, ⟨pg_Asker, hd_Asker, po_Asker, sa_Asker⟩, na_Asker_row, na_Asker_rule, na_Asker_most, na_Asker_asked, na_Asker_log, PySem.W.mg_of X G aC_Rule, ⟨pg_Rule, hd_Rule, po_Rule, sa_Rule⟩, PySem.W.mg_of X G aC_KeyRule, ⟨pg_KeyRule, hd_KeyRule, po_KeyRule, sa_KeyRule⟩, na_KeyRule_columns, ⟨_, PySem.W.mg_of X G kk_LAST, _, rfl⟩⟩
  have F1 := fun_mk (st := s_straight) l1 c1 k1
  have F2 := fun_mk (st := s_is_paper) l2 c2 k2
  have F3 := fun_mk (st := s_paper_for) l3 c3 k3
  have F4 := fun_mk (st := s_laid) l4 c4 k4
  have F5 := fun_mk (st := s_back) l5 c5 k5
  have F6 := fun_mk (st := s__law_cell_at) l6 c6 k6
  have F7 := fun_mk (st := s_good) l7 c7 k7
  have F8 := fun_mk (st := s_KeyRule___init__) l8 c8 k8
  have F9 := fun_mk (st := s_KeyRule_before) l9 c9 k9
  have F10 := fun_mk (st := s_plain_flaw) l10 c10 k10
  have F11 := fun_mk (st := s_torn_by) l11 c11 k11
  have F12 := fun_mk (st := s_tie_in) l12 c12 k12
  have F13 := fun_mk (st := s_matrix_of) l13 c13 k13
  have F14 := fun_mk (st := s_ranked) l14 c14 k14
  have F15 := fun_mk (st := s_Asker_ahead) l15 c15 k15
  have F16 := fun_mk (st := s_Asker_many) l16 c16 k16
  have F17 := SH.funD_mk (st := s_Asker___init__) (dvs := [.non]) l17 lt17 (.cons rfl .nil) (by simp) c17 k17
  have F18 := fun_mk (st := s_Asker_answers) l18 c18 k18
  have F19 := fun_mk (st := s_agrees) l19 c19 k19
  have F20 := fun_mk (st := s_shows) l20 c20 k20
  have F21 := fun_mk (st := s__law_pairs) l21 c21 k21
  have F22 := fun_mk (st := s__law_reserve) l22 c22 k22
  have F23 := fun_mk (st := s__law_signed) l23 c23 k23
  have F24 := fun_mk (st := s__law_turned) l24 c24 k24
  have F25 := fun_mk (st := s__law_turned_of) l25 c25 k25
  have F26 := fun_mk (st := s__law_row_of) l26 c26 k26
  have F27 := fun_mk (st := s__law_asks) l27 c27 k27
  have F28 := fun_mk (st := s__law_known) l28 c28 k28
  have F29 := fun_mk (st := s__law_answers) l29 c29 k29
  have F30 := fun_mk (st := s_law) l30 c30 k30
  refine ⟨PySem.W.fnOf "law" "law" (defArgs s_law) (defBody s_law) (defScope s_law) .none kV30 dc30 pm30 an30 cd30 ct30, fun s v => .of_eq rfl, fun base _ _ => ⟨A, ?_⟩⟩
  have O_straight := ok_straight (P := l.prog) (w := w) (base := base) F1 T 
  have X1 : SH.Cal l.prog w K mg base CX0 _ "straight" [] _ := ⟨f1, _, _, _, PySem.W.mg_of X G a1, k1, (F1.binds (ps := ["many"]) fun _ _ _ _ _ _ us hl => match us, hl with | [_], _ => rfl), .nil, O_straight⟩
  have O_is_paper := ok_is_paper (P := l.prog) (w := w) (base := base) F2 T X1
  have X2 : SH.Cal l.prog w K mg base CX0 _ "is_paper" [] _ := ⟨f2, _, _, _, PySem.W.mg_of X G a2, k2, (F2.binds (ps := ["some"]) fun _ _ _ _ _ _ us hl => match us, hl with | [_], _ => rfl), .nil, O_is_paper⟩
  have O_paper_for := ok_paper_for (P := l.prog) (w := w) (base := base) F3 T X2
  have X3 : SH.Cal l.prog w K mg base CX0 _ "paper_for" [] _ := ⟨f3, _, _, _, PySem.W.mg_of X G a3, k3, (F3.binds (ps := ["paper", "many"]) fun _ _ _ _ _ _ us hl => match us, hl with | [_, _], _ => rfl), .nil, O_paper_for⟩
  have O_laid := ok_laid (P := l.prog) (w := w) (base := base) F4 T X3
  have O_back := ok_back (P := l.prog) (w := w) (base := base) F5 T X3 X1
  have O__law_cell_at := ok__law_cell_at (P := l.prog) (w := w) (base := base) F6 T 
  have O_good := ok_good (P := l.prog) (w := w) (base := base) F7 T 
  have X4 : SH.Cal l.prog w K mg base CX0 _ "good" [] _ := ⟨f7, _, _, _, PySem.W.mg_of X G a7, k7, (F7.binds (ps := ["at"]) fun _ _ _ _ _ _ us hl => match us, hl with | [_], _ => rfl), .nil, O_good⟩
  have O_KeyRule___init__ := ok_KeyRule___init__ (P := l.prog) (w := w) (base := base) F8 T X4
  have O_KeyRule_before := ok_KeyRule_before (P := l.prog) (w := w) (base := base) F9 T 
  have O_plain_flaw := ok_plain_flaw (P := l.prog) (w := w) (base := base) F10 T 
  have O_torn_by := ok_torn_by (P := l.prog) (w := w) (base := base) F11 T 
  have X5 : SH.Cal l.prog w K mg base CX0 _ "torn_by" [] _ := ⟨f11, _, _, _, PySem.W.mg_of X G a11, k11, (F11.binds (ps := ["goes", "one", "other"]) fun _ _ _ _ _ _ us hl => match us, hl with | [_, _, _], _ => rfl), .nil, O_torn_by⟩
  have O_tie_in := ok_tie_in (P := l.prog) (w := w) (base := base) F12 T X5
  have X6 : SH.CalM l.prog w K mg base CX0 _ A.KeyRule "before" [] _ := ⟨T.cl_KeyRule, f9, _, _, _, ⟨a9_KeyRule, i9, k9⟩, (F9.binds (ps := ["self", "x", "y"]) fun _ _ _ _ _ _ us hl => match us, hl with | [_, _, _], _ => rfl), .nil, O_KeyRule_before⟩
  have O_matrix_of := ok_matrix_of (P := l.prog) (w := w) (base := base) F13 T X6
  have X7 : SH.Cal l.prog w K mg base CX0 _ "matrix_of" [] _ := ⟨f13, _, _, _, PySem.W.mg_of X G a13, k13, (F13.binds (ps := ["row", "rule"]) fun _ _ _ _ _ _ us hl => match us, hl with | [_, _], _ => rfl), .nil, O_matrix_of⟩
  have X8 : SH.Cal l.prog w K mg base CX0 _ "plain_flaw" [] _ := ⟨f10, _, _, _, PySem.W.mg_of X G a10, k10, (F10.binds (ps := ["goes"]) fun _ _ _ _ _ _ us hl => match us, hl with | [_], _ => rfl), .nil, O_plain_flaw⟩
  have X9 : SH.Cal l.prog w K mg base CX0 _ "tie_in" [] _ := ⟨f12, _, _, _, PySem.W.mg_of X G a12, k12, (F12.binds (ps := ["goes", "ranks"]) fun _ _ _ _ _ _ us hl => match us, hl with | [_, _], _ => rfl), .nil, O_tie_in⟩
  have O_ranked := ok_ranked (P := l.prog) (w := w) (base := base) F14 T X7 X8 X9
  have O_Asker_ahead := ok_Asker_ahead (P := l.prog) (w := w) (base := base) F15 T X6
  have O_Asker_many := ok_Asker_many (P := l.prog) (w := w) (base := base) F16 T 
  have O_Asker___init__ := ok_Asker___init__ (P := l.prog) (w := w) (base := base) F17 T 
  have O_Asker_answers := ok_Asker_answers (P := l.prog) (w := w) (base := base) F18 T 
  have X10 : SH.Cal l.prog w K mg base CX0 _ "back" [] _ := ⟨f5, _, _, _, PySem.W.mg_of X G a5, k5, (F5.binds (ps := ["paper"]) fun _ _ _ _ _ _ us hl => match us, hl with | [_], _ => rfl), .nil, O_back⟩
  have O_agrees := ok_agrees (P := l.prog) (w := w) (base := base) F19 T X10
  have X11 : SH.Cal l.prog w K mg base CX0 _ "agrees" [] _ := ⟨f19, _, _, _, PySem.W.mg_of X G a19, k19, (F19.binds (ps := ["paper", "answers"]) fun _ _ _ _ _ _ us hl => match us, hl with | [_, _], _ => rfl), .nil, O_agrees⟩
  have O_shows := ok_shows (P := l.prog) (w := w) (base := base) F20 T X11
  have O__law_pairs := ok__law_pairs (P := l.prog) (w := w) (base := base) F21 T 
  have O__law_reserve := ok__law_reserve (P := l.prog) (w := w) (base := base) F22 T 
  have O__law_signed := ok__law_signed (P := l.prog) (w := w) (base := base) F23 T 
  have O__law_turned := ok__law_turned (P := l.prog) (w := w) (base := base) F24 T 
  have X12 : SH.Cal l.prog w K mg base CX0 _ "_law_reserve" [] _ := ⟨f22, _, _, _, PySem.W.mg_of X G a22, k22, (F22.binds (ps := ["_law_cell", "_law_k"]) fun _ _ _ _ _ _ us hl => match us, hl with | [_, _], _ => rfl), .nil, O__law_reserve⟩
  have O__law_turned_of := ok__law_turned_of (P := l.prog) (w := w) (base := base) F25 T X12
  have X13 : SH.Cal l.prog w K mg base CX0 _ "_law_cell_at" [] _ := ⟨f6, _, _, _, PySem.W.mg_of X G a6, k6, (F6.binds (ps := ["_law_script", "_law_k"]) fun _ _ _ _ _ _ us hl => match us, hl with | [_, _], _ => rfl), .nil, O__law_cell_at⟩
  have X14 : SH.Cal l.prog w K mg base CX0 _ "_law_signed" [] _ := ⟨f23, _, _, _, PySem.W.mg_of X G a23, k23, (F23.binds (ps := ["_law_digit"]) fun _ _ _ _ _ _ us hl => match us, hl with | [_], _ => rfl), .nil, O__law_signed⟩
  have O__law_row_of := ok__law_row_of (P := l.prog) (w := w) (base := base) F26 T X13 X14
  have X15 : SH.Cal l.prog w K mg base CX0 _ "_law_pairs" [] _ := ⟨f21, _, _, _, PySem.W.mg_of X G a21, k21, (F21.binds (ps := ["_law_cells", "_law_many"]) fun _ _ _ _ _ _ us hl => match us, hl with | [_, _], _ => rfl), .nil, O__law_pairs⟩
  have X16 : SH.Cal l.prog w K mg base CX0 _ "_law_turned" [] _ := ⟨f24, _, _, _, PySem.W.mg_of X G a24, k24, (F24.binds (ps := ["_law_paper", "_law_cell"]) fun _ _ _ _ _ _ us hl => match us, hl with | [_, _], _ => rfl), .nil, O__law_turned⟩
  have X17 : SH.Cal l.prog w K mg base CX0 _ "_law_turned_of" [] _ := ⟨f25, _, _, _, PySem.W.mg_of X G a25, k25, (F25.binds (ps := ["_law_paper", "_law_cell"]) fun _ _ _ _ _ _ us hl => match us, hl with | [_, _], _ => rfl), .nil, O__law_turned_of⟩
  have O__law_asks := ok__law_asks (P := l.prog) (w := w) (base := base) F27 T X13 X15 X16 X17
  have O__law_known := ok__law_known (P := l.prog) (w := w) (base := base) F28 T 
  have X18 : SH.CalM l.prog w K mg base CX0 _ A.Asker "answers" [] _ := ⟨T.cl_Asker, f18, _, _, _, ⟨a18_Asker, i18, k18⟩, (F18.binds (ps := ["self"]) fun _ _ _ _ _ _ us hl => match us, hl with | [_], _ => rfl), .nil, O_Asker_answers⟩
  have X19 : SH.Cal l.prog w K mg base CX0 _ "_law_known" [] _ := ⟨f28, _, _, _, PySem.W.mg_of X G a28, k28, (F28.binds (ps := ["_law_paper", "_law_asked"]) fun _ _ _ _ _ _ us hl => match us, hl with | [_, _], _ => rfl), .nil, O__law_known⟩
  have X20 : SH.Cal l.prog w K mg base CX0 _ "shows" [] _ := ⟨f20, _, _, _, PySem.W.mg_of X G a20, k20, (F20.binds (ps := ["paper", "answers"]) fun _ _ _ _ _ _ us hl => match us, hl with | [_, _], _ => rfl), .nil, O_shows⟩
  have O__law_answers := ok__law_answers (P := l.prog) (w := w) (base := base) F29 T X18 X19 X11 X20
  have X21 : SH.CalM l.prog w K mg base CX0 _ A.Asker "ahead" [] _ := ⟨T.cl_Asker, f15, _, _, _, ⟨a15_Asker, i15, k15⟩, (F15.binds (ps := ["self", "p", "q"]) fun _ _ _ _ _ _ us hl => match us, hl with | [_, _, _], _ => rfl), .nil, O_Asker_ahead⟩
  have X22 : SH.Cal l.prog w K mg base CX0 _ "_law_answers" [] _ := ⟨f29, _, _, _, PySem.W.mg_of X G a29, k29, (F29.binds (ps := ["_law_asker", "_law_paper", "_law_turn", "_law_asked"]) fun _ _ _ _ _ _ us hl => match us, hl with | [_, _, _, _], _ => rfl), .nil, O__law_answers⟩
  have X23 : SH.Cal l.prog w K mg base CX0 _ "_law_asks" [] _ := ⟨f27, _, _, _, PySem.W.mg_of X G a27, k27, (F27.binds (ps := ["_law_script", "_law_paper"]) fun _ _ _ _ _ _ us hl => match us, hl with | [_, _], _ => rfl), .nil, O__law_asks⟩
  have X24 : SH.Cal l.prog w K mg base CX0 _ "_law_row_of" [] _ := ⟨f26, _, _, _, PySem.W.mg_of X G a26, k26, (F26.binds (ps := ["_law_script"]) fun _ _ _ _ _ _ us hl => match us, hl with | [_], _ => rfl), .nil, O__law_row_of⟩
  have X25 : SH.Cal l.prog w K mg base CX0 _ "laid" [] _ := ⟨f4, _, _, _, PySem.W.mg_of X G a4, k4, (F4.binds (ps := ["row", "paper"]) fun _ _ _ _ _ _ us hl => match us, hl with | [_, _], _ => rfl), .nil, O_laid⟩
  obtain ⟨dsX26, vdX26, bdX26⟩ := F17.binds1 (ps := ["self", "row", "rule", "most"]) 3 0 (by simp) rfl (fun _ _ _ _ _ _ _ us its hu hi => match us, its, hu, hi with | [_, _, _], [_], _, _ => ⟨_, rfl, rfl⟩)
  have X26 : SH.CalC l.prog w K mg base CX0 _ "Asker" A.Asker [.non] _ := ⟨f17, _, _, _, T.g_Asker, ⟨mk_Asker, a17_Asker, i17, kc_Asker⟩, bdX26, vdX26, O_Asker___init__⟩
  have X27 : SH.CalC l.prog w K mg base CX0 _ "KeyRule" A.KeyRule [] _ := ⟨f8, _, _, _, T.g_KeyRule, ⟨mk_KeyRule, a8_KeyRule, i8, kc_KeyRule⟩, (F8.binds (ps := ["self", "columns"]) fun _ _ _ _ _ _ us hl => match us, hl with | [_, _], _ => rfl), .nil, O_KeyRule___init__⟩
  have X28 : SH.Cal l.prog w K mg base CX0 _ "ranked" [] _ := ⟨f14, _, _, _, PySem.W.mg_of X G a14, k14, (F14.binds (ps := ["row", "rule"]) fun _ _ _ _ _ _ us hl => match us, hl with | [_, _], _ => rfl), .nil, O_ranked⟩
  have O_law := ok_law (P := l.prog) (w := w) (base := base) F30 T X21 X18 X22 X23 X13 X24 X25 X26 X27 X28 X20
  exact O_law
theorem walk {l : PySem.W.OpenLaw} {q : Program} {loose : List Str} {XP : (Str → Option Value) → Heap → Prop} {YP : World → Heap → Prop} {d : DefRec} {K : Params → PySem.W.Frag} (hn : l.most = some 63) (hdf : d.params.defaults = [])
    (hY : ∀ (w : World) (h : Heap), YP w h → (K w.params).In h)
    (F : ∀ (w : World) (mg : Str → Option Value) (fa : Addr) (h : Heap), (K w.params).In h → h.Ns mainGlobals mg → mg d.name = some (.ref fa) →
      ∃ fd : FuncData, (∀ (s : Shared) (u : Value), BindsTo s fd ⟨[u], []⟩ [("_law_script", u)]) ∧ ∀ base : Heap, (K w.params).In base → base.Ns mainGlobals mg → ∃ A : Ad, FnOk l.prog w (K w.params) mg base CX0 8 fa fd ["_law_script"] (sp_law (K w.params) A)) :
    PySem.W.WalkO q loose XP YP l.row.toRowW d [] (fun f vs => PySem.call f vs) :=
  L2.walk_of (n := 63) (k := 8) (x := "_law_script") (CX := fun _ => CX0) (sp := fun w => SH.lawSp (K w.params)) hn (by decide) hdf ⟨rfl, by decide, by decide⟩ hY
    (fun w mg fa h a b c => by
      obtain ⟨fd, h1, h2⟩ := F w mg fa h a b c
      exact ⟨fd, h1, fun base x y => by obtain ⟨A, h3⟩ := h2 base x y; exact h3⟩)
    (fun _ _ a ns hl _ hS => ⟨a, ns, rfl, hS, hl, fun _ => rfl⟩) fun _ _ _ _ _ z => z
end Law

open PySem PySem.W PyProof.Rows
set_option maxRecDepth 100000 in
set_option maxHeartbeats 0 in
theorem PySem.Challenge.cw_sorthall_k27_whole_asks_that_show_holds : PySem.Challenge.rw_sorthall_k27_whole_asks_that_show.Holds := by
  w_on; o_law; k_head; (case hw => w_witness2)
  k_fill
  refine Law.walk (l := PySem.Challenge.rw_sorthall_k27_whole_asks_that_show) rfl rfl (fun w h Y => PySem.W.kIn_of Y) ?F
  case F =>
    intro w mg fa h KX G hmg
    refine' Law.all_mk KX G hmg ?aC_HallError ?aC_NoRule ?aC_NoPaper ?aC_Spent ?aC_Asker ?pg_Asker ?hd_Asker ?po_Asker ?sa_Asker ?mk_Asker ?kc_Asker ?na_Asker_row ?na_Asker_rule ?na_Asker_most ?na_Asker_asked ?na_Asker_log ?aC_Rule ?pg_Rule ?hd_Rule ?po_Rule ?sa_Rule ?mk_Rule ?kc_Rule ?aC_KeyRule ?pg_KeyRule ?hd_KeyRule ?po_KeyRule ?sa_KeyRule ?mk_KeyRule ?kc_KeyRule ?na_KeyRule_columns ?a1 ?l1 ?c1 ?k1 ?a2 ?l2 ?c2 ?k2 ?a3 ?l3 ?c3 ?k3 ?a4 ?l4 ?c4 ?k4 ?a5 ?l5 ?c5 ?k5 ?a6 ?l6 ?c6 ?k6 ?a7 ?l7 ?c7 ?k7 ?a8_KeyRule ?i8 ?l8 ?c8 ?k8 ?a9_KeyRule ?i9 ?l9 ?c9 ?k9 ?a10 ?l10 ?c10 ?k10 ?a11 ?l11 ?c11 ?k11 ?a12 ?l12 ?c12 ?k12 ?a13 ?l13 ?c13 ?k13 ?a14 ?l14 ?c14 ?k14 ?a15_Asker ?i15 ?l15 ?c15 ?k15 ?a16_Asker ?i16 ?l16 ?c16 ?k16 ?a17_Asker ?i17 ?l17 ?lt17 ?c17 ?k17 ?a18_Asker ?i18 ?l18 ?c18 ?k18 ?a19 ?l19 ?c19 ?k19 ?a20 ?l20 ?c20 ?k20 ?a21 ?l21 ?c21 ?k21 ?a22 ?l22 ?c22 ?k22 ?a23 ?l23 ?c23 ?k23 ?a24 ?l24 ?c24 ?k24 ?a25 ?l25 ?c25 ?k25 ?a26 ?l26 ?c26 ?k26 ?a27 ?l27 ?c27 ?k27 ?a28 ?l28 ?c28 ?k28 ?a29 ?l29 ?c29 ?k29 ?a30 ?l30 ?c30 ?k30 ?z_ValueError ?z_list ?z_enumerate ?z_zip ?z_range ?z_len ?z_sorted ?z_max ?z_min ?z_isinstance ?z_bool ?z_tuple ?kk_LAST
    (case aC_HallError => k_is); (case aC_NoRule => k_is); (case aC_NoPaper => k_is); (case aC_Spent => k_is); (case aC_Asker => k_is); (case pg_Asker => k_is); (case hd_Asker => k_is); (case po_Asker => k_is); (case sa_Asker => k_is); (case mk_Asker => k_is); (case kc_Asker => k_is); (case na_Asker_row => k_is); (case na_Asker_rule => k_is); (case na_Asker_most => k_is); (case na_Asker_asked => k_is); (case na_Asker_log => k_is); (case aC_Rule => k_is); (case pg_Rule => k_is); (case hd_Rule => k_is); (case po_Rule => k_is); (case sa_Rule => k_is); (case mk_Rule => k_is); (case kc_Rule => k_is); (case aC_KeyRule => k_is); (case pg_KeyRule => k_is); (case hd_KeyRule => k_is); (case po_KeyRule => k_is); (case sa_KeyRule => k_is); (case mk_KeyRule => k_is); (case kc_KeyRule => k_is); (case na_KeyRule_columns => k_is); (case a1 => k_is); (case l1 => k_is); (case c1 => k_is); (case k1 => k_is); (case a2 => k_is); (case l2 => k_is); (case c2 => k_is); (case k2 => k_is); (case a3 => k_is); (case l3 => k_is); (case c3 => k_is); (case k3 => k_is); (case a4 => k_is); (case l4 => k_is); (case c4 => k_is); (case k4 => k_is); (case a5 => k_is); (case l5 => k_is); (case c5 => k_is); (case k5 => k_is); (case a6 => k_is); (case l6 => k_is); (case c6 => k_is); (case k6 => k_is); (case a7 => k_is); (case l7 => k_is); (case c7 => k_is); (case k7 => k_is); (case a8_KeyRule => k_is); (case i8 => k_is); (case l8 => k_is); (case c8 => k_is); (case k8 => k_is); (case a9_KeyRule => k_is); (case i9 => k_is); (case l9 => k_is); (case c9 => k_is); (case k9 => k_is); (case a10 => k_is); (case l10 => k_is); (case c10 => k_is); (case k10 => k_is); (case a11 => k_is); (case l11 => k_is); (case c11 => k_is); (case k11 => k_is); (case a12 => k_is); (case l12 => k_is); (case c12 => k_is); (case k12 => k_is); (case a13 => k_is); (case l13 => k_is); (case c13 => k_is); (case k13 => k_is); (case a14 => k_is); (case l14 => k_is); (case c14 => k_is); (case k14 => k_is); (case a15_Asker => k_is); (case i15 => k_is); (case l15 => k_is); (case c15 => k_is); (case k15 => k_is); (case a16_Asker => k_is); (case i16 => k_is); (case l16 => k_is); (case c16 => k_is); (case k16 => k_is); (case a17_Asker => k_is); (case i17 => k_is); (case l17 => k_is); (case lt17 => k_is); (case c17 => k_is); (case k17 => k_is); (case a18_Asker => k_is); (case i18 => k_is); (case l18 => k_is); (case c18 => k_is); (case k18 => k_is); (case a19 => k_is); (case l19 => k_is); (case c19 => k_is); (case k19 => k_is); (case a20 => k_is); (case l20 => k_is); (case c20 => k_is); (case k20 => k_is); (case a21 => k_is); (case l21 => k_is); (case c21 => k_is); (case k21 => k_is); (case a22 => k_is); (case l22 => k_is); (case c22 => k_is); (case k22 => k_is); (case a23 => k_is); (case l23 => k_is); (case c23 => k_is); (case k23 => k_is); (case a24 => k_is); (case l24 => k_is); (case c24 => k_is); (case k24 => k_is); (case a25 => k_is); (case l25 => k_is); (case c25 => k_is); (case k25 => k_is); (case a26 => k_is); (case l26 => k_is); (case c26 => k_is); (case k26 => k_is); (case a27 => k_is); (case l27 => k_is); (case c27 => k_is); (case k27 => k_is); (case a28 => k_is); (case l28 => k_is); (case c28 => k_is); (case k28 => k_is); (case a29 => k_is); (case l29 => k_is); (case c29 => k_is); (case k29 => k_is); (case a30 => k_is); (case l30 => k_is); (case c30 => k_is); (case k30 => k_is); (case z_ValueError => k_is); (case z_list => k_is); (case z_enumerate => k_is); (case z_zip => k_is); (case z_range => k_is); (case z_len => k_is); (case z_sorted => k_is); (case z_max => k_is); (case z_min => k_is); (case z_isinstance => k_is); (case z_bool => k_is); (case z_tuple => k_is); (case kk_LAST => k_is)
#print axioms PySem.Challenge.cw_sorthall_k27_whole_asks_that_show_holds

