import PyProof.Rows.All
import Wide.All
import OpenK.AllK
import Wide.FinOn
import HandS.ForMost
import HandS.ForExc
import HandS.Wide
import HandS.SortInts
import HandS.SortRule
import HandS.Conv
import HandS.IsInst
import HandS.Deep
import HandS.Property
import HandS.Evl
import HandS.Style
import HandS.More
import HandS.ExcOwn
import HandS.ExcIs
import HandS.TryOnly
import HandS.WordsExc
import HandS.Iter
import PySem.Challenge.RW_ownhues_k09_right_lists_checked

set_option Elab.async false
set_option linter.all false
set_option maxRecDepth 100000
set_option maxHeartbeats 4000000
/-! OC: short steps through a reading, own lemmas. -/
namespace OC
open PySem PySem.Spec PyProof.Rows L2
abbrev St := L2.St

/-! ### heaps -/
/-- all but u is as it was -/
def Keep (u : Addr) (H H' : Hp) : Prop := ∀ a o, H a = some o → a ≠ u → H' a = some o
theorem Keep.refl {u : Addr} (H : Hp) : Keep u H H := fun _ _ h _ => h
theorem Keep.trans {u : Addr} {H H1 H2 : Hp} (a : Keep u H H1) (b : Keep u H1 H2) : Keep u H H2 := fun x o h n => b x o (a x o h n) n
theorem Keep.same {u : Addr} {H H1 H2 : Hp} (a : Keep u H H1) (b : Same H1 H2) : Keep u H H2 := fun x o h n => b x o (a x o h n)
theorem Same.keep {u : Addr} {H H1 H2 : Hp} (a : Same H H1) (b : Keep u H1 H2) : Keep u H H2 := fun x o h n => b x o (a x o h) n
theorem Same.toKeep {u : Addr} {H H1 : Hp} (a : Same H H1) : Keep u H H1 := fun x o h _ => a x o h
theorem Keep.at {u a : Addr} {H H' : Hp} {o : HO} (k : Keep u H H') (h : H a = some o) (n : a ≠ u) : H' a = some o := k a o h n
theorem sat {a : Addr} {H H' : Hp} {o : HO} (k : Same H H') (h : H a = some o) : H' a = some o := k a o h
theorem same_new {H : Hp} {p : Addr} {o : HO} (h : H p = none) : Same H (upd H p o) := fun b x e => by
  rw [upd_ne (ne_of_none e h)]
  exact e
theorem new_at {H : Hp} {p a : Addr} {o x : HO} (h : H p = none) (e : H a = some x) : upd H p o a = some x := same_new h a x e
theorem upd_at {H : Hp} {p a : Addr} {o x : HO} (n : a ≠ p) (e : H a = some x) : upd H p o a = some x := by
  rw [upd_ne n]
  exact e
theorem upd_none {H : Hp} {p a : Addr} {o : HO} (n : a ≠ p) (e : H a = none) : upd H p o a = none := by
  rw [upd_ne n]
  exact e
/-- what H does not know may change -/
theorem same_mut {H H' : Hp} {p : Addr} {o : HO} (e : Same H H') (h : H p = none) : Same H (upd H' p o) := fun a x q => by
  rw [upd_ne (ne_of_none q h)]
  exact e a x q
theorem keep_mut {u p : Addr} {H H' : Hp} {o : HO} (e : Keep u H H') (h : H p = none) : Keep u H (upd H' p o) := fun a x q n => by
  rw [upd_ne (ne_of_none q h)]
  exact e a x q n
theorem keep_self {u : Addr} {H H' : Hp} {o : HO} (e : Keep u H H') : Keep u H (upd H' u o) := fun a x q n => by
  rw [upd_ne n]
  exact e a x q n
theorem keep_new {u p : Addr} {H H' : Hp} {o : HO} (e : Keep u H H') (h : H' p = none) : Keep u H (upd H' p o) := e.same (same_new h)
theorem sq_l {K : PySem.W.Frag} {H : Hp} {a : Addr} {xs : List V} (h : H a = some (.lst xs)) : SqL K H a xs := .inl (.inl h)
theorem sq_t {K : PySem.W.Frag} {H : Hp} {a : Addr} {xs : List V} (h : H a = some (.tup xs)) : SqT K H a xs := .inl (.inl h)

/-! ### steps through a reading -/
section
variable {K : PySem.W.Frag} {σ : St} {H : Hp} {ta tb te tc : TE} {t u : TT} {ts us : TS} {Q : VK} {n r b c : St → Hp → Prop} {rt : VK} {bk ct : St → Hp → Prop}
theorem x_seq (h : ts ⟨us ⟨n, rt, bk, ct⟩, rt, bk, ct⟩ σ H) : tSeq ts us ⟨n, rt, bk, ct⟩ σ H := h
theorem x_next (h : n σ H) : tNext ⟨n, rt, bk, ct⟩ σ H := h
theorem x_break (h : bk σ H) : tBreak ⟨n, rt, bk, ct⟩ σ H := h
theorem x_cont (h : ct σ H) : tCont ⟨n, rt, bk, ct⟩ σ H := h
theorem x_asg {g : TG} (h : te σ H fun x H1 => g x σ H1 n) : tAsg te g ⟨n, rt, bk, ct⟩ σ H := h
theorem x_name {i : Nat} {v : V} {Qs : St → Hp → Prop} {σ' : St} (e : σ.set i (some v) = σ') (h : Qs σ' H) : gName i v σ H Qs := by
  subst e
  exact h
theorem x_drop (h : te σ H fun _ H1 => n σ H1) : tDrop te ⟨n, rt, bk, ct⟩ σ H := h
theorem x_ret (h : te σ H rt) : tRet te ⟨n, rt, bk, ct⟩ σ H := h
theorem x_retN (h : rt .non H) : tRetN ⟨n, rt, bk, ct⟩ σ H := h
theorem x_ifs (h : t σ H fun z H1 => if z = true then ts ⟨n, rt, bk, ct⟩ σ H1 else us ⟨n, rt, bk, ct⟩ σ H1) : tIfS t ts us ⟨n, rt, bk, ct⟩ σ H := h
theorem x_var {i : Nat} {v : V} (e : σ[i]? = some (some v)) (h : Q v H) : tVar i σ H Q := ⟨v, e, h⟩
theorem x_c {v : V} (h : Q v H) : tC v σ H Q := h
theorem x_op {r : R2} (h : ta σ H fun x H1 => tb σ H1 fun y H2 => r x y H2 Q) : tOp r ta tb σ H Q := h
theorem x_un {r : V → Hp → VK → Prop} (h : ta σ H fun x H1 => r x H1 Q) : tUn r ta σ H Q := h
theorem x_I0 {g : Int → Int → V} {i j : Int} (h : Q (g i j) H) : rI0 g (.int i) (.int j) H Q := ⟨i, j, rfl, rfl, h⟩
theorem x_I {C : Int → Int → Prop} {g : Int → Int → V} {i j : Int} (c : C i j) (h : Q (g i j) H) : rI C g (.int i) (.int j) H Q := ⟨i, j, rfl, rfl, c, h⟩
theorem x_U {g : Int → V} {i : Int} (h : Q (g i) H) : rU g (.int i) H Q := ⟨i, rfl, h⟩
theorem x_test {Qb : Bool → Hp → Prop} {f : TE} (h : f σ H fun x H1 => ∃ k, x = .bl k ∧ Qb k H1) : tTest f σ H Qb := h
theorem x_B {Qb : Bool → Hp → Prop} (h : te σ H fun x H1 => ∃ k, x = .bl k ∧ Qb k H1) : tB te σ H Qb := h
theorem x_bl {z : Bool} {P : Bool → Prop} (h : P z) : ∃ k, V.bl z = .bl k ∧ P k := ⟨z, rfl, h⟩
theorem x_not {Qb : Bool → Hp → Prop} (h : t σ H fun z H1 => Qb (!z) H1) : tNot t σ H Qb := h
theorem x_and {Qb : Bool → Hp → Prop} (h : t σ H fun z H1 => if z = true then u σ H1 Qb else Qb false H1) : tAnd t u σ H Qb := h
theorem x_or {Qb : Bool → Hp → Prop} (h : t σ H fun z H1 => if z = true then Qb true H1 else u σ H1 Qb) : tOr t u σ H Qb := h
theorem x_and' {p q : Prop} {dp : Decidable p} {dq : Decidable q} {Qb : Bool → Hp → Prop} (h1 : ∀ R : Bool → Hp → Prop, R (decide p) H → t σ H R) (h2 : p → ∀ R : Bool → Hp → Prop, R (decide q) H → u σ H R) (h : Qb (decide (p ∧ q)) H) : tAnd t u σ H Qb := by
  refine h1 _ ?_
  by_cases c : p
  · rw [decide_eq_true c]
    refine h2 c _ ?_
    have e : decide (p ∧ q) = decide q := by simp [c]
    rw [e] at h
    exact h
  · rw [decide_eq_false c]
    have e : decide (p ∧ q) = false := by simp [c]
    rw [e] at h
    exact h
theorem x_or' {p q : Prop} {dp : Decidable p} {dq : Decidable q} {Qb : Bool → Hp → Prop} (h1 : ∀ R : Bool → Hp → Prop, R (decide p) H → t σ H R) (h2 : ¬ p → ∀ R : Bool → Hp → Prop, R (decide q) H → u σ H R) (h : Qb (decide (p ∨ q)) H) : tOr t u σ H Qb := by
  refine h1 _ ?_
  by_cases c : p
  · rw [decide_eq_true c]
    have e : decide (p ∨ q) = true := by simp [c]
    rw [e] at h
    exact h
  · rw [decide_eq_false c]
    refine h2 c _ ?_
    have e : decide (p ∨ q) = decide q := by simp [c]
    rw [e] at h
    exact h
theorem x_andV (h : ta σ H fun x H1 => ∃ k, x = .bl k ∧ if k = true then tb σ H1 Q else Q (.bl false) H1) : tAndV ta tb σ H Q := h
theorem x_orV (h : ta σ H fun x H1 => ∃ k, x = .bl k ∧ if k = true then Q (.bl true) H1 else tb σ H1 Q) : tOrV ta tb σ H Q := h
theorem x_notV (h : ta σ H fun x H1 => ∃ k, x = .bl k ∧ Q (.bl (!k)) H1) : tNotV ta σ H Q := h
theorem x_if {t : TT} (h : t σ H fun z H1 => if z = true then ta σ H1 Q else tb σ H1 Q) : tIf t ta tb σ H Q := h
theorem x_eq {x y : V} (s : scal x y = true) (h : Q (.bl (decide (x = y))) H) : rEq x y H Q := ⟨s, h⟩
theorem x_ne {x y : V} (s : scal x y = true) (h : Q (.bl (!decide (x = y))) H) : rNe x y H Q := ⟨s, h⟩
theorem x_eqI {i j : Int} (h : Q (.bl (decide (i = j))) H) : rEq (.int i) (.int j) H Q := ⟨rfl, by
  have e : decide (V.int i = V.int j) = decide (i = j) := by
    by_cases q : i = j
    · subst q; simp
    · rw [decide_eq_false q, decide_eq_false fun z => q (V.int.inj z)]
  rw [e]; exact h⟩
theorem x_neI {i j : Int} (h : Q (.bl (!decide (i = j))) H) : rNe (.int i) (.int j) H Q := ⟨rfl, by
  have e : decide (V.int i = V.int j) = decide (i = j) := by
    by_cases q : i = j
    · subst q; simp
    · rw [decide_eq_false q, decide_eq_false fun z => q (V.int.inj z)]
  rw [e]; exact h⟩
theorem x_ixL {p : Addr} {xs : List V} {i : Int} {v : V} (s : H p = some (.lst xs)) (a : atI xs i = some v) (h : Q v H) : rIxL K (.ref p) (.int i) H Q := ⟨p, xs, i, v, rfl, rfl, sq_l s, a, h⟩
theorem x_ixLs {p : Addr} {xs : List V} {i : Int} {v : V} (s : SqL K H p xs) (a : atI xs i = some v) (h : Q v H) : rIxL K (.ref p) (.int i) H Q := ⟨p, xs, i, v, rfl, rfl, s, a, h⟩
theorem x_ixT {p : Addr} {xs : List V} {i : Int} {v : V} (s : H p = some (.tup xs)) (a : atI xs i = some v) (h : Q v H) : rIxT K (.ref p) (.int i) H Q := ⟨p, xs, i, v, rfl, rfl, sq_t s, a, h⟩
theorem x_nil {Qa : List V → Hp → Prop} (h : Qa [] H) : tNil σ H Qa := h
theorem x_cons {tr : TA} {Qa : List V → Hp → Prop} (h : ta σ H fun x H1 => tr σ H1 fun xs H2 => Qa (x :: xs) H2) : tCons ta tr σ H Qa := h
theorem x_cb {r : List V → Hp → VK → Prop} {tr : TA} (h : tr σ H fun vs H1 => r vs H1 Q) : tCB r tr σ H Q := h
theorem x_call {sp : Sp} {E : XK} {tr : TA} (h : tr σ H fun vs H1 => sp vs H1 Q E) : tCall sp [] E tr σ H Q := by
  have e : (fun (vs : List V) (H1 : Hp) => sp (vs ++ []) H1 Q E) = fun vs H1 => sp vs H1 Q E := by
    funext vs H1
    rw [List.append_nil]
  show tr σ H fun vs H1 => sp (vs ++ []) H1 Q E
  rw [e]
  exact h
theorem x_meth0 {C : Addr} {m : Str} {sp : Sp} {E : XK} (h : ta σ H fun x H1 => ∃ a dx fs, x = .ref a ∧ H1 a = some (.ins C dx fs) ∧ fs.lookup m = none ∧ sp [x] H1 Q E) : tMeth C m sp [] E ta tNil σ H Q := h
theorem x_meth {C : Addr} {m : Str} {sp : Sp} {E : XK} {tr : TA} (h : ta σ H fun x H1 => ∃ a dx fs, x = .ref a ∧ H1 a = some (.ins C dx fs) ∧ fs.lookup m = none ∧ tr σ H1 fun vs H2 => sp (x :: vs) H2 Q E) : tMeth C m sp [] E ta tr σ H Q := by
  have e : (fun (x : V) (vs : List V) (H1 : Hp) => sp (x :: (vs ++ [])) H1 Q E) = fun x vs H1 => sp (x :: vs) H1 Q E := by
    funext x vs H1
    rw [List.append_nil]
  show ta σ H fun x H1 => ∃ a dx fs, x = .ref a ∧ H1 a = some (.ins C dx fs) ∧ fs.lookup m = none ∧ tr σ H1 fun vs H2 => (fun (x : V) (vs : List V) (H1 : Hp) => sp (x :: (vs ++ [])) H1 Q E) x vs H2
  rw [e]
  exact h
theorem x_make {C : Addr} {sp : Sp} {E : XK} {tr : TA} (h : tr σ H fun vs H1 => ∀ x dx, H1 x = none → H1 dx = none → dx ≠ x → sp (.ref x :: vs) (upd (upd H1 dx (.own x)) x (.ins C dx [])) (fun v H2 => v = .non ∧ Q (.ref x) H2) E) : tMake C sp [] E tr σ H Q := by
  have e : (fun (vs : List V) (H1 : Hp) => ∀ x dx, H1 x = none → H1 dx = none → dx ≠ x → sp (.ref x :: (vs ++ [])) (upd (upd H1 dx (.own x)) x (.ins C dx [])) (fun v H2 => v = .non ∧ Q (.ref x) H2) E) =
      fun vs H1 => ∀ x dx, H1 x = none → H1 dx = none → dx ≠ x → sp (.ref x :: vs) (upd (upd H1 dx (.own x)) x (.ins C dx [])) (fun v H2 => v = .non ∧ Q (.ref x) H2) E := by
    funext vs H1
    rw [List.append_nil]
  show tr σ H (fun (vs : List V) (H1 : Hp) => ∀ x dx, H1 x = none → H1 dx = none → dx ≠ x → sp (.ref x :: (vs ++ [])) (upd (upd H1 dx (.own x)) x (.ins C dx [])) (fun v H2 => v = .non ∧ Q (.ref x) H2) E)
  rw [e]
  exact h
theorem x_ins {C : Addr} {m : Str} {P : Prop} {a dx : Addr} {fs : List (Str × V)} (h : H a = some (.ins C dx fs)) (l : fs.lookup m = none) (k : P) : ∃ a' dx' fs', V.ref a = .ref a' ∧ H a' = some (.ins C dx' fs') ∧ fs'.lookup m = none ∧ P := ⟨a, dx, fs, rfl, h, l, k⟩
theorem x_prop {C : Addr} {sp : Sp} {E : XK} (h : te σ H fun x H1 => ∃ a dx fs, x = .ref a ∧ H1 a = some (.ins C dx fs) ∧ sp [.ref a] H1 Q E) : tProp C sp [] E te σ H Q := h
theorem x_inp {C : Addr} {sp : Sp} {E : XK} {a dx : Addr} {fs : List (Str × V)} (h : H a = some (.ins C dx fs)) (k : sp [.ref a] H Q E) : ∃ a' dx' fs', V.ref a = .ref a' ∧ H a' = some (.ins C dx' fs') ∧ sp [.ref a'] H Q E := ⟨a, dx, fs, rfl, h, k⟩
theorem x_tup {tr : TA} (h : tr σ H fun xs H1 => xs.length ≤ sizeLine ∧ ∀ p, H1 p = none → Q (.ref p) (upd H1 p (.tup xs))) : tTup tr σ H Q := h
theorem x_lst {tr : TA} (h : tr σ H fun xs H1 => xs.length ≤ sizeLine ∧ ∀ p, H1 p = none → Q (.ref p) (upd H1 p (.lst xs))) : tLst tr σ H Q := h
theorem x_bm {T : String} {r : V → List V → Hp → VK → Prop} {tr : TA} (h : ta σ H fun x H1 => tyV K T x H1 ∧ tr σ H1 fun xs H2 => r x xs H2 Q) : tBM K T r ta tr σ H Q := h
theorem x_bm0 {T : String} {r : V → List V → Hp → VK → Prop} (h : ta σ H fun x H1 => tyV K T x H1 ∧ r x [] H1 Q) : tBM0 K T r ta σ H Q := h
theorem x_tyL {p : Addr} {xs : List V} {P : Prop} (s : H p = some (.lst xs)) (h : P) : tyV K "list" (.ref p) H ∧ P := ⟨.inl ⟨rfl, _, sq_l s⟩, h⟩
theorem x_append {p : Addr} {xs : List V} {v : V} (s : H p = some (.lst xs)) (l : xs.length < sizeLine) (h : Q .non (upd H p (.lst (xs ++ [v])))) : rAppend (.ref p) [v] H Q := ⟨p, xs, v, rfl, rfl, s, l, h⟩
theorem x_setL {p : Addr} {xs : List V} {k : Int} {v : V} {Qh : Hp → Prop} (s : H p = some (.lst xs)) (a : 0 ≤ k) (l : k < xs.length) (h : Qh (upd H p (.lst (xs.set k.toNat v)))) : rSetL (.ref p) (.int k) v H Qh :=
  ⟨p, xs, k, k.toNat, rfl, rfl, s, by unfold ixN; rw [if_pos a, if_pos l], h⟩
theorem x_sub {to ti : TE} {tset : TSet} {v : V} {Qs : St → Hp → Prop} (h : to σ H fun o H1 => ti σ H1 fun i H2 => tset o i v H2 fun H3 => Qs σ H3) : gSub to ti tset v σ H Qs := h
theorem x_gTup {nn : Nat} {g : TGs} {p : Addr} {xs : List V} {Qs : St → Hp → Prop} (s : H p = some (.tup xs)) (l : xs.length = nn) (h : g xs σ H Qs) : gTup K nn g (.ref p) σ H Qs := ⟨p, xs, rfl, sq_t s, l, h⟩
theorem x_gCons {g : TG} {gs : TGs} {v : V} {vs : List V} {Qs : St → Hp → Prop} (h : g v σ H fun σ' H' => gs vs σ' H' Qs) : gCons g gs (v :: vs) σ H Qs := ⟨v, vs, rfl, h⟩
theorem x_gNil {Qs : St → Hp → Prop} (h : Qs σ H) : gNil [] σ H Qs := ⟨rfl, h⟩
theorem x_augI {i : Nat} {f : Int → Int → Int} {a : Int} (e : σ[i]? = some (some (.int a))) (h : te σ H fun y H1 => ∃ b, y = .int b ∧ n (σ.set i (some (.int (f a b)))) H1) : tAug i te (ipI f) ⟨n, rt, bk, ct⟩ σ H := ⟨.int a, e, by
  have w : ∀ (y : V) (H1 : Hp), (∃ b, y = .int b ∧ n (σ.set i (some (.int (f a b)))) H1) → ipI f (.int a) y H1 fun z H2 => n (σ.set i (some z)) H2 := fun y H1 ⟨b, e1, q⟩ => ⟨a, b, rfl, e1, q⟩
  have e : (fun (y : V) (H1 : Hp) => ∃ b, y = .int b ∧ n (σ.set i (some (.int (f a b)))) H1) = fun y H1 => ipI f (.int a) y H1 fun z H2 => n (σ.set i (some z)) H2 := by
    funext y H1
    exact propext ⟨w y H1, fun ⟨i1, j1, e1, e2, q⟩ => ⟨j1, e2, by cases e1; exact q⟩⟩
  show te σ H fun y H1 => ipI f (.int a) y H1 fun z H2 => n (σ.set i (some z)) H2
  rw [← e]
  exact h⟩
theorem x_int {i : Int} {P : Int → Prop} (h : P i) : ∃ b, V.int i = .int b ∧ P b := ⟨i, rfl, h⟩
theorem x_it {p : Prop} {_d : Decidable p} {A B : Prop} (c : p) (h : A) : if decide p = true then A else B := by rw [decide_eq_true c]; exact h
theorem x_if0 {p : Prop} {_d : Decidable p} {A B : Prop} (c : ¬ p) (h : B) : if decide p = true then A else B := by rw [decide_eq_false c]; exact h
theorem x_ite {p : Prop} {_d : Decidable p} {A B : Prop} (h1 : p → A) (h2 : ¬ p → B) : if decide p = true then A else B := by
  by_cases q : p
  · rw [decide_eq_true q]; exact h1 q
  · rw [decide_eq_false q]; exact h2 q
theorem x_iten {p : Prop} {_d : Decidable p} {A B : Prop} (h1 : ¬ p → A) (h2 : p → B) : if (!decide p) = true then A else B := by
  by_cases q : p
  · rw [decide_eq_true q]; exact h2 q
  · rw [decide_eq_false q]; exact h1 q
theorem x_itb {z : Bool} {A B : Prop} (h1 : z = true → A) (h2 : z = false → B) : if z = true then A else B := by
  cases z
  · exact h2 rfl
  · exact h1 rfl
theorem x_itn0 {p : Prop} {_d : Decidable p} {A B : Prop} (c : p) (h : B) : if (!decide p) = true then A else B := by rw [decide_eq_true c]; exact h
theorem x_itn1 {p : Prop} {_d : Decidable p} {A B : Prop} (c : ¬ p) (h : A) : if (!decide p) = true then A else B := by rw [decide_eq_false c]; exact h
theorem x_cut (Mid : St → Hp → Prop) (h : ts ⟨Mid, rt, bk, ct⟩ σ H) (k : ∀ σ' H', Mid σ' H' → us ⟨n, rt, bk, ct⟩ σ' H') : Evl.tCut ts us ⟨n, rt, bk, ct⟩ σ H := ⟨Mid, h, k⟩
theorem x_nT {A B : Prop} (h : B) : if (!true) = true then A else B := h
theorem x_nF {A B : Prop} (h : A) : if (!false) = true then A else B := h
theorem x_T {A B : Prop} (h : A) : if true = true then A else B := h
theorem x_F {A B : Prop} (h : B) : if false = true then A else B := h
theorem x_intI {i : Int} {C : Prop} (h : Q (.int i) H) : (∃ j, [V.int i] = [.int j] ∧ Q (.int j) H) ∨ C := .inl ⟨i, rfl, h⟩
end
section
variable {σ : St} {H : Hp} {ta : TE} {Q : VK}
theorem x_tRg1 {Qr : Int → Int → Hp → Prop} (h : ta σ H fun x H1 => ∃ n, x = .int n ∧ Qr 0 n H1) : tRg1 ta σ H Qr := h
theorem x_rgN {N : Int} {Qr : Int → Prop} (h : Qr N) : ∃ n, V.int N = .int n ∧ Qr n := ⟨N, rfl, h⟩
theorem x_rgOk {N : Int} {A : Prop} (a : 0 ≤ N) (b : N ≤ 100000) (h : A) : RgOk 0 N ∧ A := ⟨RgOk.of_le (by decide) (by omega) (by decide) a, h⟩
theorem x_lstRg {te : St → Hp → (Int → Int → Hp → Prop) → Prop} (h : te σ H fun a b H1 => RgOk a b ∧ ∀ q, H1 q = none → Q (.ref q) (upd H1 q (.lst (rgV a b)))) : tLstRg te σ H Q := h
end
theorem sz_ok {n : Nat} (h : n ≤ 100000) : n ≤ sizeLine := Nat.le_trans h (by decide)
theorem sz_lt {n : Nat} (h : n < 100000) : n < sizeLine := Nat.lt_of_lt_of_le h (by decide)
theorem mul_l {i j : Int} (h1 : -(2 ^ 64) < i) (h2 : i < 2 ^ 64) : CMul i j := .inl ⟨h1, h2⟩
theorem mul_r {i j : Int} (h1 : -(2 ^ 64) < j) (h2 : j < 2 ^ 64) : CMul i j := .inr ⟨h1, h2⟩

section
variable {H : Hp} {Q : VK} {g : Int → Int → V} {i j : Int}
theorem x_div (a : 0 < j) (b : j < 1073741824) (h : Q (g i j) H) : rI CDiv g (.int i) (.int j) H Q := x_I ⟨a, b⟩ h
theorem x_mod (a : 0 < j) (h : Q (g i j) H) : rI (fun _ j => 0 < j) g (.int i) (.int j) H Q := x_I a h
theorem x_mull (a : -(2 ^ 64) < i) (b : i < 2 ^ 64) (h : Q (g i j) H) : rI CMul g (.int i) (.int j) H Q := x_I (mul_l a b) h
theorem x_mulr (a : -(2 ^ 64) < j) (b : j < 2 ^ 64) (h : Q (g i j) H) : rI CMul g (.int i) (.int j) H Q := x_I (mul_r a b) h
theorem x_pow (a : 0 ≤ j) (b : j ≤ 1000000) (c : i.natAbs < 2 ^ 64) (h : Q (g i j) H) : rI CPow g (.int i) (.int j) H Q := x_I ⟨a, b, c⟩ h
theorem x_divW (a : 0 < j) (b : j.natAbs < 2 ^ 64) (h : Q (g i j) H) : rI CDivW g (.int i) (.int j) H Q := x_I (wide_div a b (by decide) (by decide)) h
end
/-! ### built-ins, their readings by name -/
def rInt : List V → Hp → VK → Prop := fun xs H Q => (∃ i, xs = [.int i] ∧ Q (.int i) H) ∨ ∃ k, xs = [.bl k] ∧ Q (.int (if k then 1 else 0)) H
def rLen (K : PySem.W.Frag) : List V → Hp → VK → Prop := fun xs H Q => ∃ p ys, xs = [.ref p] ∧ (SqL K H p ys ∨ SqT K H p ys) ∧ Q (.int ys.length) H
def rListOf (K : PySem.W.Frag) : List V → Hp → VK → Prop := fun xs H Q => ∃ p ys, xs = [.ref p] ∧ (SqL K H p ys ∨ SqT K H p ys) ∧ ∀ l, H l = none → Q (.ref l) (upd H l (.lst ys))
def rMax2 : List V → Hp → VK → Prop := fun xs H Q => ∃ i j, xs = [.int i, .int j] ∧ Q (.int (if j > i then j else i)) H
def rMin2 : List V → Hp → VK → Prop := fun xs H Q => ∃ i j, xs = [.int i, .int j] ∧ Q (.int (if j < i then j else i)) H
section
variable {X : Cx}
theorem cl_int : CallR X (.type "int") rInt := call_int1
theorem cl_max2 (hc : X.calm = true) : CallR X (.builtin "max") rMax2 := call_max2 hc
theorem cl_min2 (hc : X.calm = true) : CallR X (.builtin "min") rMin2 := call_min2 hc
end
section
variable {K : PySem.W.Frag} {H : Hp} {Q : VK}
theorem x_int_i {i : Int} (h : Q (.int i) H) : rInt [.int i] H Q := .inl ⟨i, rfl, h⟩
theorem x_int_b {b : Bool} (h : Q (.int (if b then 1 else 0)) H) : rInt [.bl b] H Q := .inr ⟨b, rfl, h⟩
theorem x_len {p : Addr} {ys : List V} (s : H p = some (.lst ys)) (h : Q (.int ys.length) H) : rLen K [.ref p] H Q := ⟨p, ys, rfl, .inl (sq_l s), h⟩
theorem x_lenT {p : Addr} {ys : List V} (s : H p = some (.tup ys)) (h : Q (.int ys.length) H) : rLen K [.ref p] H Q := ⟨p, ys, rfl, .inr (sq_t s), h⟩
theorem x_lenS {p : Addr} {ys : List V} (s : SqL K H p ys) (h : Q (.int ys.length) H) : rLen K [.ref p] H Q := ⟨p, ys, rfl, .inl s, h⟩
theorem x_listOf {p : Addr} {ys : List V} (s : H p = some (.lst ys)) (h : ∀ l, H l = none → Q (.ref l) (upd H l (.lst ys))) : rListOf K [.ref p] H Q := ⟨p, ys, rfl, .inl (sq_l s), h⟩
theorem x_max2 {i j : Int} (h : Q (.int (if j > i then j else i)) H) : rMax2 [.int i, .int j] H Q := ⟨i, j, rfl, h⟩
theorem x_min2 {i j : Int} (h : Q (.int (if j < i then j else i)) H) : rMin2 [.int i, .int j] H Q := ⟨i, j, rfl, h⟩
theorem x_sz {n : Nat} {A : Prop} (s : n ≤ 100000) (h : A) : n ≤ sizeLine ∧ A := ⟨sz_ok s, h⟩
theorem x_isi {x c : V} {t u : Value} {b : Bool} (k : ClsV c u) (ty : TyX K H x t) (e : PySem.W.kitOne K t u = some b) (h : Q (.bl b) H) : rIsi K [x, c] H Q := ⟨x, c, t, u, b, rfl, k, ty, e, h⟩
theorem x_ext {l b : Addr} {xs zs : List V} (s : H l = some (.lst xs)) (s2 : H b = some (.lst zs)) (z : xs.length + zs.length ≤ 100000) (h : Q .non (upd H l (.lst (xs ++ zs)))) : rExtend (.ref l) [.ref b] H Q := ⟨l, b, xs, zs, rfl, rfl, s, s2, sz_ok z, h⟩
theorem x_rev {l : Addr} {xs : List V} (s : H l = some (.lst xs)) (h : Q .non (upd H l (.lst xs.reverse))) : rReverse (.ref l) [] H Q := ⟨l, xs, rfl, rfl, s, h⟩
theorem x_popAt {l : Addr} {xs : List V} {k : Int} {y : V} (s : H l = some (.lst xs)) (z : xs.length ≤ 100000) (a : 0 ≤ k) (e : xs[k.toNat]? = some y) (h : Q y (upd H l (.lst (xs.eraseIdx k.toNat)))) : rPopAt (.ref l) [.int k] H Q := by
  have hk := (List.getElem?_eq_some_iff.mp e).1
  exact ⟨l, xs, k, k.toNat, y, rfl, rfl, s, by omega, by omega, PySem.seqIndex_of a (by omega), e, h⟩
end

/-! ### rules with the written part by name (within a block, too) -/
section
variable {X : Cx} (K : PySem.W.Frag) (hK : X.K = K := by rfl)
include hK
theorem cl_len : CallR X (.builtin "len") (rLen K) := by subst hK; exact call_len_seq
theorem cl_listOf : CallR X (.type "list") (rListOf K) := by subst hK; exact call_list_of
theorem cl_isi : CallR X (.builtin "isinstance") (rIsi K) := by subst hK; exact call_isi
theorem cl_sortedI : CallR X (.builtin "sorted") (rSortedI K) := by subst hK; exact cr_sortedI
theorem cl_sortedPO : CallR X (.builtin "sorted") (rSortedPO K) := by subst hK; exact cr_sortedPO
theorem ix_l : IxR X (rIxL K) := by subst hK; exact ix_list
theorem ix_t : IxR X (rIxT K) := by subst hK; exact ix_tup
theorem k_in : OpR X (compareOp .In) (rIn K false) := by subst hK; exact op_in_seq
theorem k_nin : OpR X (compareOp .NotIn) (rIn K true) := by subst hK; exact op_notIn_seq
theorem k_sll : SlR X (rSlL K) := by subst hK; exact sl_list
theorem k_slt : SlR X (rSlT K) := by subst hK; exact sl_tup
end
section
variable {X : Cx} (K : PySem.W.Frag)
theorem cl_all (hc : X.calm = true) (hK : X.K = K := by rfl) : CallR X (.builtin "all") (rAll K) := by subst hK; exact cr_all hc
theorem cl_any (hc : X.calm = true) (hK : X.K = K := by rfl) : CallR X (.builtin "any") (rAny K) := by subst hK; exact cr_any hc
theorem cl_sum (hc : X.calm = true) (hK : X.K = K := by rfl) : CallR X (.builtin "sum") (rSum K) := by subst hK; exact cr_sum hc
theorem cl_max (hc : X.calm = true) (hK : X.K = K := by rfl) : CallR X (.builtin "max") (rMax K) := by subst hK; exact cr_max hc
theorem cl_min (hc : X.calm = true) (hK : X.K = K := by rfl) : CallR X (.builtin "min") (rMin K) := by subst hK; exact cr_min hc
theorem k_eqD (hu : X.A.units + 64 < cLine) (hK : X.K = K := by rfl) : OpR X (compareOp .Eq) (rEqD K) := by subst hK; exact op_eqD hu
theorem k_neD (hu : X.A.units + 64 < cLine) (hK : X.K = K := by rfl) : OpR X (compareOp .NotEq) (rNeD K) := by subst hK; exact op_neD hu
theorem k_inD (hu : X.A.units + 65 < cLine) (hK : X.K = K := by rfl) : OpR X (compareOp .In) (rInD K) := by subst hK; exact op_inD hu
theorem k_ninD (hu : X.A.units + 65 < cLine) (hK : X.K = K := by rfl) : OpR X (compareOp .NotIn) (rNotInD K) := by subst hK; exact op_notInD hu
variable {e o value : Expr} {f : Str} {pos pos' apos cpos : Pos} {ta tv to te : TE}
theorem k_fld (he : PE X e ta) (hb : attributeBase e f X.env (eval e X.env) = eval e X.env) (hK : X.K = K := by rfl) : PE X (.Attribute e f pos) (tFld K ta f) := by subst hK; exact pe_fld he hb
theorem k_sfld (ha : PE X o ta) (hv : PE X value tv) (hs : swapsWith value (some (.Attribute o f pos')) pos.line X.env = pure false) (hK : X.K = K := by rfl) : PS X (.Assign [.Attribute o f pos'] value pos) (sFld K ta tv f) := by subst hK; exact ps_fld ha hv hs
theorem k_tup {es : List Expr} {k : Nat} {t : TGs} {n : Nat} (hc : X.calm = true) (h : PGs X es t)
    (hn : (assignEach es X.env).length = n := by rfl) (hst : (assignEach es X.env).findIdx? (·.1) = none := by rfl) (hK : X.K = K := by rfl) : PG X (.Tuple es k pos) (gTup K n t) := by subst hK; exact pg_tup hc h hn hst
theorem k_pil {tg l : Expr} {tl : TE} (hl : PE X l tl) (hK : X.K = K := by rfl) : PI X tg l (iList K tl) := by subst hK; exact pi_list hl
theorem k_pit {tg l : Expr} {tl : TE} (hl : PE X l tl) (hK : X.K = K := by rfl) : PI X tg l (iTup K tl) := by subst hK; exact pi_tup hl
theorem k_bm {T : String} {name : Str} {id : String} {r : V → List V → Hp → VK → Prop} {es : List Expr} {t : TA} (pa : PlainAttrs T) (slot : Slot T name id) (hty : typeOf (.builtin id) = pure (.type "method_descriptor")) (hm : MtR X id r) (ho : PE X o to) (ha : PA X (e :: es) t)
    (hbase : attributeBase o name X.env (eval o X.env) = eval o X.env := by rfl)
    (hfew : ((backTo cpos (starEach (e :: es) X.env)).all (fun x => !x.1) && (backToKw cpos (keywordEach [] X.env)).all (fun x => x.1.isSome)
      && decide ((e :: es).length + ([] : List Keyword).length + (if ([] : List Keyword).isEmpty then 0 else 1) < 30)) = true := by rfl)
    (hline : (apos.endLine == cpos.line) = true := by rfl) (hs : starEach (e :: es) X.env = (false, eval e X.env) :: starEach es X.env := by rfl) (hplain : (backTo cpos (starEach es X.env)).any (·.1) = false := by rfl) (hK : X.K = K := by rfl) :
    PE X (.Call (.Attribute o name apos) (e :: es) [] cpos) (tBM K T r to t) := by subst hK; exact pe_bm pa slot hty hm ho ha hbase hfew hline hs hplain
theorem k_bm0 {T : String} {name : Str} {id : String} {r : V → List V → Hp → VK → Prop} (pa : PlainAttrs T) (slot : Slot T name id) (hty : typeOf (.builtin id) = pure (.type "method_descriptor")) (hm : MtR X id r) (ho : PE X o to)
    (hbase : attributeBase o name X.env (eval o X.env) = eval o X.env := by rfl) (hline : (apos.endLine == cpos.line) = true := by rfl) (hK : X.K = K := by rfl) : PE X (.Call (.Attribute o name apos) [] [] cpos) (tBM0 K T r to) := by subst hK; exact pe_bm0 pa slot hty hm ho hbase hline
end
theorem hu65 {k : Nat} {A : Around} (hr : Room k A) : A.units + 65 < cLine := by
  have := hr.un
  omega

/-! ### calls by name, with what may leave -/
structure Cal (P : Program) (w : World) (K : PySem.W.Frag) (mg : Str → Option Value) (base : Heap) (CX : CXT) (k : Nat) (x : Str) (sp : Sp) : Prop where
  ex : ∃ (f : Addr) (fd : FuncData) (ps : List Str), FnOk P w K mg base CX k f fd ps sp ∧ mg x = some (.ref f) ∧ PySem.W.keepIn K (.ref f) = true ∧ Binds K fd ps []
theorem pe_cal {X : Cx} {CX : CXT} {k j : Nat} {x : Str} {sp : Sp} {E : XK} {e : Expr} {es : List Expr} {t : TA} {p pos : Pos} (c : Cal X.prog X.w X.K X.mg X.base CX k x sp) (hr : Room j X.A) (hk : k ≤ j) (hg : Gl X x) (hx : Passes CX X E) (ht : PA X (e :: es) t)
    (hdb : (x == ("__debug__" : Str)) = false := by decide) (he : starEach (e :: es) X.env = (false, eval e X.env) :: starEach es X.env := by rfl) (hpl : (backTo pos (starEach es X.env)).any (·.1) = false := by rfl) :
    PE X (.Call (.Name x p) (e :: es) [] pos) (tCall sp [] E t) := by
  obtain ⟨f, fd, ps, F, hm, kp, b⟩ := c.ex
  exact pe_call F (hr.mono hk) hg hm kp b .nil hx ht hdb he hpl
/-! ### loops, comprehensions: the questions by name -/
/-- a for over what J walks -/
def FW (J : It) (g : TG) (tb : TS) (D : Ends) (σ : St) (H1 : Hp) : Prop := ∃ W : Nat → Nat → St → Hp → Prop, (∃ m, W 0 m σ H1) ∧ ∀ i m σ H, W i m σ H →
  (J.stop i H ∧ D.nx σ H) ∨ (J.go i H ∧ ∃ N : St → Hp → Prop, (∀ σ' H', N σ' H' → ∃ m', m' < m ∧ W (i + 1) m' σ' H') ∧ ∀ x H', J.yld i H x H' → g x σ H' fun σ2 H2 => tb { D with nx := N, ct := N, bk := D.nx } σ2 H2)
/-- a comprehension over what J walks, its list at D -/
def LW (J : It) (D : Addr) (g : TG) (tt : TT) (te : TE) (vs : List Nat) (σ : St) (H1 : Hp) (Q : VK) : Prop := ∃ W : Nat → Nat → Hp → Prop, (∃ m, W 0 m (upd H1 D (.lst []))) ∧ ∀ i m H, W i m H →
  (J.stop i H ∧ Q (.ref D) H) ∨ (J.go i H ∧ ∃ Nx : Hp → Prop, (∀ H', Nx H' → ∃ m', m' < m ∧ W (i + 1) m' H') ∧ ∀ x H', J.yld i H x H' → g x (wipe σ vs) H' fun σ2 H2 => wipe σ2 vs = wipe σ vs ∧ tt σ2 H2 fun b H3 =>
    if b = true then te σ2 H3 fun y H4 => ∃ acc, H4 D = some (.lst acc) ∧ acc.length < sizeLine ∧ Nx (upd H4 D (.lst (acc ++ [y]))) else Nx H3)
def Rg1 (vs : List V) (H : Hp) (R : It → Hp → Prop) : Prop := ∃ j : Int, vs = [.int j] ∧ -(2 ^ 62) ≤ j ∧ j < 2 ^ 62 ∧ R (Itr 0 j.toNat) H
def Rg2 (vs : List V) (H : Hp) (R : It → Hp → Prop) : Prop := ∃ i j : Int, vs = [.int i, .int j] ∧ (-(2 ^ 62) ≤ i ∧ i < 2 ^ 62 ∧ -(2 ^ 62) ≤ j ∧ j < 2 ^ 62) ∧ R (Itr i (j - i).toNat) H
def Il (K : PySem.W.Frag) (x : V) (H : Hp) (R : It → Hp → Prop) : Prop := ∃ a, x = .ref a ∧ (∃ xs, SqL K H a xs) ∧ R (Itl K a) H
section
variable {K : PySem.W.Frag} {σ : St} {H : Hp} {ta : TA} {te tl : TE} {tt : TT} {wi : TI} {g : TG} {tb : TS} {Q : VK} {D : Ends} {R : It → Hp → Prop} {vs : List Nat}
theorem x_for {n : St → Hp → Prop} {rt : VK} {bk ct : St → Hp → Prop} (h : wi σ H fun J H1 => FW J g tb ⟨n, rt, bk, ct⟩ σ H1) : tFor wi g tb ⟨n, rt, bk, ct⟩ σ H := h
theorem x_lc (h : wi σ H fun J H1 => ∀ D, H1 D = none → LW J D g tt te vs σ H1 Q) : tLc wi g tt te vs σ H Q := h
theorem x_rg1 (h : ta σ H fun vs H1 => Rg1 vs H1 R) : iRng1 ta σ H R := h
theorem x_rg2 (h : ta σ H fun vs H1 => Rg2 vs H1 R) : iRng2 ta σ H R := h
theorem x_il (h : tl σ H fun x H1 => Il K x H1 R) : iList K tl σ H R := h
theorem x_r1 {j : Int} (a : -(2 ^ 62) ≤ j) (b : j < 2 ^ 62) (h : R (Itr 0 j.toNat) H) : Rg1 [.int j] H R := ⟨j, rfl, a, b, h⟩
theorem x_r2 {i j : Int} (a : -(2 ^ 62) ≤ i) (a' : i < 2 ^ 62) (b : -(2 ^ 62) ≤ j) (b' : j < 2 ^ 62) (h : R (Itr i (j - i).toNat) H) : Rg2 [.int i, .int j] H R := ⟨i, j, rfl, ⟨a, a', b, b'⟩, h⟩
theorem x_ill {a : Addr} {xs : List V} (s : H a = some (.lst xs)) (h : R (Itl K a) H) : Il K (.ref a) H R := ⟨a, rfl, ⟨xs, sq_l s⟩, h⟩
theorem x_ils {a : Addr} {xs : List V} (s : SqL K H a xs) (h : R (Itl K a) H) : Il K (.ref a) H R := ⟨a, rfl, ⟨xs, s⟩, h⟩
/-- for i in range: the invariant, its start, a turn, the end -/
theorem x_fwR {lo : Int} {n : Nat} {nx : St → Hp → Prop} {rt : VK} {bk ct : St → Hp → Prop} (Pv : Nat → St → Hp → Prop) (h0 : Pv 0 σ H)
    (hs : ∀ i σ H, i < n → Pv i σ H → g (.int (lo + (i : Int))) σ H fun σ2 H2 => tb ⟨Pv (i + 1), rt, nx, Pv (i + 1)⟩ σ2 H2) (hd : ∀ σ H, Pv n σ H → nx σ H) : FW (Itr lo n) g tb ⟨nx, rt, bk, ct⟩ σ H :=
  for_range (D := ⟨nx, rt, bk, ct⟩) Pv h0 hs hd
theorem x_fwL {a : Addr} {xs : List V} {nx : St → Hp → Prop} {rt : VK} {bk ct : St → Hp → Prop} (Pv : Nat → St → Hp → Prop) (h0 : Pv 0 σ H) (hl : ∀ i σ H, i ≤ xs.length → Pv i σ H → SqL K H a xs)
    (hs : ∀ i x σ H, xs[i]? = some x → Pv i σ H → g x σ H fun σ2 H2 => tb ⟨Pv (i + 1), rt, nx, Pv (i + 1)⟩ σ2 H2) (hd : ∀ σ H, Pv xs.length σ H → nx σ H) : FW (Itl K a) g tb ⟨nx, rt, bk, ct⟩ σ H :=
  for_list (D := ⟨nx, rt, bk, ct⟩) Pv h0 hl hs hd
/-- comprehensions -/
theorem x_lwR {lo : Int} {n : Nat} {Dl : Addr} (Pv : Nat → Hp → Prop) (h0 : Pv 0 (upd H Dl (.lst [])))
    (hs : ∀ i H, i < n → Pv i H → g (.int (lo + (i : Int))) (wipe σ vs) H fun σ2 H2 => wipe σ2 vs = wipe σ vs ∧ tt σ2 H2 fun b H3 =>
      if b = true then te σ2 H3 fun y H4 => ∃ acc, H4 Dl = some (.lst acc) ∧ acc.length < sizeLine ∧ Pv (i + 1) (upd H4 Dl (.lst (acc ++ [y]))) else Pv (i + 1) H3) (hd : ∀ H, Pv n H → Q (.ref Dl) H) :
    LW (Itr lo n) Dl g tt te vs σ H Q := lc_range (Qd := fun H => Q (.ref Dl) H) Pv h0 hs hd
theorem x_lwL {a : Addr} {xs : List V} {Dl : Addr} (Pv : Nat → Hp → Prop) (h0 : Pv 0 (upd H Dl (.lst []))) (hl : ∀ i H, i ≤ xs.length → Pv i H → SqL K H a xs)
    (hs : ∀ i x H, xs[i]? = some x → Pv i H → g x (wipe σ vs) H fun σ2 H2 => wipe σ2 vs = wipe σ vs ∧ tt σ2 H2 fun b H3 =>
      if b = true then te σ2 H3 fun y H4 => ∃ acc, H4 Dl = some (.lst acc) ∧ acc.length < sizeLine ∧ Pv (i + 1) (upd H4 Dl (.lst (acc ++ [y]))) else Pv (i + 1) H3) (hd : ∀ H, Pv xs.length H → Q (.ref Dl) H) :
    LW (Itl K a) Dl g tt te vs σ H Q := lc_list (Qd := fun H => Q (.ref Dl) H) Pv h0 hl hs hd
theorem x_fwR0 {n : Nat} {nx : St → Hp → Prop} {rt : VK} {bk ct : St → Hp → Prop} (Pv : Nat → St → Hp → Prop) (h0 : Pv 0 σ H)
    (hs : ∀ i σ H, i < n → Pv i σ H → g (.int (i : Int)) σ H fun σ2 H2 => tb ⟨Pv (i + 1), rt, nx, Pv (i + 1)⟩ σ2 H2) (hd : ∀ σ H, Pv n σ H → nx σ H) : FW (Itr 0 n) g tb ⟨nx, rt, bk, ct⟩ σ H :=
  x_fwR Pv h0 (fun i σ H hi p => by rw [Int.zero_add]; exact hs i σ H hi p) hd
theorem x_lwR0 {n : Nat} {Dl : Addr} (Pv : Nat → Hp → Prop) (h0 : Pv 0 (upd H Dl (.lst [])))
    (hs : ∀ i H, i < n → Pv i H → g (.int (i : Int)) (wipe σ vs) H fun σ2 H2 => wipe σ2 vs = wipe σ vs ∧ tt σ2 H2 fun b H3 =>
      if b = true then te σ2 H3 fun y H4 => ∃ acc, H4 Dl = some (.lst acc) ∧ acc.length < sizeLine ∧ Pv (i + 1) (upd H4 Dl (.lst (acc ++ [y]))) else Pv (i + 1) H3) (hd : ∀ H, Pv n H → Q (.ref Dl) H) :
    LW (Itr 0 n) Dl g tt te vs σ H Q := x_lwR Pv h0 (fun i H hi p => by rw [Int.zero_add]; exact hs i H hi p) hd
theorem x_while {c : TT} {nx : St → Hp → Prop} {rt : VK} {bk ct : St → Hp → Prop} (W : Nat → St → Hp → Prop) (m0 : Nat) (h0 : W m0 σ H)
    (hs : ∀ m σ H, W m σ H → c σ H fun b H1 => if b = true then ∃ N : St → Hp → Prop, (∀ σ' H', N σ' H' → ∃ m', m' < m ∧ W m' σ' H') ∧ tb ⟨N, rt, nx, N⟩ σ H1 else nx σ H1) : tWhile c tb ⟨nx, rt, bk, ct⟩ σ H := ⟨W, ⟨m0, h0⟩, hs⟩
theorem x_wgo {nx : St → Hp → Prop} {rt : VK} {W : Nat → St → Hp → Prop} {m : Nat} (h : tb ⟨fun σ' H' => ∃ m', m' < m ∧ W m' σ' H', rt, nx, fun σ' H' => ∃ m', m' < m ∧ W m' σ' H'⟩ σ H) :
    ∃ N : St → Hp → Prop, (∀ σ' H', N σ' H' → ∃ m', m' < m ∧ W m' σ' H') ∧ tb ⟨N, rt, nx, N⟩ σ H := ⟨_, fun _ _ h => h, h⟩
theorem x_yes {Qb : Bool → Hp → Prop} (h : Qb true H) : tYes σ H Qb := h
theorem x_wipe {σ2 σ1 : St} {A : Prop} (e : σ2 = σ1) (h : A) : σ2 = σ1 ∧ A := ⟨e, h⟩
theorem x_acc {Dl : Addr} {acc : List V} {P : Hp → Prop} {y : V} (s : H Dl = some (.lst acc)) (z : acc.length < 100000) (h : P (upd H Dl (.lst (acc ++ [y])))) :
    ∃ acc, H Dl = some (.lst acc) ∧ acc.length < sizeLine ∧ P (upd H Dl (.lst (acc ++ [y]))) := ⟨acc, s, sz_lt z, h⟩
end

/-- a comprehension of two fors, its list at D; the inner walk -/
def LI (J1 : It) (D : Addr) (Nx : Hp → Prop) (g1 : TG) (tt1 : TT) (te : TE) (vs1 : List Nat) (σ2 : St) (H4 : Hp) : Prop := ∃ W1 : Nat → Nat → Hp → Prop, (∃ m, W1 0 m H4) ∧ ∀ j k H, W1 j k H →
      (J1.stop j H ∧ Nx H) ∨ (J1.go j H ∧ ∃ Nx1 : Hp → Prop, (∀ H', Nx1 H' → ∃ k', k' < k ∧ W1 (j + 1) k' H') ∧ ∀ x H', J1.yld j H x H' → g1 x (wipe σ2 vs1) H' fun σ3 H5 => wipe σ3 vs1 = wipe σ2 vs1 ∧ tt1 σ3 H5 fun b H6 =>
        if b = true then te σ3 H6 fun y H7 => ∃ acc, H7 D = some (.lst acc) ∧ acc.length < sizeLine ∧ Nx1 (upd H7 D (.lst (acc ++ [y]))) else Nx1 H6)
def LW2 (J : It) (D : Addr) (g : TG) (tt : TT) (wi1 : TI) (g1 : TG) (tt1 : TT) (te : TE) (vs vs1 : List Nat) (σ : St) (H1 : Hp) (Q : VK) : Prop := ∃ W : Nat → Nat → Hp → Prop, (∃ m, W 0 m (upd H1 D (.lst []))) ∧ ∀ i m H, W i m H →
  (J.stop i H ∧ Q (.ref D) H) ∨ (J.go i H ∧ ∃ Nx : Hp → Prop, (∀ H', Nx H' → ∃ m', m' < m ∧ W (i + 1) m' H') ∧ ∀ x H', J.yld i H x H' → g x (wipe σ vs) H' fun σ2 H2 => wipe σ2 vs = wipe σ vs ∧ tt σ2 H2 fun b H3 =>
    if b = true then wi1 σ2 H3 fun J1 H4 => LI J1 D Nx g1 tt1 te vs1 σ2 H4 else Nx H3)
theorem x_lc2 {σ : St} {H : Hp} {wi wi1 : TI} {g g1 : TG} {tt tt1 : TT} {te : TE} {vs vs1 : List Nat} {Q : VK} (h : wi σ H fun J H1 => ∀ D, H1 D = none → LW2 J D g tt wi1 g1 tt1 te vs vs1 σ H1 Q) : tLc2 wi g tt wi1 g1 tt1 te vs vs1 σ H Q := h
section
variable {K : PySem.W.Frag} {σ σ2 : St} {H1 H4 : Hp} {wi1 : TI} {g g1 : TG} {tt tt1 : TT} {te : TE} {vs vs1 : List Nat} {Q : VK} {D : Addr} {Nx : Hp → Prop}
theorem x_lw2R {lo : Int} {n : Nat} (Pv : Nat → Hp → Prop) (h0 : Pv 0 (upd H1 D (.lst [])))
    (hs : ∀ i H, i < n → Pv i H → g (.int (lo + (i : Int))) (wipe σ vs) H fun σ2 H2 => wipe σ2 vs = wipe σ vs ∧ tt σ2 H2 fun b H3 => if b = true then wi1 σ2 H3 fun J1 H4 => LI J1 D (Pv (i + 1)) g1 tt1 te vs1 σ2 H4 else Pv (i + 1) H3)
    (hd : ∀ H, Pv n H → Q (.ref D) H) : LW2 (Itr lo n) D g tt wi1 g1 tt1 te vs vs1 σ H1 Q := by
  refine ⟨fun i m H => m = n - i ∧ i ≤ n ∧ Pv i H, ⟨n, by simp, Nat.zero_le _, h0⟩, ?_⟩
  rintro i m H ⟨rfl, hi, p⟩
  by_cases hlt : i < n
  · refine .inr ⟨hlt, Pv (i + 1), fun H' p' => ⟨n - (i + 1), by omega, rfl, hlt, p'⟩, fun x H' y => ?_⟩
    obtain ⟨e, y⟩ := y
    subst e y
    exact hs i _ hlt p
  · have e : i = n := by omega
    subst e
    exact .inl ⟨Nat.le_refl _, hd _ p⟩
theorem x_lw2L {a : Addr} {xs : List V} (Pv : Nat → Hp → Prop) (h0 : Pv 0 (upd H1 D (.lst []))) (hl : ∀ i H, i ≤ xs.length → Pv i H → SqL K H a xs)
    (hs : ∀ i x H, xs[i]? = some x → Pv i H → g x (wipe σ vs) H fun σ2 H2 => wipe σ2 vs = wipe σ vs ∧ tt σ2 H2 fun b H3 => if b = true then wi1 σ2 H3 fun J1 H4 => LI J1 D (Pv (i + 1)) g1 tt1 te vs1 σ2 H4 else Pv (i + 1) H3)
    (hd : ∀ H, Pv xs.length H → Q (.ref D) H) : LW2 (Itl K a) D g tt wi1 g1 tt1 te vs vs1 σ H1 Q := by
  refine ⟨fun i m H => m = xs.length - i ∧ i ≤ xs.length ∧ Pv i H, ⟨xs.length, by simp, Nat.zero_le _, h0⟩, ?_⟩
  rintro i m H ⟨rfl, hi, p⟩
  have q := hl i H hi p
  by_cases hlt : i < xs.length
  · refine .inr ⟨⟨xs, xs[i], q, by simp [hlt]⟩, Pv (i + 1), fun H' p' => ⟨xs.length - (i + 1), by omega, rfl, hlt, p'⟩, fun x H' y => ?_⟩
    obtain ⟨e, y⟩ := y
    subst e
    exact hs i x _ (y xs q) p
  · have e : i = xs.length := by omega
    subst e
    exact .inl ⟨⟨xs, q, by omega⟩, hd _ p⟩
theorem x_liR {lo : Int} {n : Nat} (Pv : Nat → Hp → Prop) (h0 : Pv 0 H4)
    (hs : ∀ i H, i < n → Pv i H → g1 (.int (lo + (i : Int))) (wipe σ2 vs1) H fun σ3 H5 => wipe σ3 vs1 = wipe σ2 vs1 ∧ tt1 σ3 H5 fun b H6 =>
      if b = true then te σ3 H6 fun y H7 => ∃ acc, H7 D = some (.lst acc) ∧ acc.length < sizeLine ∧ Pv (i + 1) (upd H7 D (.lst (acc ++ [y]))) else Pv (i + 1) H6) (hd : ∀ H, Pv n H → Nx H) :
    LI (Itr lo n) D Nx g1 tt1 te vs1 σ2 H4 := by
  refine ⟨fun i m H => m = n - i ∧ i ≤ n ∧ Pv i H, ⟨n, by simp, Nat.zero_le _, h0⟩, ?_⟩
  rintro i m H ⟨rfl, hi, p⟩
  by_cases hlt : i < n
  · refine .inr ⟨hlt, Pv (i + 1), fun H' p' => ⟨n - (i + 1), by omega, rfl, hlt, p'⟩, fun x H' y => ?_⟩
    obtain ⟨e, y⟩ := y
    subst e y
    exact hs i _ hlt p
  · have e : i = n := by omega
    subst e
    exact .inl ⟨Nat.le_refl _, hd _ p⟩
theorem x_liL {a : Addr} {xs : List V} (Pv : Nat → Hp → Prop) (h0 : Pv 0 H4) (hl : ∀ i H, i ≤ xs.length → Pv i H → SqL K H a xs)
    (hs : ∀ i x H, xs[i]? = some x → Pv i H → g1 x (wipe σ2 vs1) H fun σ3 H5 => wipe σ3 vs1 = wipe σ2 vs1 ∧ tt1 σ3 H5 fun b H6 =>
      if b = true then te σ3 H6 fun y H7 => ∃ acc, H7 D = some (.lst acc) ∧ acc.length < sizeLine ∧ Pv (i + 1) (upd H7 D (.lst (acc ++ [y]))) else Pv (i + 1) H6) (hd : ∀ H, Pv xs.length H → Nx H) :
    LI (Itl K a) D Nx g1 tt1 te vs1 σ2 H4 := by
  refine ⟨fun i m H => m = xs.length - i ∧ i ≤ xs.length ∧ Pv i H, ⟨xs.length, by simp, Nat.zero_le _, h0⟩, ?_⟩
  rintro i m H ⟨rfl, hi, p⟩
  have q := hl i H hi p
  by_cases hlt : i < xs.length
  · refine .inr ⟨⟨xs, xs[i], q, by simp [hlt]⟩, Pv (i + 1), fun H' p' => ⟨xs.length - (i + 1), by omega, rfl, hlt, p'⟩, fun x H' y => ?_⟩
    obtain ⟨e, y⟩ := y
    subst e
    exact hs i x _ (y xs q) p
  · have e : i = xs.length := by omega
    subst e
    exact .inl ⟨⟨xs, q, by omega⟩, hd _ p⟩
theorem x_lw2R0 {n : Nat} (Pv : Nat → Hp → Prop) (h0 : Pv 0 (upd H1 D (.lst [])))
    (hs : ∀ i H, i < n → Pv i H → g (.int (i : Int)) (wipe σ vs) H fun σ2 H2 => wipe σ2 vs = wipe σ vs ∧ tt σ2 H2 fun b H3 => if b = true then wi1 σ2 H3 fun J1 H4 => LI J1 D (Pv (i + 1)) g1 tt1 te vs1 σ2 H4 else Pv (i + 1) H3)
    (hd : ∀ H, Pv n H → Q (.ref D) H) : LW2 (Itr 0 n) D g tt wi1 g1 tt1 te vs vs1 σ H1 Q := x_lw2R Pv h0 (fun i H hi p => by rw [Int.zero_add]; exact hs i H hi p) hd
theorem x_liR0 {n : Nat} (Pv : Nat → Hp → Prop) (h0 : Pv 0 H4)
    (hs : ∀ i H, i < n → Pv i H → g1 (.int (i : Int)) (wipe σ2 vs1) H fun σ3 H5 => wipe σ3 vs1 = wipe σ2 vs1 ∧ tt1 σ3 H5 fun b H6 =>
      if b = true then te σ3 H6 fun y H7 => ∃ acc, H7 D = some (.lst acc) ∧ acc.length < sizeLine ∧ Pv (i + 1) (upd H7 D (.lst (acc ++ [y]))) else Pv (i + 1) H6) (hd : ∀ H, Pv n H → Nx H) :
    LI (Itr 0 n) D Nx g1 tt1 te vs1 σ2 H4 := x_liR Pv h0 (fun i H hi p => by rw [Int.zero_add]; exact hs i H hi p) hd
end

/-! ### instances -/
structure Own (K : PySem.W.Frag) (mg : Str → Option Value) (nm : Str) (C : Addr) : Prop where
  cl : Cls K C
  mgC : mg nm = some (.ref C)
  makes : PySem.W.makesIn K C = true
  kp : PySem.W.keepIn K (.ref C) = true
section
variable {K : PySem.W.Frag} {σ : St} {H : Hp} {te ta : TE} {Q : VK}
theorem x_fld {a C dx : Addr} {fs : List (Str × V)} {f : Str} {v : V} {P : V → Prop} (h : H a = some (.ins C dx fs)) (c : Cls K C) (n : NoAttr K C f) (l : fs.lookup f = some v) (k : P v) :
    ∃ a' C' dx' fs' v', V.ref a = .ref a' ∧ H a' = some (.ins C' dx' fs') ∧ Cls K C' ∧ NoAttr K C' f ∧ fs'.lookup f = some v' ∧ P v' := ⟨a, C, dx, fs, v, rfl, h, c, n, l, k⟩
theorem x_tfld {f : Str} (h : te σ H fun x H1 => ∃ a C dx fs v, x = .ref a ∧ H1 a = some (.ins C dx fs) ∧ Cls K C ∧ NoAttr K C f ∧ fs.lookup f = some v ∧ Q v H1) : tFld K te f σ H Q := h
end
section
variable {K : PySem.W.Frag} {σ : St} {H : Hp} {tv ta : TE} {n : St → Hp → Prop} {rt : VK} {bk ct : St → Hp → Prop} {f : Str}
theorem x_sfld (h : tv σ H fun y H1 => ta σ H1 fun x H2 => ∃ a C dx fs, x = .ref a ∧ H2 a = some (.ins C dx fs) ∧ Cls K C ∧ NoAttr K C f ∧ fs.length < 1000 ∧ n σ (upd H2 a (.ins C dx (putF f y fs)))) : sFld K ta tv f ⟨n, rt, bk, ct⟩ σ H := h
theorem x_sfl {a C dx : Addr} {fs : List (Str × V)} {P : Addr → Addr → Addr → List (Str × V) → Prop} (h : H a = some (.ins C dx fs)) (c : Cls K C) (nA : NoAttr K C f) (l : fs.length < 1000) (k : P a C dx fs) :
    ∃ a' C' dx' fs', V.ref a = .ref a' ∧ H a' = some (.ins C' dx' fs') ∧ Cls K C' ∧ NoAttr K C' f ∧ fs'.length < 1000 ∧ P a' C' dx' fs' := ⟨a, C, dx, fs, rfl, h, c, nA, l, k⟩
theorem x_sortedI {p : Addr} {ns : List Int} {Q : VK} (h : H p = some (.lst (ns.map V.int))) (k : ∀ (ns' : List Int) (q : Addr), ns'.Perm ns → ns'.Pairwise (· ≤ ·) → H q = none → Q (.ref q) (upd H q (.lst (ns'.map V.int)))) : rSortedI K [.ref p] H Q :=
  ⟨p, ns, rfl, sq_l h, k⟩
theorem x_in {p : Addr} {x : V} {xs : List V} {Q : VK} (h : H p = some (.lst xs)) (fx : flatV x = true) (fs : xs.all flatV = true) (k : Q (.bl (inV x xs)) H) : rIn K false x (.ref p) H Q := ⟨p, xs, rfl, .inl (sq_l h), fx, fs, k⟩
theorem x_nin {p : Addr} {x : V} {xs : List V} {Q : VK} (h : H p = some (.lst xs)) (fx : flatV x = true) (fs : xs.all flatV = true) (k : Q (.bl (!inV x xs)) H) : rIn K true x (.ref p) H Q := ⟨p, xs, rfl, .inl (sq_l h), fx, fs, k⟩
end
theorem x_all {K : PySem.W.Frag} {H : Hp} {p : Addr} {bs : List Bool} {b : Bool} {Q : VK} (h : H p = some (.lst (bs.map V.bl))) (e : bs.all id = b) (k : Q (.bl b) H) : rAll K [.ref p] H Q := ⟨p, bs, rfl, sq_l h, by rw [e]; exact k⟩
theorem x_any {K : PySem.W.Frag} {H : Hp} {p : Addr} {bs : List Bool} {b : Bool} {Q : VK} (h : H p = some (.lst (bs.map V.bl))) (e : bs.any id = b) (k : Q (.bl b) H) : rAny K [.ref p] H Q := ⟨p, bs, rfl, sq_l h, by rw [e]; exact k⟩
/-! ### dicts of ints -/
section
variable {σ : St} {H : Hp} {ty td tv : TE} {Q : VK} {n : St → Hp → Prop} {rt : VK} {bk ct : St → Hp → Prop}
theorem x_dnew (h : ∀ p, H p = none → Q (.ref p) (upd H p (.dK []))) : tDNewK σ H Q := h
theorem x_din (h : ty σ H fun y H1 => td σ H1 fun x H2 => ∃ a o, x = .ref a ∧ DGet H2 a y o ∧ Q (.bl o.isSome) H2) : tDIn ty td σ H Q := h
theorem x_dnin (h : ty σ H fun y H1 => td σ H1 fun x H2 => ∃ a o, x = .ref a ∧ DGet H2 a y o ∧ Q (.bl (!o.isSome)) H2) : tDNotIn ty td σ H Q := h
theorem x_dput (h : tv σ H fun v H1 => td σ H1 fun x H2 => ty σ H2 fun y H3 => ∃ a H4, x = .ref a ∧ DPut H3 a y v H4 ∧ n σ H4) : sDPut td ty tv ⟨n, rt, bk, ct⟩ σ H := h
/-- the dict of the ints of S, each with the value f gives -/
def sD (S : List (Int × V)) : List (Key × V) := S.map fun p => (Sum.inl p.1, p.2)
theorem sD_val (S : List (Int × V)) (k : Int) : valV (sD S) (Sum.inl k : Key) = (S.find? fun p => decide (p.1 = k)).map (·.2) := by
  induction S with
  | nil => rfl
  | cons p r ih =>
    show valV ((Sum.inl p.1, p.2) :: sD r) (Sum.inl k) = _
    by_cases e : p.1 = k
    · rw [valV_pos (by rw [e]), List.find?_cons_of_pos (by simpa using e)]
      rfl
    · rw [valV_neg (fun z => e (Sum.inl.inj z)), List.find?_cons_of_neg (by simpa using e), ih]
theorem x_dgetI {d : Addr} {k : Int} {kvs : List (Key × V)} {P : Option V → Prop} (h : H d = some (.dK kvs)) (p : P (valV kvs (Sum.inl k : Key))) : ∃ a o, V.ref d = .ref a ∧ DGet H a (.int k) o ∧ P o := ⟨d, _, rfl, DGet.k (k := Sum.inl k) h, p⟩
theorem x_dputI {d : Addr} {k : Int} {kvs : List (Key × V)} {v : V} {P : Hp → Prop} (h : H d = some (.dK kvs)) (z : kvs.length < 100000) (p : P (upd H d (.dK (putK kvs (Sum.inl k : Key) v)))) : ∃ a H4, V.ref d = .ref a ∧ DPut H a (.int k) v H4 ∧ P H4 :=
  ⟨d, _, rfl, DPut.k (k := Sum.inl k) h (sz_lt z), p⟩
end
/-- a method -/
structure MetAt (K : PySem.W.Frag) (C : Addr) (m qual : Str) (st : Stmt) (ps : List Str) : Prop where
  ex : ∃ (f : Addr) (fd : FuncData), Fun K m qual st f fd ∧ PySem.W.findIn K (.ref C) m = some (some (.ref f)) ∧ PySem.W.isFn K (.ref f) = true ∧ Binds K fd ps []
structure Met (P : Program) (w : World) (K : PySem.W.Frag) (mg : Str → Option Value) (base : Heap) (CX : CXT) (k : Nat) (C : Addr) (m : Str) (sp : Sp) : Prop where
  ex : ∃ (f : Addr) (fd : FuncData) (ps : List Str), FnOk P w K mg base CX k f fd ps sp ∧ PySem.W.findIn K (.ref C) m = some (some (.ref f)) ∧ PySem.W.isFn K (.ref f) = true ∧ PySem.W.keepIn K (.ref f) = true ∧ Binds K fd ps []
/-- a property's getter -/
structure PrpAt (K : PySem.W.Frag) (C : Addr) (m qual : Str) (st : Stmt) : Prop where
  ex : ∃ (p f : Addr) (fd : FuncData), Fun K m qual st f fd ∧ PropOf K C m p f ∧ Binds K fd ["self"] []
structure Prp (P : Program) (w : World) (K : PySem.W.Frag) (mg : Str → Option Value) (base : Heap) (CX : CXT) (k : Nat) (C : Addr) (m : Str) (sp : Sp) : Prop where
  ex : ∃ (p f : Addr) (fd : FuncData) (ps : List Str), FnOk P w K mg base CX k f fd ps sp ∧ PropOf K C m p f ∧ Binds K fd ps []
section
variable {P : Program} {w : World} {K : PySem.W.Frag} {mg : Str → Option Value} {base : Heap}
/-- a def under its name -/
structure DefAt (K : PySem.W.Frag) (mg : Str → Option Value) (x : Str) (st : Stmt) (ps : List Str) : Prop where
  ex : ∃ (f : Addr) (fd : FuncData), Fun K x x st f fd ∧ mg x = some (.ref f) ∧ Binds K fd ps []
abbrev Bdy (P : Program) (w : World) (K : PySem.W.Frag) (mg : Str → Option Value) (base : Heap) (N : List Str) (qual : Str) (st : Stmt) (k : Nat) (sp : Sp) : Prop :=
  ∀ (f : Addr) (cdv : Value) (A : Around) (outer : List Env) (s : Shared) (H : Hp) (vs : List V) (Q : VK) (E : XK), Room k (A.deeper (envOfC qual (defScope st) s.heap.objs.size f cdv)) → sp vs H Q E →
      ∃ t, PSs (cxOf CX0 P w K mg base N qual (defScope st) f cdv A outer s H E).nox (defBody st) t ∧ t { nx := fun _ H' => Q .non H', rt := Q } (start N vs) H
/-- its promise, by its body; nothing leaves it but by return -/
theorem DefAt.cal {x : Str} {st : Stmt} {N ps : List Str} {k : Nat} {sp : Sp} (F : DefAt K mg x st ps) (S : FnScope N ps (defScope st)) (len : ∀ vs H Q E, sp vs H Q E → vs.length = ps.length)
    (hbody : Bdy P w K mg base N x st k sp) : Cal P w K mg base CX0 (k + 1) x sp := by
  obtain ⟨f, fd, F, m, b⟩ := F.ex
  exact ⟨f, fd, ps, F.ok S len (fun cdv A outer s H vs Q E hr h => hbody f cdv A outer s H vs Q E hr h), m, F.kp, b⟩
theorem MetAt.met {C : Addr} {m qual : Str} {st : Stmt} {N ps : List Str} {k : Nat} {sp : Sp} (F : MetAt K C m qual st ps) (S : FnScope N ps (defScope st)) (len : ∀ vs H Q E, sp vs H Q E → vs.length = ps.length)
    (hbody : Bdy P w K mg base N qual st k sp) : Met P w K mg base CX0 (k + 1) C m sp := by
  obtain ⟨f, fd, F, m1, m2, b⟩ := F.ex
  exact ⟨f, fd, ps, F.ok S len (fun cdv A outer s H vs Q E hr h => hbody f cdv A outer s H vs Q E hr h), m1, m2, F.kp, b⟩
theorem PrpAt.prp {C : Addr} {m qual : Str} {st : Stmt} {N : List Str} {k : Nat} {sp : Sp} (F : PrpAt K C m qual st) (S : FnScope N ["self"] (defScope st)) (len : ∀ vs H Q E, sp vs H Q E → vs.length = 1)
    (hbody : Bdy P w K mg base N qual st k sp) : Prp P w K mg base CX0 (k + 1) C m sp := by
  obtain ⟨p, f, fd, F, m1, b⟩ := F.ex
  exact ⟨p, f, fd, ["self"], F.ok S len (fun cdv A outer s H vs Q E hr h => hbody f cdv A outer s H vs Q E hr h), m1, b⟩
end
section
variable {X : Cx} {CX : CXT} {k j : Nat} {C : Addr} {m : Str} {sp : Sp} {E : XK} {o e : Expr} {es : List Expr} {pos apos : Pos} {ta : TE} {t : TA}
theorem pe_prp (p : Prp X.prog X.w X.K X.mg X.base CX k C m sp) (c : Cls X.K C) (hr : Room j X.A) (hk : k + 1 ≤ j) (hx : Passes CX X.nox E) (he : PE X e ta) (hab : attributeBase e m X.env (eval e X.env) = eval e X.env) : PE X (.Attribute e m pos) (tProp C sp [] E ta) := by
  obtain ⟨p, f, fd, ps, F, m1, b⟩ := p.ex
  exact pe_prop he c m1 F (hr.mono hk) b .nil hx hab
theorem pe_mak {x : Str} {p : Pos} (M : Met X.prog X.w X.K X.mg X.base CX k C "__init__" sp) (O : Own X.K X.mg x C) (hr : Room j X.A) (hk : k + 1 ≤ j) (hg : Gl X x) (hx : Passes CX X E) (ha : PA X (e :: es) t)
    (hdb : (x == ("__debug__" : Str)) = false := by decide) (he : starEach (e :: es) X.env = (false, eval e X.env) :: starEach es X.env := by rfl) (hpl : (backTo pos (starEach es X.env)).any (·.1) = false := by rfl) :
    PE X (.Call (.Name x p) (e :: es) [] pos) (tMake C sp [] E t) := by
  obtain ⟨f, fd, ps, F, m1, m2, m3, b⟩ := M.ex
  exact pe_make ⟨O.makes, m1, m2, O.kp⟩ F (hr.mono hk) hg O.mgC b .nil hx ha hdb he hpl
/-- len of an instance by its own __len__ -/
def rLenO (C : Addr) (sp : Sp) (E : XK) : List V → Hp → VK → Prop := fun xs H Q => ∃ a dx fs, xs = [.ref a] ∧ H a = some (.ins C dx fs) ∧ sp [.ref a] H (fun v H' => ∃ n : Int, v = .int n ∧ 0 ≤ n ∧ n < 2 ^ 63 ∧ Q (.int n) H') E
theorem call_lenO (M : Met X.prog X.w X.K X.mg X.base CX k C "__len__" sp) (hr : Room j X.A) (hk : k + 1 ≤ j) (hx : Passes CX X E) : CallR X (.builtin "len") (rLenO C sp E) := by
  intro pins s σ H xs us Q I r h
  obtain ⟨a, dx, fs, rfl, ha, hsp⟩ := h
  obtain ⟨u, rfl, ru⟩ := vals1 r
  obtain rfl : u = Value.ref a := ru
  obtain ⟨f, fd, ps, F, m1, m2, m3, b⟩ := M.ex
  obtain ⟨mA, J, _⟩ := ins_get I.hok ha
  obtain ⟨od, J, _⟩ := J.look
  obtain ⟨mm, hF⟩ := I.fr
  refine PySem.W.len_K hF I.ok.mod.kin J m1 m2 ?_
  have hl := F.len _ _ _ _ hsp
  have r2 : Vals [V.ref a] [Value.ref a] := .cons rfl .nil
  refine wpAny_call (codeAny_mono (F.run X.A.in1 X.stack s H ⟨[.ref a], []⟩ [.ref a] [.ref a] _ E (hr.mono hk).in1 I.env0.in1 (by
    have := b s [.ref a] I.kIn (by simpa using hl)
    simpa using this) r2 hsp) fun r s' hq => ?_)
  cases r with
  | error e => exact hx pins σ H s e s' I hq
  | ok fl =>
    cases fl with
    | ret w =>
      obtain ⟨z, H', I', rz, n, rfl, n0, n1, q⟩ := I.after hq
      obtain ⟨t', rfl⟩ := rz
      exact ⟨⟨n0, n1⟩, ⟨.int n, H', I'.tok _, ⟨_, rfl⟩, q⟩⟩
    | next => exact False.elim hq
    | brk => exact False.elim hq
    | cont => exact False.elim hq
end

/-! ### kinds of values -/
def kinds : List String := ["NoneType", "bool", "int", "str", "list", "tuple", "dict"]
/-- x is a value of the built-in kind T -/
structure Knd (K : PySem.W.Frag) (H : Hp) (x : V) (T : String) : Prop where
  ty : TyX K H x (.type T)
  mem : T ∈ kinds
theorem knd_int {K : PySem.W.Frag} {H : Hp} (i : Int) : Knd K H (.int i) "int" := ⟨.base (.int i), by decide⟩
theorem knd_bl {K : PySem.W.Frag} {H : Hp} (i : Bool) : Knd K H (.bl i) "bool" := ⟨.base (.bl i), by decide⟩
theorem knd_non {K : PySem.W.Frag} {H : Hp} : Knd K H .non "NoneType" := ⟨.base .non, by decide⟩
theorem knd_str {K : PySem.W.Frag} {H : Hp} (z : Str) : Knd K H (.str z) "str" := ⟨.base (.str z), by decide⟩
theorem knd_lst {K : PySem.W.Frag} {H : Hp} {a : Addr} {xs : List V} (h : H a = some (.lst xs)) : Knd K H (.ref a) "list" := ⟨.base (.lst h), by decide⟩
theorem knd_tup {K : PySem.W.Frag} {H : Hp} {a : Addr} {xs : List V} (h : H a = some (.tup xs)) : Knd K H (.ref a) "tuple" := ⟨.base (.tup h), by decide⟩
theorem knd_dK {K : PySem.W.Frag} {H : Hp} {a : Addr} {xs : List (Key × V)} (h : H a = some (.dK xs)) : Knd K H (.ref a) "dict" := ⟨.base (.dK h), by decide⟩
theorem kit_int {T : String} (h : T ∈ kinds) : kitB T "int" = some (T == "int" || T == "bool") := by
  simp only [kinds, List.mem_cons, List.not_mem_nil, or_false] at h
  rcases h with rfl | rfl | rfl | rfl | rfl | rfl | rfl <;> decide +kernel
theorem kit_bool {T : String} (h : T ∈ kinds) : kitB T "bool" = some (T == "bool") := by
  simp only [kinds, List.mem_cons, List.not_mem_nil, or_false] at h
  rcases h with rfl | rfl | rfl | rfl | rfl | rfl | rfl <;> decide +kernel
theorem kit_list {T : String} (h : T ∈ kinds) : kitB T "list" = some (T == "list") := by
  simp only [kinds, List.mem_cons, List.not_mem_nil, or_false] at h
  rcases h with rfl | rfl | rfl | rfl | rfl | rfl | rfl <;> decide +kernel
theorem kit_tuple {T : String} (h : T ∈ kinds) : kitB T "tuple" = some (T == "tuple") := by
  simp only [kinds, List.mem_cons, List.not_mem_nil, or_false] at h
  rcases h with rfl | rfl | rfl | rfl | rfl | rfl | rfl <;> decide +kernel
section
variable {K : PySem.W.Frag} {H : Hp} {Q : VK} {x : V} {T : String}
theorem y_isInt {b : Bool} (k : Knd K H x T) (e : (T == "int" || T == "bool") = b) (h : Q (.bl b) H) : rIsi K [x, .ty "int"] H Q := x_isi (.ty _) k.ty (kit_ty (e ▸ kit_int k.mem)) h
theorem x_isInt (k : Knd K H x T) (h : Q (.bl (T == "int" || T == "bool")) H) : rIsi K [x, .ty "int"] H Q := x_isi (.ty _) k.ty (kit_ty (kit_int k.mem)) h
theorem y_isBool {b : Bool} (k : Knd K H x T) (e : (T == "bool") = b) (h : Q (.bl b) H) : rIsi K [x, .ty "bool"] H Q := x_isi (.ty _) k.ty (kit_ty (e ▸ kit_bool k.mem)) h
theorem x_isBool (k : Knd K H x T) (h : Q (.bl (T == "bool")) H) : rIsi K [x, .ty "bool"] H Q := x_isi (.ty _) k.ty (kit_ty (kit_bool k.mem)) h
theorem y_isList {b : Bool} (k : Knd K H x T) (e : (T == "list") = b) (h : Q (.bl b) H) : rIsi K [x, .ty "list"] H Q := x_isi (.ty _) k.ty (kit_ty (e ▸ kit_list k.mem)) h
theorem x_isList (k : Knd K H x T) (h : Q (.bl (T == "list")) H) : rIsi K [x, .ty "list"] H Q := x_isi (.ty _) k.ty (kit_ty (kit_list k.mem)) h
theorem y_isTuple {b : Bool} (k : Knd K H x T) (e : (T == "tuple") = b) (h : Q (.bl b) H) : rIsi K [x, .ty "tuple"] H Q := x_isi (.ty _) k.ty (kit_ty (e ▸ kit_tuple k.mem)) h
theorem x_isTuple (k : Knd K H x T) (h : Q (.bl (T == "tuple")) H) : rIsi K [x, .ty "tuple"] H Q := x_isi (.ty _) k.ty (kit_ty (kit_tuple k.mem)) h
end

/-! ### what the top has written -/
section
variable {K : PySem.W.Frag} {h : Heap} {mg : Str → Option Value}
theorem defAt_mk {x : Str} {st : Stmt} {ps : List Str} {f : Addr} {oc : Value} {od an : Option Addr} {osl : Array (Option Value)} {kV doc pm cdv ct : Value} (X : K.In h) (G : h.Ns mainGlobals mg)
    (a : PySem.W.nsIn K mainGlobals x = some (some (.ref f))) (l : K.lookup f = some ⟨oc, od, .func (PySem.W.fnOf x x (defArgs st) (defBody st) (defScope st) .none kV doc pm an cdv ct), osl⟩) (c : PySem.W.codeIn K cdv x = true) (k : PySem.W.keepIn K (.ref f) = true)
    (b : ∀ (kV doc pm : Value) (an : Option Addr) (cdv ct : Value) (us : List Value), us.length = ps.length → bindArgs (PySem.W.fnOf x x (defArgs st) (defBody st) (defScope st) .none kV doc pm an cdv ct) ⟨us, []⟩ = pure (ps.zip us)) : DefAt K mg x st ps :=
  ⟨f, _, fun_mk l c k, PySem.W.mg_of X G a, (fun_mk l c k).binds b⟩
theorem metAt_mk {m qual : Str} {st : Stmt} {ps : List Str} {f C : Addr} {oc : Value} {od an : Option Addr} {osl : Array (Option Value)} {kV doc pm cdv ct : Value}
    (a : PySem.W.findIn K (.ref C) m = some (some (.ref f))) (i : PySem.W.isFn K (.ref f) = true) (l : K.lookup f = some ⟨oc, od, .func (PySem.W.fnOf m qual (defArgs st) (defBody st) (defScope st) .none kV doc pm an cdv ct), osl⟩) (c : PySem.W.codeIn K cdv qual = true) (k : PySem.W.keepIn K (.ref f) = true)
    (b : ∀ (kV doc pm : Value) (an : Option Addr) (cdv ct : Value) (us : List Value), us.length = ps.length → bindArgs (PySem.W.fnOf m qual (defArgs st) (defBody st) (defScope st) .none kV doc pm an cdv ct) ⟨us, []⟩ = pure (ps.zip us)) : MetAt K C m qual st ps :=
  ⟨f, _, fun_mk l c k, a, i, (fun_mk l c k).binds b⟩
theorem prpAt_mk {m qual : Str} {st : Stmt} {p f C : Addr} {oc : Value} {od an : Option Addr} {osl : Array (Option Value)} {kV doc pm cdv ct : Value} {rest : List Value}
    (a : PySem.W.findIn K (.ref C) m = some (some (.ref p))) (g : PySem.W.specialIn K (.ref p) "__get__" = some (some (.builtin "property.__get__"))) (t : PySem.W.takesIn K (.ref p) = some true) (r : PySem.W.recIn K p "property" = some (.ref f :: rest))
    (l : K.lookup f = some ⟨oc, od, .func (PySem.W.fnOf m qual (defArgs st) (defBody st) (defScope st) .none kV doc pm an cdv ct), osl⟩) (c : PySem.W.codeIn K cdv qual = true) (k : PySem.W.keepIn K (.ref f) = true)
    (b : ∀ (kV doc pm : Value) (an : Option Addr) (cdv ct : Value) (us : List Value), us.length = (["self"] : List Str).length → bindArgs (PySem.W.fnOf m qual (defArgs st) (defBody st) (defScope st) .none kV doc pm an cdv ct) ⟨us, []⟩ = pure ((["self"] : List Str).zip us)) : PrpAt K C m qual st :=
  ⟨p, f, _, fun_mk l c k, ⟨a, g, t, _, r⟩, (fun_mk l c k).binds b⟩
theorem own_mk {nm : Str} {C : Addr} (X : K.In h) (G : h.Ns mainGlobals mg) (a : PySem.W.nsIn K mainGlobals nm = some (some (.ref C))) (pg : PySem.W.plainGet K C Str.empty = true) (hd : PySem.W.hasDictIn K C = true) (po : PySem.W.plainOver K C = true)
    (sa : PySem.W.findIn K (.ref C) "__setattr__" = some (some (.builtin "object.__setattr__"))) (mk : PySem.W.makesIn K C = true) (kp : PySem.W.keepIn K (.ref C) = true) : Own K mg nm C := ⟨⟨pg, hd, po, sa⟩, PySem.W.mg_of X G a, mk, kp⟩
end
def spLaw (K : PySem.W.Frag) : Sp := fun vs H Q _ => ∃ (a : Addr) (ns : List Int), vs = [.ref a] ∧ SqL K H a (ns.map V.int) ∧ ns.length ≤ 63 ∧ ∀ H', Q (.bl true) H'
theorem same_keep {H H1 H2 : Hp} {p : Addr} (s : Same H H1) (k : Keep p H1 H2) (p0 : H p = none) : Same H H2 := fun a o h => k a o (s a o h) (ne_of_none h p0)
end OC

namespace OC
open PySem PySem.Spec PyProof.Rows L2
/-! ### the steps -/
local macro_rules | `(tactic| walk_at "look") => `(tactic| first
  | assumption
  | exact upd_same
  | (refine new_at (by assumption) ?_; walk_at "look")
  | (refine upd_at (by walk_at "ne") ?_; walk_at "look")
  | (refine Keep.at (by assumption) ?_ (by walk_at "ne"); walk_at "look")
  | (refine sat (by assumption) ?_; walk_at "look"))
local macro_rules | `(tactic| walk_at "knd") => `(tactic| first
  | exact knd_int _
  | exact knd_lst (by walk_at "look")
  | exact knd_tup (by walk_at "look")
  | exact knd_bl _
  | exact knd_non
  | exact knd_str _
  | exact knd_dK (by walk_at "look"))
local macro_rules | `(tactic| walk_at "ne") => `(tactic| first
  | assumption
  | exact Ne.symm (by assumption))
local macro_rules | `(tactic| walk_at "ar") => `(tactic| first
  | omega
  | assumption
  | (simp only [List.length_cons, List.length_nil, List.length_append, List.length_map]; omega)
  | rfl
  | decide)
local macro_rules | `(tactic| walk_at "s1") => `(tactic| first
  | with_reducible refine x_seq ?_
  | ((with_reducible refine' x_var ?k0 ?_); (case k0 => with_unfolding_all rfl))
  | with_reducible refine x_c ?_
  | with_reducible refine x_op ?_
  | with_reducible refine x_I0 ?_
  | with_reducible refine x_asg ?_
  | ((with_reducible refine' x_name ?k0 ?_); (case k0 => with_unfolding_all rfl))
  | with_reducible refine x_next ?_
  | with_reducible refine x_ret ?_
  | with_reducible refine x_drop ?_
  | with_reducible refine x_ifs ?_
  | with_reducible refine x_test ?_
  | with_reducible refine x_B ?_
  | with_reducible refine x_bl ?_
  | with_reducible refine x_cons ?_
  | with_reducible refine x_nil ?_
  | with_reducible refine x_cb ?_
  | with_reducible refine x_call ?_
  | with_reducible refine x_tup ?_
  | with_reducible refine x_lst ?_
  | with_reducible refine x_bm ?_
  | with_reducible refine x_bm0 ?_
  | with_reducible refine x_un ?_
  | with_reducible refine x_U ?_
  | with_reducible refine x_not ?_
  | with_reducible refine x_and ?_
  | with_reducible refine x_or ?_
  | with_reducible refine x_andV ?_
  | with_reducible refine x_orV ?_
  | with_reducible refine x_notV ?_
  | with_reducible refine x_if ?_
  | with_reducible refine x_sub ?_
  | with_reducible refine x_gCons ?_
  | with_reducible refine x_gNil ?_
  | with_reducible refine x_retN ?_
  | with_reducible refine x_break ?_
  | with_reducible refine x_cont ?_
  | with_reducible refine x_T ?_
  | with_reducible refine x_nT ?_
  | with_reducible refine x_nF ?_
  | with_reducible refine x_meth0 ?_
  | with_reducible refine x_meth ?_
  | with_reducible refine x_prop ?_
  | with_reducible refine x_F ?_
  | with_reducible refine x_int_i ?_
  | with_reducible refine x_int_b ?_
  | with_reducible refine x_max2 ?_
  | with_reducible refine x_min2 ?_
  | with_reducible refine x_for ?_
  | with_reducible refine x_lc ?_
  | with_reducible refine x_lc2 ?_
  | with_reducible refine x_rg1 ?_
  | with_reducible refine x_rg2 ?_
  | with_reducible refine x_il ?_
  | with_reducible refine x_yes ?_
  | with_reducible refine x_tfld ?_
  | with_reducible refine x_din ?_
  | with_reducible refine x_dnin ?_
  | with_reducible refine x_dput ?_
  | with_reducible refine x_lstRg ?_
  | with_reducible refine x_tRg1 ?_
  | with_reducible refine x_rgN ?_
  | with_reducible refine x_sfld ?_
  | with_reducible refine x_make ?_
  | with_reducible refine x_eqI ?_
  | with_reducible refine x_neI ?_)
local macro_rules | `(tactic| walk_at "s2") => `(tactic| first
  | ((with_reducible refine' x_ixL ?k0 ?k1 ?_); (case k0 => walk_at "look"); (case k1 => first | assumption | with_unfolding_all rfl))
  | ((with_reducible refine' x_ixT ?k0 ?k1 ?_); (case k0 => walk_at "look"); (case k1 => first | assumption | with_unfolding_all rfl))
  | ((with_reducible refine' x_mod ?k0 ?_); (case k0 => walk_at "ar"))
  | ((with_reducible refine' x_div ?k0 ?k1 ?_); (case k0 => walk_at "ar"); (case k1 => walk_at "ar"))
  | ((with_reducible refine' x_mull ?k0 ?k1 ?_); (case k0 => omega); (case k1 => omega))
  | ((with_reducible refine' x_mulr ?k0 ?k1 ?_); (case k0 => omega); (case k1 => omega))
  | ((with_reducible refine' x_pow ?k0 ?k1 ?k2 ?_); (case k0 => decide); (case k1 => decide); (case k2 => decide))
  | ((with_reducible refine' x_divW ?k0 ?k1 ?_); (case k0 => decide); (case k1 => decide))
  | ((with_reducible refine' x_tyL ?k0 ?_); (case k0 => walk_at "look"))
  | ((with_reducible refine' x_append ?k0 ?k1 ?_); (case k0 => walk_at "look"); (case k1 => exact sz_lt (by walk_at "ar")))
  | ((with_reducible refine' x_setL ?k0 ?k1 ?k2 ?_); (case k0 => walk_at "look"); (case k1 => walk_at "ar"); (case k2 => walk_at "ar"))
  | ((with_reducible refine' x_gTup ?k0 ?k1 ?_); (case k0 => walk_at "look"); (case k1 => with_unfolding_all rfl))
  | ((with_reducible refine' x_it ?k0 ?_); (case k0 => walk_at "ar"))
  | ((with_reducible refine' x_if0 ?k0 ?_); (case k0 => walk_at "ar"))
  | ((with_reducible refine' x_itn0 ?k0 ?_); (case k0 => walk_at "ar"))
  | ((with_reducible refine' x_itn1 ?k0 ?_); (case k0 => walk_at "ar"))
  | ((with_reducible refine' x_r1 ?k0 ?k1 ?_); (case k0 => walk_at "ar"); (case k1 => walk_at "ar"))
  | ((with_reducible refine' x_r2 ?k0 ?k1 ?k2 ?k3 ?_); (case k0 => walk_at "ar"); (case k1 => walk_at "ar"); (case k2 => walk_at "ar"); (case k3 => walk_at "ar"))
  | ((with_reducible refine' x_rgOk ?k0 ?k1 ?_); (case k0 => walk_at "ar"); (case k1 => walk_at "ar"))
  | ((with_reducible refine' x_ill ?k0 ?_); (case k0 => walk_at "look"))
  | ((with_reducible refine' x_wipe ?k0 ?_); (case k0 => with_unfolding_all rfl))
  | ((with_reducible refine' x_fld ?k0 ?k1 ?k2 ?k3 ?_); (case k0 => walk_at "look"); (case k1 => assumption); (case k2 => assumption); (case k3 => assumption))
  | ((with_reducible refine' y_isInt (b := true) ?k0 ?k1 ?_); (case k0 => walk_at "knd"); (case k1 => decide))
  | ((with_reducible refine' y_isInt (b := false) ?k0 ?k1 ?_); (case k0 => walk_at "knd"); (case k1 => decide))
  | ((with_reducible refine' y_isBool (b := true) ?k0 ?k1 ?_); (case k0 => walk_at "knd"); (case k1 => decide))
  | ((with_reducible refine' y_isBool (b := false) ?k0 ?k1 ?_); (case k0 => walk_at "knd"); (case k1 => decide))
  | ((with_reducible refine' y_isList (b := true) ?k0 ?k1 ?_); (case k0 => walk_at "knd"); (case k1 => decide))
  | ((with_reducible refine' y_isList (b := false) ?k0 ?k1 ?_); (case k0 => walk_at "knd"); (case k1 => decide))
  | ((with_reducible refine' y_isTuple (b := true) ?k0 ?k1 ?_); (case k0 => walk_at "knd"); (case k1 => decide))
  | ((with_reducible refine' y_isTuple (b := false) ?k0 ?k1 ?_); (case k0 => walk_at "knd"); (case k1 => decide))
  | ((with_reducible refine' x_inp ?k0 ?_); (case k0 => walk_at "look"))
  | ((with_reducible refine' x_len ?k0 ?_); (case k0 => walk_at "look"))
  | ((with_reducible refine' x_lenT ?k0 ?_); (case k0 => walk_at "look"))
  | ((with_reducible refine' x_rev ?k0 ?_); (case k0 => walk_at "look")))
local macro_rules | `(tactic| walk_at "go") => `(tactic| repeat (first | walk_at "s1" | walk_at "s2"))
def topS (i : Nat) : Stmt := PySem.Challenge.pw_ownhues_k09_right_lists_checked.main.body.getD i (.Pass ⟨0, 0, 0, 0⟩)
/-- what the top has left alone -/
structure Tx (mg : Str → Option Value) : Prop where
  z_all : mg "all" = none
  z_bool : mg "bool" = none
  z_int : mg "int" = none
  z_isinstance : mg "isinstance" = none
  z_len : mg "len" = none
  z_list : mg "list" = none
  z_max : mg "max" = none
  z_min : mg "min" = none
  z_property : mg "property" = none
  z_range : mg "range" = none
  z_sorted : mg "sorted" = none
  z_tuple : mg "tuple" = none
  z_zip : mg "zip" = none
/-! ### the urn: three numbers that drawing changes -/
def UrnZ (H : Hp) (u : Addr) (n : Nat) : Prop := ∃ x y z : Int, H u = some (.lst [.int x, .int y, .int z]) ∧ 0 ≤ x ∧ 0 ≤ y ∧ y < 2 ^ 104 ∧ 0 ≤ z ∧ z + n ≤ 2 ^ 40
theorem UrnZ.mono {H : Hp} {u : Addr} {m n : Nat} (h : UrnZ H u n) (q : m ≤ n) : UrnZ H u m := by
  obtain ⟨x, y, z, h1, h2, h3, h4, h5, h6⟩ := h
  exact ⟨x, y, z, h1, h2, h3, h4, h5, by omega⟩
def spPick : Sp := fun vs H Q _ => ∃ u m n, vs = [.ref u, .int m] ∧ 0 < m ∧ m < 2 ^ 30 ∧ UrnZ H u (n + 1) ∧ ∀ r H', 0 ≤ r → r < m → Keep u H H' → UrnZ H' u n → Q (.int r) H'
theorem x_pick {H : Hp} {Q : VK} {E : XK} {u : Addr} {m : Int} (n : Nat) (m0 : 0 < m) (m1 : m < 2 ^ 30) (hu : UrnZ H u (n + 1)) (h : ∀ r H', 0 ≤ r → r < m → Keep u H H' → UrnZ H' u n → Q (.int r) H') : spPick [.ref u, .int m] H Q E := ⟨u, m, n, rfl, m0, m1, hu, h⟩
theorem UrnZ.keep {H H' : Hp} {u p : Addr} {n : Nat} (h : UrnZ H u n) (k : Keep p H H') (ne : u ≠ p) : UrnZ H' u n := by
  obtain ⟨x, y, z, h1, h2⟩ := h
  exact ⟨x, y, z, k _ _ h1 ne, h2⟩
theorem UrnZ.same {H H' : Hp} {u : Addr} {n : Nat} (h : UrnZ H u n) (k : Same H H') : UrnZ H' u n := by
  obtain ⟨x, y, z, h1, h2⟩ := h
  exact ⟨x, y, z, k _ _ h1, h2⟩
theorem UrnZ.upd {H : Hp} {u p : Addr} {n : Nat} {o : HO} (h : UrnZ H u n) (ne : u ≠ p) : UrnZ (upd H p o) u n := by
  obtain ⟨x, y, z, h1, h2⟩ := h
  exact ⟨x, y, z, upd_at ne h1, h2⟩
theorem UrnZ.ne {H : Hp} {u p : Addr} {n : Nat} (h : UrnZ H u n) (hp : H p = none) : u ≠ p := by
  obtain ⟨x, y, z, h1, h2⟩ := h
  exact ne_of_none h1 hp
theorem UrnZ.some {H : Hp} {u : Addr} {n : Nat} (h : UrnZ H u n) : ∃ xs, H u = some (.lst xs) := by
  obtain ⟨x, y, z, h1, h2⟩ := h
  exact ⟨_, h1⟩
theorem Keep.free {H H' : Hp} {u p : Addr} {n : Nat} (k : Keep u H H') (h : UrnZ H' u n) (hp : H' p = none) : H p = none := by
  cases e : H p with
  | none => rfl
  | some o =>
    by_cases q : p = u
    · subst q
      obtain ⟨_, _, _, h1, _⟩ := h
      rw [hp] at h1
      cases h1
    · have := k _ _ e q
      rw [hp] at this
      cases this
theorem erase_perm {α : Type} : ∀ {l : List α} {j : Nat} {y : α}, l[j]? = some y → (y :: l.eraseIdx j).Perm l
  | [], _, _, h => by simp at h
  | a :: r, 0, y, h => by
    have e : a = y := Option.some.inj h
    subst e
    exact List.Perm.refl _
  | a :: r, j + 1, y, h => by
    have ih := erase_perm (l := r) (j := j) (y := y) h
    exact (List.Perm.swap a y (r.eraseIdx j)).trans (ih.cons a)
theorem perm_erase {fs ls xs : List V} {j : Nat} {y : V} (h : (fs ++ ls).Perm xs) (e : ls[j]? = some y) : (fs ++ [y] ++ ls.eraseIdx j).Perm xs := by
  refine List.Perm.trans ?_ h
  rw [List.append_assoc]
  exact List.Perm.append_left fs (erase_perm e)
abbrev s_l_pick : Stmt := topS 16
theorem sc_l_pick : FnScope ["urn", "many", "found", "turn", "mixed"] ["urn", "many"] (defScope s_l_pick) := ⟨rfl, rfl, rfl, by decide +kernel, rfl, by decide +kernel, by decide +kernel⟩
section
variable {P : Program} {w : World} {K : PySem.W.Frag} {mg : Str → Option Value} {base : Heap}
theorem c_pick (T : Tx mg) (F : DefAt K mg "_law_pick" s_l_pick ["urn", "many"]) : Cal P w K mg base CX0 1 "_law_pick" spPick := by
  refine F.cal sc_l_pick (fun vs H Q E h => ?_) (fun f cdv A outer s H vs Q E hr h => ?_)
  · obtain ⟨u, m, n, rfl, _⟩ := h
    rfl
  · obtain ⟨u, m, n, rfl, m0, m1, ⟨x, y, z, hu, x0, y0, y1, z0, z1⟩, k⟩ := h
    refine ⟨_, (pss_cons (ps_if (pt_cmpR op_gt (pe_ix (ix_l K) (pv 0) pe_int (fun _ _ => rfl)) pe_int (nomark _))
        (pss_cons (ps_set (i := 2) sc_l_pick.nd rfl (Or.inl rfl) (pe_op op_mod (pe_callTy cl_int (by rfl) T.z_int (by decide +kernel) (pa_cons (pe_ix (ix_l K) (pv 0) pe_int (fun _ _ => rfl)) pa_nil)) (pv 1)))
      (pss_cons (ps_asg (pe_op op_fdiv (pe_ix (ix_l K) (pv 0) pe_int (fun _ _ => rfl)) (pv 1)) (pg_sub (pv 0) pe_int set_list))
      (pss_one (ps_ret (pv 2))))) pss_nil)
      (pss_cons (ps_asg (pe_op op_add (pe_ix (ix_l K) (pv 0) pe_int (fun _ _ => rfl)) pe_int) (pg_sub (pv 0) pe_int set_list))
      (pss_cons (ps_set (i := 3) sc_l_pick.nd rfl (Or.inl rfl) (pe_ix (ix_l K) (pv 0) pe_int (fun _ _ => rfl)))
      (pss_cons (ps_set (i := 4) sc_l_pick.nd rfl (Or.inl rfl) (pe_op op_mod (pe_callTy cl_int (by rfl) T.z_int (by decide +kernel) (pa_cons (pe_op op_add (pe_op op_add (pe_ix (ix_l K) (pv 0) pe_int (fun _ _ => rfl)) (pe_op op_mul (pv 3) pe_int)) (pe_op op_mul (pe_op op_mul (pv 3) (pv 3)) pe_int)) pa_nil)) pe_int))
      (pss_cons (ps_set (i := 4) sc_l_pick.nd rfl (Or.inl rfl) (pe_op op_mod (pe_callTy cl_int (by rfl) T.z_int (by decide +kernel) (pa_cons (pe_op op_add (pe_op op_add (pe_op op_mul (pv 4) (pv 4)) (pe_op op_fdivW (pe_ix (ix_l K) (pv 0) pe_int (fun _ _ => rfl)) pe_int)) (pe_op op_mul pe_int (pv 3))) pa_nil)) pe_int))
      (pss_cons (ps_set (i := 4) sc_l_pick.nd rfl (Or.inl rfl) (pe_op op_mod (pe_callTy cl_int (by rfl) T.z_int (by decide +kernel) (pa_cons (pe_op op_add (pe_op op_mul (pe_op op_mul (pv 4) (pv 4)) pe_int) (pv 4)) pa_nil)) (pe_ix (ix_l K) (pe_lst (pa_cons pe_int (pa_cons pe_int (pa_cons pe_int (pa_cons pe_int pa_nil))))) (pe_op op_mod (pe_callTy cl_int (by rfl) T.z_int (by decide +kernel) (pa_cons (pv 3) pa_nil)) pe_int) (fun _ _ => rfl))))
      (pss_one (ps_ret (pe_op op_mod (pe_callTy cl_int (by rfl) T.z_int (by decide +kernel) (pa_cons (pe_op op_fdiv (pv 4) pe_int) pa_nil)) (pv 1)))))))))), ?_⟩
    walk_at "go"
    refine x_ite (fun c => ?_) (fun c => ?_)
    · walk_at "go"
      exact k _ _ (Int.emod_nonneg _ (by omega)) (Int.emod_lt_of_pos _ m0) (keep_self (Keep.refl H)) ⟨x / m, y, z, upd_same, Int.ediv_nonneg x0 (by omega), y0, y1, z0, by omega⟩
    · walk_at "go"
      refine x_sz (by decide) fun p hp => ?_
      obtain ⟨q, a, q0, q1⟩ : ∃ q, atI [V.int 2147483579, V.int 2147483563, V.int 2147483549, V.int 2147483543] ((z + 1) % 4) = some (V.int q) ∧ 0 < q ∧ q < 2 ^ 32 := by
        have h4 : (z + 1) % 4 = 0 ∨ (z + 1) % 4 = 1 ∨ (z + 1) % 4 = 2 ∨ (z + 1) % 4 = 3 := by omega
        rcases h4 with e | e | e | e <;> rw [e] <;> exact ⟨_, rfl, by decide, by decide⟩
      walk_at "go"
      have nu : u ≠ p := ne_of_none upd_same hp
      exact k _ _ (Int.emod_nonneg _ (by omega)) (Int.emod_lt_of_pos _ m0) (keep_new (keep_self (Keep.refl H)) hp) ⟨x, y, z + 1, upd_at nu upd_same, x0, y0, y1, by omega, by omega⟩
end
/-! ### whether a value is an integer -/
def spIsInt (K : PySem.W.Frag) : Sp := fun vs H Q _ => ∃ x T, vs = [x] ∧ Knd K H x T ∧ Q (.bl (T == "int")) H
theorem isint_val {T : String} (h : T ∈ kinds) : (T == "int" || T == "bool") = true → (!(T == "bool")) = (T == "int") := by
  simp only [kinds, List.mem_cons, List.not_mem_nil, or_false] at h
  rcases h with rfl | rfl | rfl | rfl | rfl | rfl | rfl <;> decide
theorem isint_no {T : String} (h : (T == "int" || T == "bool") = false) : (T == "int") = false := (Bool.or_eq_false_iff.mp h).1
theorem x_spInt {K : PySem.W.Frag} {H : Hp} {Q : VK} {E : XK} {i : Int} (h : Q (.bl true) H) : spIsInt K [.int i] H Q E := ⟨.int i, "int", rfl, knd_int i, h⟩
abbrev s_is_integer : Stmt := topS 6
theorem sc_is_integer : FnScope ["value"] ["value"] (defScope s_is_integer) := ⟨rfl, rfl, rfl, by decide +kernel, rfl, by decide +kernel, by decide +kernel⟩
section
variable {P : Program} {w : World} {K : PySem.W.Frag} {mg : Str → Option Value} {base : Heap}
theorem c_is_integer (T : Tx mg) (F : DefAt K mg "is_integer" s_is_integer ["value"]) : Cal P w K mg base CX0 1 "is_integer" (spIsInt K) := by
  refine F.cal sc_is_integer (fun vs H Q E h => ?_) (fun f cdv A outer s H vs Q E hr h => ?_)
  · obtain ⟨x, T, rfl, _⟩ := h
    rfl
  · obtain ⟨x, Ty, rfl, k, q⟩ := h
    refine ⟨_, (pss_one (ps_ret (pe_and (pe_callB (cl_isi K) (by rfl) T.z_isinstance (by decide +kernel) (pa_cons (pv 0) (pa_cons (pe_bltn (v := .ty "int") (by rfl) T.z_int (by decide +kernel) rfl) pa_nil))) (pe_one (pe_not (pe_callB (cl_isi K) (by rfl) T.z_isinstance (by decide +kernel) (pa_cons (pv 0) (pa_cons (pe_bltn (v := .ty "bool") (by rfl) T.z_bool (by decide +kernel) rfl) pa_nil)))))))), ?_⟩
    walk_at "go"
    refine x_isInt k ?_
    walk_at "go"
    refine x_itb (fun c => ?_) (fun c => ?_)
    · walk_at "go"
      refine x_isBool k ?_
      walk_at "go"
      rw [isint_val k.mem c]
      exact q
    · rw [isint_no c] at q
      exact q
end
abbrev s_is_tie : Stmt := topS 7
theorem sc_is_tie : FnScope ["places", "value"] ["places", "value"] (defScope s_is_tie) := ⟨rfl, rfl, rfl, by decide +kernel, rfl, by decide +kernel, by decide +kernel⟩
def spTie : Sp := fun vs H Q _ => ∃ (n : Int) (t : Addr) (a b : Int), vs = [.int n, .ref t] ∧ H t = some (.tup [.int a, .int b]) ∧ Q (.bl (decide (0 ≤ a ∧ a < b ∧ b < n))) H
section
variable {P : Program} {w : World} {K : PySem.W.Frag} {mg : Str → Option Value} {base : Heap}
theorem c_is_tie (T : Tx mg) (F : DefAt K mg "is_tie" s_is_tie ["places", "value"]) (c_is_integer : Cal P w K mg base CX0 1 "is_integer" (spIsInt K)) : Cal P w K mg base CX0 2 "is_tie" spTie := by
  refine F.cal sc_is_tie (fun vs H Q E h => ?_) (fun f cdv A outer s H vs Q E hr h => ?_)
  · obtain ⟨n, t, a, b, rfl, _⟩ := h
    rfl
  · obtain ⟨n, t, a, b, rfl, ht, q⟩ := h
    refine ⟨_, (pss_cons (ps_if (PW.pt (pw_or (pt_not (pt_val (pe_callB (cl_isi K) (by rfl) T.z_isinstance (by decide +kernel) (pa_cons (pv 1) (pa_cons (pe_bltn (v := .ty "tuple") (by rfl) T.z_tuple (by decide +kernel) rfl) pa_nil))))) (pw_or1 (pt_cmpR op_ne (pe_callB (cl_len K) (by rfl) T.z_len PySem.boot_len (pa_cons (pv 1) pa_nil)) pe_int (nomark _)))))
        (pss_one (ps_ret pe_bl)) pss_nil)
      (pss_cons (ps_if (PW.pt (pw_or (pt_not (pt_val (pe_cal c_is_integer hr (by decide) rfl pass0 (pa_cons (pe_ix (ix_t K) (pv 1) pe_int (fun _ _ => rfl)) pa_nil)))) (pw_or1 (pt_not (pt_val (pe_cal c_is_integer hr (by decide) rfl pass0 (pa_cons (pe_ix (ix_t K) (pv 1) pe_int (fun _ _ => rfl)) pa_nil)))))))
        (pss_one (ps_ret pe_bl)) pss_nil)
      (pss_one (ps_ret (pe_and (pe_cmpR op_le pe_int (pe_ix (ix_t K) (pv 1) pe_int (fun _ _ => rfl)) (nomark _)) (pe_and (pe_cmpR op_lt (pe_ix (ix_t K) (pv 1) pe_int (fun _ _ => rfl)) (pe_ix (ix_t K) (pv 1) pe_int (fun _ _ => rfl)) (nomark _)) (pe_one (pe_cmpR op_lt (pe_ix (ix_t K) (pv 1) pe_int (fun _ _ => rfl)) (pv 0) (nomark _))))))))), ?_⟩
    walk_at "go"
    refine x_spInt ?_
    walk_at "go"
    refine x_spInt ?_
    walk_at "go"
    refine x_ite (fun c1 => ?_) (fun c1 => ?_)
    · walk_at "go"
      refine x_ite (fun c2 => ?_) (fun c2 => ?_)
      · walk_at "go"
        have e : decide (b < n) = decide (0 ≤ a ∧ a < b ∧ b < n) := by simp [c1, c2]
        rw [e]
        exact q
      · rw [decide_eq_false (by omega)] at q
        exact q
    · rw [decide_eq_false (by omega)] at q
      exact q
end
abbrev s_l_urn : Stmt := topS 15
theorem sc_l_urn : FnScope ["script", "k", "cell"] ["script", "k"] (defScope s_l_urn) := ⟨rfl, rfl, rfl, by decide +kernel, rfl, by decide +kernel, by decide +kernel⟩
def spUrn (K : PySem.W.Frag) : Sp := fun vs H Q _ => ∃ (s : Addr) (ns : List Int) (k : Int), vs = [.ref s, .int k] ∧ SqL K H s (ns.map V.int) ∧ 0 ≤ k ∧ k ≤ 100 ∧ ∀ p H', H p = none → Same H H' → UrnZ H' p (2 ^ 40) → Q (.ref p) H'
section
variable {P : Program} {w : World} {K : PySem.W.Frag} {mg : Str → Option Value} {base : Heap}
theorem urn_end {H : Hp} {Q : VK} {cell k : Int} (k0 : 0 ≤ k) (k1 : k ≤ 100) (q : ∀ p H', H p = none → Same H H' → UrnZ H' p (2 ^ 40) → Q (.ref p) H') (p : Addr) (hp : H p = none) :
    Q (.ref p) (upd H p (.lst [.int (if cell - 10 ^ (18 : Int).toNat > 0 then cell - 10 ^ (18 : Int).toNat else 0), .int (cell % (10 ^ (30 : Int).toNat + 57) + k), .int 0])) := by
  refine q p _ hp (same_new hp) ⟨_, _, _, upd_same, ?_, ?_, ?_, by decide, by decide⟩
  · split <;> omega
  · have h : (0 : Int) ≤ cell % (10 ^ (30 : Int).toNat + 57) := Int.emod_nonneg _ (by decide)
    omega
  · have h : cell % (10 ^ (30 : Int).toNat + 57) < 10 ^ (30 : Int).toNat + 57 := Int.emod_lt_of_pos _ (by decide)
    have e : (10 : Int) ^ (30 : Int).toNat + 57 < 2 ^ 103 := by decide
    omega
theorem c_l_urn (T : Tx mg) (F : DefAt K mg "_law_urn" s_l_urn ["script", "k"]) : Cal P w K mg base CX0 1 "_law_urn" (spUrn K) := by
  refine F.cal sc_l_urn (fun vs H Q E h => ?_) (fun f cdv A outer s H vs Q E hr h => ?_)
  · obtain ⟨s, ns, k, rfl, _⟩ := h
    rfl
  · obtain ⟨t, ns, k, rfl, hs, k0, k1, q⟩ := h
    refine ⟨_, (pss_cons (ps_set (i := 2) sc_l_urn.nd rfl (Or.inl rfl) (pe_op op_add (pe_op op_mul pe_int (pv 1)) pe_int))
      (pss_cons (ps_if (pt_cmpR op_lt (pv 1) (pe_callB (cl_len K) (by rfl) T.z_len PySem.boot_len (pa_cons (pv 0) pa_nil)) (nomark _))
        (pss_one (ps_set (i := 2) sc_l_urn.nd rfl (Or.inl rfl) (pe_ix (ix_l K) (pv 0) (pv 1) (fun _ _ => rfl)))) pss_nil)
      (pss_one (ps_ret (pe_lst (pa_cons (pe_callB (cl_max2 rfl) (by rfl) T.z_max (by decide +kernel) (pa_cons pe_int (pa_cons (pe_op op_sub (pv 2) (pe_op op_pow pe_int pe_int)) pa_nil))) (pa_cons (pe_op op_add (pe_op op_mod (pe_callTy cl_int (by rfl) T.z_int (by decide +kernel) (pa_cons (pv 2) pa_nil)) (pe_op op_add (pe_op op_pow pe_int pe_int) pe_int)) (pv 1)) (pa_cons pe_int pa_nil)))))))), ?_⟩
    walk_at "go"
    refine x_lenS hs ?_
    walk_at "go"
    refine x_ite (fun c => ?_) (fun c => ?_)
    · obtain ⟨j, rfl⟩ := Int.eq_ofNat_of_zero_le k0
      rw [List.length_map] at c
      have a : atI (ns.map V.int) (j : Int) = some (.int (ns.getD j 0)) := by
        refine atI_nat ?_
        rw [List.getElem?_map, List.getD_eq_getElem?_getD, List.getElem?_eq_getElem (by omega)]
        rfl
      walk_at "go"
      refine x_ixLs hs a ?_
      walk_at "go"
      refine x_sz (by show 3 ≤ 100000; decide) fun p hp => ?_
      exact urn_end k0 k1 q p hp
    · walk_at "go"
      refine x_sz (by show 3 ≤ 100000; decide) fun p hp => ?_
      exact urn_end k0 k1 q p hp
end
abbrev s_l_shuffled : Stmt := topS 17
theorem sc_l_shuffled : FnScope ["urn", "things", "left", "found", "k"] ["urn", "things"] (defScope s_l_shuffled) := ⟨rfl, rfl, rfl, by decide +kernel, rfl, by decide +kernel, by decide +kernel⟩
def spShuf : Sp := fun vs H Q _ => ∃ (u t : Addr) (xs : List V) (n : Nat), vs = [.ref u, .ref t] ∧ H t = some (.lst xs) ∧ t ≠ u ∧ xs.length ≤ 50000 ∧ UrnZ H u (n + xs.length) ∧ ∀ p H' ys, H p = none → Keep u H H' → UrnZ H' u n → H' p = some (.lst ys) → ys.Perm xs → Q (.ref p) H'
section
variable {P : Program} {w : World} {K : PySem.W.Frag} {mg : Str → Option Value} {base : Heap}
theorem c_l_shuffled (T : Tx mg) (F : DefAt K mg "_law_shuffled" s_l_shuffled ["urn", "things"]) (c_l_pick : Cal P w K mg base CX0 1 "_law_pick" spPick) : Cal P w K mg base CX0 2 "_law_shuffled" spShuf := by
  refine F.cal sc_l_shuffled (fun vs H Q E h => ?_) (fun f cdv A outer s H vs Q E hr h => ?_)
  · obtain ⟨u, t, xs, n, rfl, _⟩ := h
    rfl
  · obtain ⟨u, t, xs, n, rfl, ht, tu, hz, hu, q⟩ := h
    refine ⟨_, (pss_cons (ps_set (i := 2) sc_l_shuffled.nd rfl (Or.inl rfl) (pe_callTy (cl_listOf K) (by rfl) T.z_list (by decide +kernel) (pa_cons (pv 1) pa_nil)))
      (pss_cons (ps_set (i := 3) sc_l_shuffled.nd rfl (Or.inl rfl) (pe_lst pa_nil))
      (pss_cons (ps_for PassesOwn.never rfl (pi_range1 rfl T.z_range (pa_cons (pe_callB (cl_len K) (by rfl) T.z_len PySem.boot_len (pa_cons (pv 1) pa_nil)) pa_nil)) (pg_name (i := 4) sc_l_shuffled.nd rfl (Or.inl rfl))
        (pss_one (ps_expr (k_bm K PySem.F.plainAttrs_list PySem.F.slot_list_append PySem.F.type_list_append mt_append (pv 3) (pa_cons (k_bm K PySem.F.plainAttrs_list PySem.F.slot_list_pop PySem.F.type_list_pop mt_popAt (pv 2) (pa_cons (pe_cal c_l_pick hr (by decide) rfl pass0 (pa_cons (pv 0) (pa_cons (pe_callB (cl_len K) (by rfl) T.z_len PySem.boot_len (pa_cons (pv 2) pa_nil)) pa_nil))) pa_nil)) pa_nil)))))
      (pss_one (ps_ret (pv 3)))))), ?_⟩
    walk_at "go"
    refine x_listOf ht fun l hl => ?_
    walk_at "go"
    refine x_sz (by decide) fun p hp => ?_
    have ul : u ≠ l := hu.ne hl
    have lp : l ≠ p := ne_of_none upd_same hp
    have p0 : H p = none := by
      rw [upd_ne lp.symm] at hp
      exact hp
    have up : u ≠ p := hu.ne p0
    walk_at "go"
    refine x_fwR (fun i σ H1 => ∃ y fs ls, σ = [some (.ref u), some (.ref t), some (.ref l), some (.ref p), y] ∧ i + ls.length = xs.length ∧ Keep u H H1 ∧ UrnZ H1 u (n + ls.length) ∧ H1 l = some (.lst ls) ∧ H1 p = some (.lst fs) ∧ fs.length = i ∧ (fs ++ ls).Perm xs)
      ⟨none, [], xs, rfl, by omega, keep_new (keep_new (Keep.refl H) hl) hp, (hu.upd ul).upd up, upd_at lp upd_same, upd_same, rfl, List.Perm.refl _⟩ ?_ ?_
    · rintro i σ H1 hi ⟨y, fs, ls, rfl, e1, k1, u1, hl1, hp1, e2, pm⟩
      walk_at "go"
      obtain ⟨m, em⟩ : ∃ m, ls.length = m + 1 := ⟨ls.length - 1, by omega⟩
      rw [em, ← Nat.add_assoc] at u1
      refine x_pick (n + m) (by omega) (by omega) u1 fun r H2 r0 r1 k2 u2 => ?_
      have hr : r.toNat < ls.length := by omega
      walk_at "go"
      refine x_popAt (k2.at hl1 ul.symm) (by omega) r0 (List.getElem?_eq_getElem hr) ?_
      walk_at "go"
      refine ⟨_, _, _, rfl, ?_, keep_mut (keep_mut (k1.trans k2) hl) p0, ?_, upd_at lp upd_same, upd_same, ?_, perm_erase pm (List.getElem?_eq_getElem hr)⟩
      · rw [List.length_eraseIdx_of_lt hr]; omega
      · rw [List.length_eraseIdx_of_lt hr, em]
        exact (u2.upd ul).upd up
      · rw [List.length_append, e2]; rfl
    · rintro σ H1 ⟨y, fs, ls, rfl, e1, k1, u1, hl1, hp1, e2, pm⟩
      walk_at "go"
      have e3 : ls = [] := List.eq_nil_of_length_eq_zero (by omega)
      subst e3
      rw [List.append_nil] at pm
      exact q p H1 fs p0 k1 u1 hp1 pm
end
/-! ### webs in plain Lean: a number of places, a relation -/
abbrev Rel := Nat → Nat → Bool
/-- a web of n places -/
structure Gr (n : Nat) (e : Rel) : Prop where
  sym : ∀ u v, e u v = e v u
  irr : ∀ u, e u u = false
  lt : ∀ u v, e u v = true → u < n
theorem Gr.lt2 {n : Nat} {e : Rel} (g : Gr n e) {u v : Nat} (h : e u v = true) : v < n := g.lt v u (by rw [g.sym]; exact h)
/-- the neighbours of a place, ascending -/
def nb (n : Nat) (e : Rel) (u : Nat) : List Nat := (List.range n).filter (e u)
theorem mem_nb {n : Nat} {e : Rel} {u v : Nat} : v ∈ nb n e u ↔ v < n ∧ e u v = true := by
  unfold nb
  rw [List.mem_filter, List.mem_range]
theorem nb_pw (n : Nat) (e : Rel) (u : Nat) : (nb n e u).Pairwise (· < ·) := List.Pairwise.filter _ List.pairwise_lt_range
theorem nodup_of_lt {l : List Nat} (h : l.Pairwise (· < ·)) : l.Nodup := h.imp fun h => Nat.ne_of_lt h
theorem nb_len (n : Nat) (e : Rel) (u : Nat) : (nb n e u).length ≤ n := by
  have h := List.length_filter_le (e u) (List.range n)
  rw [List.length_range] at h
  exact h
/-- two ascending lists of the same numbers are one -/
theorem asc_eq {l m : List Nat} (hl : l.Pairwise (· < ·)) (hm : m.Pairwise (· < ·)) (h : ∀ x, x ∈ l ↔ x ∈ m) : l = m := by
  have p : l.Perm m := (List.perm_ext_iff_of_nodup (nodup_of_lt hl) (nodup_of_lt hm)).mpr h
  exact List.Perm.eq_of_pairwise (fun a b _ _ h1 h2 => absurd (Nat.lt_trans h1 h2) (Nat.lt_irrefl _)) hl hm p
abbrev Tie := Nat × Nat
/-- the relation of a list of ties -/
def eOf (ps : List Tie) : Rel := fun u v => ps.contains (u, v) || ps.contains (v, u)
theorem eOf_iff {ps : List Tie} {u v : Nat} : eOf ps u v = true ↔ (u, v) ∈ ps ∨ (v, u) ∈ ps := by
  unfold eOf
  rw [Bool.or_eq_true, List.contains_iff_mem, List.contains_iff_mem]
/-- ties of a web of n places -/
structure TOk (n : Nat) (ps : List Tie) : Prop where
  nd : ps.Nodup
  ok : ∀ p ∈ ps, p.1 < p.2 ∧ p.2 < n
theorem TOk.gr {n : Nat} {ps : List Tie} (t : TOk n ps) : Gr n (eOf ps) where
  sym := fun u v => by unfold eOf; rw [Bool.or_comm]
  irr := fun u => by
    cases h : eOf ps u u
    · rfl
    · rcases eOf_iff.mp h with h | h <;> exact absurd (t.ok _ h).1 (Nat.lt_irrefl _)
  lt := fun u v h => by
    rcases eOf_iff.mp h with h | h
    · have := t.ok _ h
      exact Nat.lt_trans this.1 this.2
    · exact (t.ok _ h).2
theorem TOk.perm {n : Nat} {ps qs : List Tie} (t : TOk n ps) (p : qs.Perm ps) : TOk n qs := ⟨p.nodup_iff.mpr t.nd, fun x hx => t.ok x (p.mem_iff.mp hx)⟩
theorem eOf_perm {ps qs : List Tie} (p : qs.Perm ps) : eOf qs = eOf ps := by
  funext u v
  have h : eOf qs u v = true ↔ eOf ps u v = true := by rw [eOf_iff, eOf_iff, p.mem_iff, p.mem_iff]
  cases a : eOf qs u v <;> cases b : eOf ps u v <;> simp_all
/-- the other ends at j, in the order of the ties -/
def ends (j : Nat) (p : Tie) : Option Nat := if p.1 = j then some p.2 else if p.2 = j then some p.1 else none
def nbr (ps : List Tie) (j : Nat) : List Nat := ps.filterMap (ends j)
theorem nbr_snoc (ps : List Tie) (p : Tie) (j : Nat) : nbr (ps ++ [p]) j = nbr ps j ++ (ends j p).toList := by
  unfold nbr
  rw [List.filterMap_append]
  cases h : ends j p <;> simp [List.filterMap_cons, h]
theorem mem_nbr {n : Nat} {ps : List Tie} (t : TOk n ps) {j v : Nat} : v ∈ nbr ps j ↔ eOf ps j v = true := by
  unfold nbr
  rw [List.mem_filterMap, eOf_iff]
  constructor
  · rintro ⟨⟨a, b⟩, h, e⟩
    unfold ends at e
    simp only at e
    split at e
    · rename_i q
      cases e
      subst q
      exact .inl h
    · split at e
      · rename_i q
        cases e
        subst q
        exact .inr h
      · cases e
  · rintro (h | h)
    · exact ⟨_, h, by simp [ends]⟩
    · refine ⟨_, h, ?_⟩
      have := t.ok _ h
      simp only at this
      unfold ends
      simp only
      rw [if_neg (by omega)]
      simp
theorem nbr_nodup {n : Nat} : ∀ {ps : List Tie}, TOk n ps → ∀ j, (nbr ps j).Nodup
  | [], _, _ => List.nodup_nil
  | p :: r, t, j => by
    have t' : TOk n r := ⟨(List.nodup_cons.mp t.nd).2, fun x hx => t.ok x (List.mem_cons_of_mem _ hx)⟩
    have ih := nbr_nodup t' j
    show (List.filterMap (ends j) (p :: r)).Nodup
    rw [List.filterMap_cons]
    cases e : ends j p with
    | none => exact ih
    | some v =>
      refine List.nodup_cons.mpr ⟨fun hm => ?_, ih⟩
      have h1 := (mem_nbr t').mp hm
      have np := (List.nodup_cons.mp t.nd).1
      have op := t.ok p (List.mem_cons_self ..)
      obtain ⟨a, b⟩ := p
      simp only at op
      unfold ends at e
      simp only at e
      split at e
      · rename_i q
        cases e
        subst q
        rcases eOf_iff.mp h1 with h | h
        · exact np h
        · have := t'.ok _ h
          simp only at this
          omega
      · split at e
        · rename_i q
          cases e
          subst q
          rcases eOf_iff.mp h1 with h | h
          · have := t'.ok _ h
            simp only at this
            omega
          · exact np h
        · cases e
/-- in order, these are the neighbours -/
theorem nbr_sorted {n : Nat} {ps : List Tie} (t : TOk n ps) {j : Nat} {l : List Int} (p : l.Perm ((nbr ps j).map fun (v : Nat) => (v : Int))) (s : l.Pairwise (· ≤ ·)) : l = (nb n (eOf ps) j).map fun (v : Nat) => (v : Int) := by
  have q : (nb n (eOf ps) j).Perm (nbr ps j) := by
    refine (List.perm_ext_iff_of_nodup (nodup_of_lt (nb_pw _ _ _)) (nbr_nodup t j)).mpr fun v => ?_
    rw [mem_nb, mem_nbr t]
    exact ⟨fun h => h.2, fun h => ⟨t.gr.lt2 h, h⟩⟩
  refine List.Perm.eq_of_pairwise (le := (· ≤ ·)) (fun a b _ _ h1 h2 => Int.le_antisymm h1 h2) s ?_ (p.trans (q.map _).symm)
  refine List.pairwise_map.mpr ((nb_pw _ _ _).imp fun h => ?_)
  omega
/-- all ties of a web, ascending -/
def tiesOf (n : Nat) (e : Rel) : List Tie := (List.range n).flatMap fun u => ((nb n e u).filter fun v => decide (u < v)).map fun v => (u, v)
theorem mem_tiesOf {n : Nat} {e : Rel} {p : Tie} : p ∈ tiesOf n e ↔ p.1 < n ∧ p.2 < n ∧ p.1 < p.2 ∧ e p.1 p.2 = true := by
  obtain ⟨a, b⟩ := p
  unfold tiesOf
  rw [List.mem_flatMap]
  simp only [List.mem_map, List.mem_filter, mem_nb, List.mem_range, decide_eq_true_eq, Prod.mk.injEq]
  constructor
  · rintro ⟨u, hu, v, ⟨⟨h1, h2⟩, h3⟩, rfl, rfl⟩
    exact ⟨hu, h1, h3, h2⟩
  · rintro ⟨h1, h2, h3, h4⟩
    exact ⟨a, h1, b, ⟨⟨h2, h4⟩, h3⟩, rfl, rfl⟩
def ltT (p q : Tie) : Prop := p.1 < q.1 ∨ p.1 = q.1 ∧ p.2 < q.2
theorem ltT_asymm {p q : Tie} (h : ltT p q) (k : ltT q p) : False := by
  unfold ltT at h k
  omega
theorem tiesOf_pw (n : Nat) (e : Rel) : (tiesOf n e).Pairwise ltT := by
  unfold tiesOf
  rw [List.pairwise_flatMap]
  constructor
  · intro u _
    refine List.pairwise_map.mpr (List.Pairwise.filter _ ((nb_pw n e u).imp fun h => ?_))
    exact .inr ⟨rfl, h⟩
  · refine List.pairwise_lt_range.imp fun h => ?_
    intro x hx y hy
    obtain ⟨v, _, rfl⟩ := List.mem_map.mp hx
    obtain ⟨w, _, rfl⟩ := List.mem_map.mp hy
    exact .inl h
theorem ascT_eq {l m : List Tie} (hl : l.Pairwise ltT) (hm : m.Pairwise ltT) (h : ∀ x, x ∈ l ↔ x ∈ m) : l = m := by
  have nd : ∀ {k : List Tie}, k.Pairwise ltT → k.Nodup := fun hk => hk.imp fun h e => by
    subst e
    exact ltT_asymm h h
  have p : l.Perm m := (List.perm_ext_iff_of_nodup (nd hl) (nd hm)).mpr h
  exact List.Perm.eq_of_pairwise (fun a b _ _ h1 h2 => (ltT_asymm h1 h2).elim) hl hm p
theorem nodupT {k : List Tie} (hk : k.Pairwise ltT) : k.Nodup := hk.imp fun h e => by
  subst e
  exact ltT_asymm h h
/-- the ties in order are all ties of their web -/
theorem ties_eq {n : Nat} {ps : List Tie} (t : TOk n ps) (s : ps.Pairwise ltT) : tiesOf n (eOf ps) = ps := by
  refine ascT_eq (tiesOf_pw _ _) s fun p => ?_
  rw [mem_tiesOf]
  obtain ⟨a, b⟩ := p
  constructor
  · rintro ⟨h1, h2, h3, h4⟩
    rcases eOf_iff.mp h4 with h | h
    · exact h
    · have := t.ok _ h
      simp only at this h3
      omega
  · intro h
    have := t.ok _ h
    simp only at this ⊢
    exact ⟨by omega, by omega, by omega, eOf_iff.mpr (.inl h)⟩
theorem nodup_le {n : Nat} {l : List Nat} (nd : l.Nodup) (h : ∀ x ∈ l, x < n) : l.length ≤ n := by
  have s := nd.length_le_of_subset (l₂ := List.range n) fun x hx => List.mem_range.mpr (h x hx)
  rw [List.length_range] at s
  exact s
/-! ### a web in the heap -/
def nv (l : List Nat) : List V := l.map fun (v : Nat) => V.int (v : Int)
theorem nv_len (l : List Nat) : (nv l).length = l.length := by unfold nv; rw [List.length_map]
theorem nv_app (l m : List Nat) : nv (l ++ m) = nv l ++ nv m := by unfold nv; rw [List.map_append]
theorem nv_flat (l : List Nat) : (nv l).all flatV = true := by
  unfold nv
  rw [List.all_map, List.all_eq_true]
  exact fun _ _ => rfl
theorem nv_ints (l : List Nat) : nv l = (l.map fun (v : Nat) => (v : Int)).map V.int := by
  unfold nv
  rw [List.map_map]
  rfl
theorem nv_at {l : List Nat} {i v : Nat} (h : l[i]? = some v) : (nv l)[i]? = some (.int (v : Int)) := by
  unfold nv
  rw [List.getElem?_map, h]
  rfl
theorem of_nv {l : List Nat} {i : Nat} {x : V} (h : (nv l)[i]? = some x) : ∃ v : Nat, x = .int (v : Int) ∧ l[i]? = some v := by
  unfold nv at h
  rw [List.getElem?_map] at h
  cases e : l[i]? with
  | none => rw [e] at h; cases h
  | some a => rw [e] at h; exact ⟨a, (Option.some.inj h).symm, rfl⟩
theorem refs_at {l : List Addr} {i : Nat} {a : Addr} (h : l[i]? = some a) : (l.map V.ref)[i]? = some (.ref a) := by
  rw [List.getElem?_map, h]
  rfl
theorem of_refs {l : List Addr} {i : Nat} {x : V} (h : (l.map V.ref)[i]? = some x) : ∃ a, x = .ref a ∧ l[i]? = some a := by
  rw [List.getElem?_map] at h
  cases e : l[i]? with
  | none => rw [e] at h; cases h
  | some a => rw [e] at h; exact ⟨a, (Option.some.inj h).symm, rfl⟩
theorem nv_in {v : Nat} {l : List Nat} : inV (.int (v : Int)) (nv l) = decide (v ∈ l) := by
  unfold inV nv
  rw [List.any_map, Bool.eq_iff_iff, List.any_eq_true, decide_eq_true_eq]
  constructor
  · rintro ⟨a, ha, e⟩
    have e2 : (a : Int) = (v : Int) := by simpa [eqV] using e
    have : a = v := by omega
    rw [← this]; exact ha
  · intro h
    exact ⟨v, h, by simp [eqV]⟩
theorem x_inN {K : PySem.W.Frag} {H : Hp} {p : Addr} {v : Nat} {l : List Nat} {Q : VK} (h : H p = some (.lst (nv l))) (k : Q (.bl (decide (v ∈ l))) H) : rIn K false (.int (v : Int)) (.ref p) H Q := by
  refine x_in h rfl (nv_flat l) ?_
  rw [nv_in]
  exact k
theorem x_ninN {K : PySem.W.Frag} {H : Hp} {p : Addr} {v : Nat} {l : List Nat} {Q : VK} (h : H p = some (.lst (nv l))) (k : Q (.bl (!decide (v ∈ l))) H) : rIn K true (.int (v : Int)) (.ref p) H Q := by
  refine x_nin h rfl (nv_flat l) ?_
  rw [nv_in]
  exact k
/-- without u -/
def Hd (u : Addr) (H : Hp) : Hp := fun a => if a = u then none else H a
theorem hd_at {u a : Addr} {H : Hp} {o : HO} (h : H a = some o) (n : a ≠ u) : Hd u H a = some o := by unfold Hd; rw [if_neg n]; exact h
theorem hd_of {u a : Addr} {H : Hp} {o : HO} (h : Hd u H a = some o) : H a = some o ∧ a ≠ u := by
  unfold Hd at h
  split at h
  · cases h
  · rename_i n
    exact ⟨h, n⟩
theorem hd_same {u : Addr} {H : Hp} : Same (Hd u H) H := fun _ _ h => (hd_of h).1
theorem Keep.hd {u : Addr} {H H' : Hp} (k : Keep u H H') : Same (Hd u H) (Hd u H') := fun a o h => hd_at (k a o (hd_of h).1 (hd_of h).2) (hd_of h).2
theorem Same.hd {u : Addr} {H H' : Hp} (k : Same H H') : Same (Hd u H) (Hd u H') := fun a o h => hd_at (k a o (hd_of h).1) (hd_of h).2
/-- what is new, and x -/
def Nw (x : Addr) (H H' : Hp) : Hp := fun a => if a = x ∨ H a = none then H' a else none
theorem nw_at {x a : Addr} {H H' : Hp} {o : HO} (h : H' a = some o) (n : a = x ∨ H a = none) : Nw x H H' a = some o := by unfold Nw; rw [if_pos n]; exact h
theorem nw_of {x a : Addr} {H H' : Hp} {o : HO} (h : Nw x H H' a = some o) : H' a = some o ∧ (a = x ∨ H a = none) := by
  unfold Nw at h
  split at h
  · rename_i n
    exact ⟨h, n⟩
  · cases h
theorem nw_same {x : Addr} {H H' : Hp} : Same (Nw x H H') H' := fun _ _ h => (nw_of h).1
theorem nw_none {x a : Addr} {H H' : Hp} {o : HO} (h : H a = some o) (n : a ≠ x) : Nw x H H' a = none := by
  unfold Nw
  rw [if_neg]
  rintro (e | e)
  · exact n e
  · rw [h] at e; cases e
def fB (d : Addr) : List (Str × V) := putF "beside" (.ref d) []
theorem fB_beside (d : Addr) : (fB d).lookup ("beside" : Str) = some (.ref d) := by
  unfold fB
  rw [lookup_putF, if_pos rfl]
theorem fB_no (d : Addr) {m : Str} (h : ¬ m = "beside") : (fB d).lookup m = none := by
  unfold fB
  rw [lookup_putF, if_neg h]
  all_goals rfl
structure WebAt (C : Addr) (H : Hp) (x : Addr) (n : Nat) (e : Rel) : Prop where
  ex : ∃ (dx d : Addr) (rows : List Addr), H x = some (.ins C dx (fB d)) ∧ H d = some (.lst (rows.map V.ref)) ∧ rows.length = n ∧ ∀ (i : Nat) (a : Addr), rows[i]? = some a → H a = some (.lst (nv (nb n e i)))
theorem WebAt.same {C x : Addr} {H H' : Hp} {n : Nat} {e : Rel} (w : WebAt C H x n e) (k : Same H H') : WebAt C H' x n e := by
  obtain ⟨dx, d, rows, h1, h2, h3, h4⟩ := w.ex
  exact ⟨dx, d, rows, k _ _ h1, k _ _ h2, h3, fun i a h => k _ _ (h4 i a h)⟩
/-- the tuple of a tie -/
def TieV (H : Hp) (v : V) (p : Tie) : Prop := ∃ t, v = .ref t ∧ H t = some (.tup [.int (p.1 : Int), .int (p.2 : Int)])
/-- item by item -/
inductive A2 {α β : Type} (R : α → β → Prop) : List α → List β → Prop where
  | nil : A2 R [] []
  | cons {a : α} {b : β} {as : List α} {bs : List β} : R a b → A2 R as bs → A2 R (a :: as) (b :: bs)
section
variable {α β : Type} {R S : α → β → Prop}
theorem A2.len {as : List α} {bs : List β} (h : A2 R as bs) : as.length = bs.length := by
  induction h with
  | nil => rfl
  | cons _ _ ih => rw [List.length_cons, List.length_cons, ih]
theorem A2.imp {as : List α} {bs : List β} (h : A2 R as bs) (f : ∀ a b, R a b → S a b) : A2 S as bs := by
  induction h with
  | nil => exact .nil
  | cons r _ ih => exact .cons (f _ _ r) ih
theorem A2.get {as : List α} {bs : List β} (h : A2 R as bs) : ∀ {i : Nat} {a : α}, as[i]? = some a → ∃ b, bs[i]? = some b ∧ R a b := by
  induction h with
  | nil => intro i a e; simp at e
  | cons r _ ih =>
    intro i a e
    cases i with
    | zero => cases e; exact ⟨_, rfl, r⟩
    | succ i => exact ih (by simpa using e)
theorem A2.app {as cs : List α} {bs ds : List β} (h : A2 R as bs) (k : A2 R cs ds) : A2 R (as ++ cs) (bs ++ ds) := by
  induction h with
  | nil => exact k
  | cons r _ ih => exact .cons r ih
theorem A2.snoc {as : List α} {bs : List β} {a : α} {b : β} (h : A2 R as bs) (r : R a b) : A2 R (as ++ [a]) (bs ++ [b]) := h.app (.cons r .nil)
theorem A2.perm {as cs : List α} (p : cs.Perm as) : ∀ {bs : List β}, A2 R as bs → ∃ ds, ds.Perm bs ∧ A2 R cs ds := by
  induction p with
  | nil => intro bs h; exact ⟨bs, List.Perm.refl _, h⟩
  | cons x _ ih =>
    intro bs h
    cases h with
    | cons r t =>
      obtain ⟨ds, p, k⟩ := ih t
      exact ⟨_ :: ds, p.cons _, .cons r k⟩
  | swap x y l =>
    intro bs h
    cases h with
    | cons r t =>
      cases t with
      | cons r' t' => exact ⟨_, List.Perm.swap _ _ _, .cons r' (.cons r t')⟩
  | trans _ _ ih1 ih2 =>
    intro bs h
    obtain ⟨ds, p, k⟩ := ih2 h
    obtain ⟨es, q, k'⟩ := ih1 k
    exact ⟨es, q.trans p, k'⟩
end
abbrev TieL (H : Hp) (vs : List V) (ps : List Tie) : Prop := A2 (TieV H) vs ps
theorem TieV.same {H H' : Hp} {v : V} {p : Tie} (k : Same H H') (h : TieV H v p) : TieV H' v p := by
  obtain ⟨t, e, h⟩ := h
  exact ⟨t, e, k _ _ h⟩
theorem TieL.same {H H' : Hp} {vs : List V} {ps : List Tie} (k : Same H H') (h : TieL H vs ps) : TieL H' vs ps := h.imp fun _ _ => TieV.same k
theorem TieV.keep {u : Addr} {H H' : Hp} {us : List V} {v : V} {p : Tie} (k : Keep u H H') (hu : H u = some (.lst us)) (h : TieV H v p) : TieV H' v p := by
  obtain ⟨t, e, h⟩ := h
  exact ⟨t, e, k _ _ h (ne_of h hu (fun z => nomatch z))⟩
theorem TieL.keep {u : Addr} {H H' : Hp} {us : List V} {vs : List V} {ps : List Tie} (k : Keep u H H') (hu : H u = some (.lst us)) (h : TieL H vs ps) : TieL H' vs ps := h.imp fun _ _ => TieV.keep k hu
theorem TieL.upd {u : Addr} {H : Hp} {us vs : List V} {ps : List Tie} {o : HO} (hu : H u = some (.lst us)) (h : TieL H vs ps) : TieL (upd H u o) vs ps := h.keep (keep_self (Keep.refl H)) hu
/-! ### Web(places, ties) -/
/-- the rows that __init__ fills -/
structure Bs (H H1 : Hp) (D : Addr) (rows : List Addr) (f : Nat → List Nat) : Prop where
  sm : Same H H1
  nD : H D = none
  hD : H1 D = some (.lst (rows.map V.ref))
  nd : rows.Nodup
  out : D ∉ rows
  rw : ∀ (i : Nat) (a : Addr), rows[i]? = some a → H a = none ∧ H1 a = some (.lst (nv (f i)))
theorem Bs.push {H H1 : Hp} {D p : Addr} {rows : List Addr} (b : Bs H H1 D rows fun _ => []) (hp : H1 p = none) : Bs H (upd (upd H1 p (.lst [])) D (.lst (rows.map V.ref ++ [V.ref p]))) D (rows ++ [p]) fun _ => [] := by
  have nDp : D ≠ p := ne_of_none b.hD hp
  have np : p ∉ rows := fun h => by
    obtain ⟨i, e⟩ := List.mem_iff_getElem?.mp h
    have := (b.rw i p e).2
    rw [hp] at this
    cases this
  refine ⟨same_mut (b.sm.trans (same_new hp)) b.nD, b.nD, ?_, ?_, ?_, fun i a e => ?_⟩
  · rw [upd_same, List.map_append]
    rfl
  · exact List.nodup_append.mpr ⟨b.nd, by simp, fun x hx y hy => by simp only [List.mem_singleton] at hy; subst hy; exact fun z => np (z ▸ hx)⟩
  · intro h
    rcases List.mem_append.mp h with h | h
    · exact b.out h
    · exact nDp (List.mem_singleton.mp h)
  · by_cases hi : i < rows.length
    · rw [List.getElem?_append_left hi] at e
      have q := b.rw i a e
      have nDa : a ≠ D := fun z => b.out (z ▸ List.mem_of_getElem? e)
      exact ⟨q.1, upd_at nDa (new_at hp q.2)⟩
    · rw [List.getElem?_append_right (by omega)] at e
      have h0 : i - rows.length = 0 := by
        by_cases z : i - rows.length = 0
        · exact z
        · rw [List.getElem?_eq_none (by simp only [List.length_cons, List.length_nil]; omega)] at e
          cases e
      rw [h0] at e
      have ea : p = a := Option.some.inj e
      subst ea
      exact ⟨b.sm.free hp, upd_at nDp.symm upd_same⟩
theorem Bs.app {H H1 : Hp} {D a : Addr} {rows : List Addr} {f g : Nat → List Nat} {i v : Nat} (b : Bs H H1 D rows f) (e : rows[i]? = some a) (hg : g i = f i ++ [v]) (ho : ∀ j, j ≠ i → g j = f j) : Bs H (upd H1 a (.lst (nv (f i) ++ [.int (v : Int)]))) D rows g := by
  have q := b.rw i a e
  have nDa : D ≠ a := fun z => b.out (z ▸ List.mem_of_getElem? e)
  refine ⟨same_mut b.sm q.1, b.nD, upd_at nDa b.hD, b.nd, b.out, fun j c hc => ?_⟩
  by_cases hj : j = i
  · subst hj
    rw [e] at hc
    cases hc
    refine ⟨q.1, ?_⟩
    rw [upd_same, hg, nv_app]
    rfl
  · have q' := b.rw j c hc
    have nca : c ≠ a := fun z => by
      subst z
      exact hj (nd_ix b.nd hc e)
    rw [ho j hj]
    exact ⟨q'.1, upd_at nca q'.2⟩
def spInitW (C : Addr) : Sp := fun vs H Q _ => ∃ (x dx t : Addr) (n : Nat) (vs' : List V) (ps : List Tie), vs = [.ref x, .int (n : Int), .ref t] ∧ H x = some (.ins C dx []) ∧ H t = some (.lst vs') ∧ TieL H vs' ps ∧ TOk n ps ∧ n ≤ 100 ∧ ps.length ≤ 50000 ∧
  ∀ H', Keep x H H' → WebAt C (Nw x H H') x n (eOf ps) → Q .non H'
theorem x_spTie {H : Hp} {Q : VK} {E : XK} {n : Int} {t : Addr} {a b : Int} (h : H t = some (.tup [.int a, .int b])) (q : Q (.bl (decide (0 ≤ a ∧ a < b ∧ b < n))) H) : spTie [.int n, .ref t] H Q E := ⟨n, t, a, b, rfl, h, q⟩
abbrev s_WebD_initD : Stmt := inClass (topS 8) 0
theorem sc_WebD_initD : FnScope ["self", "places", "ties", "beside", "tie", "u", "v", "place", "row"] ["self", "places", "ties"] (defScope s_WebD_initD) := ⟨rfl, rfl, rfl, by decide +kernel, rfl, by decide +kernel, by decide +kernel⟩
section
variable {P : Program} {w : World} {K : PySem.W.Frag} {mg : Str → Option Value} {base : Heap}
theorem m_Web_init {C : Addr} (T : Tx mg) (O_Web : Own K mg "Web" C) (nB : NoAttr K C "beside") (F : MetAt K C "__init__" "Web.__init__" s_WebD_initD ["self", "places", "ties"]) (c_is_integer : Cal P w K mg base CX0 1 "is_integer" (spIsInt K)) (c_is_tie : Cal P w K mg base CX0 2 "is_tie" spTie) :
    Met P w K mg base CX0 3 C "__init__" (spInitW C) := by
  refine F.met sc_WebD_initD (fun vs H Q E h => ?_) (fun f cdv A outer s H vs Q E hr h => ?_)
  · obtain ⟨x, dx, t, n, vs', ps, rfl, _⟩ := h
    rfl
  · obtain ⟨x, dx, t, n, vs', ps, rfl, hx, ht, hT, tok, hn, hl, q⟩ := h
    refine ⟨_, (pss_cons (ps_if (PW.pt (pw_or (pt_not (pt_val (pe_cal c_is_integer hr (by decide) rfl pass0 (pa_cons (pv 1) pa_nil)))) (pw_or1 (pt_cmpR op_lt (pv 1) pe_int (nomark _)))))
        (pss_one ps_never) pss_nil)
      (pss_cons (ps_if (pt_not (pt_val (pe_callB (cl_isi K) (by rfl) T.z_isinstance (by decide +kernel) (pa_cons (pv 2) (pa_cons (pe_bltn (v := .ty "list") (by rfl) T.z_list (by decide +kernel) rfl) pa_nil)))))
        (pss_one ps_never) pss_nil)
      (pss_cons (ps_setLc (i := 3) (own := [("place", 7)]) (g := gName 7) rfl sc_WebD_initD.nd rfl rfl (sw_true rfl rfl rfl (by decide +kernel)) (pi_range1 rfl T.z_range (pa_cons (pv 1) pa_nil)) (blkOk_by (own := [("place", 7)]) (N := ["self", "places", "ties", "beside", "tie", "u", "v", "place", "row"]) (sc := defScope s_WebD_initD) (by decide +kernel)) (fun _ _ _ _ _ => (pg_name (i := 7) sc_WebD_initD.nd rfl (Or.inl rfl))) (fun _ _ _ _ _ => pts_nil) (fun _ _ _ _ _ => (pe_lst pa_nil)))
      (pss_cons (ps_for PassesOwn.never rfl (k_pil K (pv 2)) (pg_name (i := 4) sc_WebD_initD.nd rfl (Or.inl rfl))
        (pss_cons (ps_if (pt_not (pt_val (pe_cal c_is_tie hr (by decide) rfl pass0 (pa_cons (pv 1) (pa_cons (pv 4) pa_nil)))))
        (pss_one ps_never) pss_nil)
      (pss_cons (ps_asg (pv 4) (k_tup (n := 2) K rfl (pgs_cons (pg_name (i := 5) sc_WebD_initD.nd rfl (Or.inl rfl)) (pgs_cons (pg_name (i := 6) sc_WebD_initD.nd rfl (Or.inl rfl)) pgs_nil))))
      (pss_cons (ps_if (pt_cmpR (k_in K) (pv 6) (pe_ix (ix_l K) (pv 3) (pv 5) (fun _ _ => rfl)) (by first | exact nomark _ | rfl))
        (pss_one ps_never) pss_nil)
      (pss_cons (ps_expr (k_bm K PySem.F.plainAttrs_list PySem.F.slot_list_append PySem.F.type_list_append mt_append (pe_ix (ix_l K) (pv 3) (pv 5) (fun _ _ => rfl)) (pa_cons (pv 6) pa_nil)))
      (pss_one (ps_expr (k_bm K PySem.F.plainAttrs_list PySem.F.slot_list_append PySem.F.type_list_append mt_append (pe_ix (ix_l K) (pv 3) (pv 6) (fun _ _ => rfl)) (pa_cons (pv 5) pa_nil)))))))))
      (pss_one (k_sfld K (pv 0) (pe_lc (own := [("row", 8)]) (g := gName 8) rfl sc_WebD_initD.nd (k_pil K (pv 3)) (blkOk_by (own := [("row", 8)]) (N := ["self", "places", "ties", "beside", "tie", "u", "v", "place", "row"]) (sc := defScope s_WebD_initD) (by decide +kernel)) (fun _ _ _ _ _ => (pg_name (i := 8) sc_WebD_initD.nd rfl (Or.inl rfl))) (fun _ _ _ _ _ => pts_nil) (fun _ _ _ _ _ => (pe_callB (cl_sortedI K) (by rfl) T.z_sorted (by decide +kernel) (pa_cons (pv 8) pa_nil)))) rfl)))))), ?_⟩
    walk_at "go"
    refine x_spInt ?_
    walk_at "go"
    intro D hD
    -- beside: a new row for each place
    refine x_lwR (fun i H1 => ∃ rows, rows.length = i ∧ Bs H H1 D rows fun _ => []) ⟨[], rfl, same_new hD, hD, upd_same, List.nodup_nil, by simp, fun i a e => by simp at e⟩ ?_ ?_
    · rintro i H1 hi ⟨rows, rfl, b⟩
      walk_at "go"
      refine x_sz (by decide) fun p hp => ?_
      have nDp : D ≠ p := ne_of_none b.hD hp
      refine ⟨_, upd_at nDp b.hD, sz_lt (by rw [List.length_map]; omega), ?_⟩
      exact ⟨rows ++ [p], by simp, b.push hp⟩
    rintro H1 ⟨rows, hlen, b⟩
    have s1 := b.sm
    walk_at "go"
    -- the ties, one by one
    refine x_fwL (xs := vs') (fun i σ H2 => ∃ y4 y5 y6, σ = [some (.ref x), some (.int (n : Int)), some (.ref t), some (.ref D), y4, y5, y6, none, none] ∧ Bs H H2 D rows (nbr (ps.take i)))
      ⟨none, none, none, rfl, b⟩ ?_ ?_ ?_
    · rintro i σ H2 hi ⟨y4, y5, y6, rfl, b⟩
      exact sq_l (b.sm _ _ ht)
    · rintro i y σ H2 hi ⟨y4, y5, y6, rfl, b⟩
      obtain ⟨p, hp, tp, rfl, htp⟩ := hT.get hi
      have htp2 : H2 tp = some (.tup [.int (p.1 : Int), .int (p.2 : Int)]) := b.sm _ _ htp
      have hok := tok.ok p (List.mem_of_getElem? hp)
      have htk : ps.take (i + 1) = ps.take i ++ [p] := by rw [List.take_add_one, hp]; rfl
      walk_at "go"
      refine x_spTie htp2 ?_
      rw [decide_eq_true (show (0 : Int) ≤ (p.1 : Int) ∧ (p.1 : Int) < (p.2 : Int) ∧ (p.2 : Int) < (n : Int) by omega)]
      have r1 : p.1 < rows.length := by omega
      have r2 : p.2 < rows.length := by omega
      have e1 : rows[p.1]? = some rows[p.1] := List.getElem?_eq_getElem r1
      have e2 : rows[p.2]? = some rows[p.2] := List.getElem?_eq_getElem r2
      have g1 : atI (rows.map V.ref) (p.1 : Int) = some (.ref rows[p.1]) := atI_nat (refs_at e1)
      have g2 : atI (rows.map V.ref) (p.2 : Int) = some (.ref rows[p.2]) := atI_nat (refs_at e2)
      have hD2 := b.hD
      walk_at "go"
      refine x_inN (b.rw _ _ e1).2 ?_
      have tk : TOk n (ps.take i) := ⟨tok.nd.sublist (List.take_sublist _ _), fun z hz => tok.ok z (List.mem_of_mem_take hz)⟩
      have nm : ¬ p.2 ∈ nbr (ps.take i) p.1 := fun h => by
        rcases eOf_iff.mp ((mem_nbr tk).mp h) with h | h
        · have nd := tok.nd
          rw [← List.take_append_drop i ps] at nd
          have hd : p ∈ ps.drop i := by
            refine List.mem_of_getElem? (i := 0) ?_
            rw [List.getElem?_drop]
            exact hp
          exact (List.nodup_append.mp nd).2.2 _ h _ hd rfl
        · have := (tk.ok _ h).1
          simp only at this
          omega
      have q1 := (b.rw _ _ e1).2
      have z1 : (nv (nbr (ps.take i) p.1)).length < 100000 := by
        rw [nv_len]
        have := List.length_filterMap_le (ends p.1) (ps.take i)
        rw [List.length_take] at this
        unfold nbr
        omega
      let f1 : Nat → List Nat := fun j => if j = p.1 then nbr (ps.take i) j ++ [p.2] else nbr (ps.take i) j
      have b1 := b.app (g := f1) (v := p.2) e1 (if_pos rfl) (fun j hj => if_neg hj)
      have hD3 := b1.hD
      have q2 := (b1.rw _ _ e2).2
      have z2 : (nv (f1 p.2)).length < 100000 := by
        rw [nv_len]
        show (if p.2 = p.1 then _ else _ : List Nat).length < _
        rw [if_neg (by omega)]
        have := List.length_filterMap_le (ends p.2) (ps.take i)
        rw [List.length_take] at this
        unfold nbr
        omega
      walk_at "go"
      have b2 := b1.app (g := nbr (ps.take (i + 1))) (v := p.1) e2 (by
        show _ = (if p.2 = p.1 then _ else _ : List Nat) ++ [p.1]
        rw [if_neg (by omega), htk, nbr_snoc]
        unfold ends
        rw [if_neg (by omega), if_pos rfl]
        rfl) (fun j hj => by
        show _ = (if j = p.1 then _ else _ : List Nat)
        rw [htk, nbr_snoc]
        unfold ends
        split
        · rename_i h
          rw [if_pos h.symm]
          rfl
        · rename_i h
          rw [if_neg (fun z => hj z.symm), if_neg (fun z => h z.symm)]
          simp)
      exact ⟨_, _, _, rfl, b2⟩
    · rintro σ H2 ⟨y4, y5, y6, rfl, b⟩
      have hps : ps.take vs'.length = ps := by rw [hT.len, List.take_length]
      rw [hps] at b
      have hD2 := b.hD
      walk_at "go"
      -- the rows, in order
      intro D2 hD2n
      refine x_lwL (xs := rows.map V.ref) (fun i H3 => ∃ outs : List Addr, outs.length = i ∧ Same H2 H3 ∧ H3 D2 = some (.lst (outs.map V.ref)) ∧ ∀ (j : Nat) (a : Addr), outs[j]? = some a → H a = none ∧ a ≠ D2 ∧ H3 a = some (.lst (nv (nb n (eOf ps) j))))
        ⟨[], rfl, same_new hD2n, upd_same, fun j a e => by simp at e⟩ (fun i H3 hi ⟨outs, h1, h2, _⟩ => sq_l (h2 _ _ hD2)) ?_ ?_
      · rintro i y H3 hi ⟨outs, h1, h2, h3, h4⟩
        obtain ⟨a, rfl, ha⟩ := of_refs hi
        have hrow := h2 _ _ (b.rw _ _ ha).2
        walk_at "go"
        rw [nv_ints] at hrow
        refine x_sortedI hrow fun ns' p pm srt hp => ?_
        have e := nbr_sorted tok pm srt
        rw [e, ← nv_ints]
        walk_at "go"
        have npD : D2 ≠ p := ne_of_none h3 hp
        refine ⟨_, upd_at npD h3, sz_lt (by rw [List.length_map]; have := (List.getElem?_eq_some_iff.mp ha).1; omega), ?_⟩
        refine ⟨outs ++ [p], by simp [h1], same_mut (h2.trans (same_new hp)) hD2n, by rw [upd_same, List.map_append]; rfl, fun j c hc => ?_⟩
        by_cases hj : j < outs.length
        · rw [List.getElem?_append_left hj] at hc
          obtain ⟨q1, q2, q3⟩ := h4 j c hc
          exact ⟨q1, q2, upd_at q2 (new_at hp q3)⟩
        · rw [List.getElem?_append_right (by omega)] at hc
          have h0 : j - outs.length = 0 := by
            by_cases z : j - outs.length = 0
            · exact z
            · rw [List.getElem?_eq_none (by simp only [List.length_cons, List.length_nil]; omega)] at hc
              cases hc
          rw [h0] at hc
          cases hc
          have ej : j = i := by omega
          subst ej
          exact ⟨b.sm.free (h2.free hp), npD.symm, upd_at npD.symm upd_same⟩
      · rintro H3 ⟨outs, h1, h2, h3, h4⟩
        walk_at "go"
        have hx3 : H3 x = some (.ins C dx []) := h2 _ _ (b.sm _ _ hx)
        refine x_sfl hx3 O_Web.cl nB (by decide) ?_
        refine q _ ?_ ⟨dx, D2, outs, nw_at upd_same (.inl rfl), nw_at (upd_at (ne_of h3 hx3 (fun z => nomatch z)) h3) (.inr (b.sm.free hD2n)), by rw [h1, List.length_map, hlen]; rfl, fun i a ha => ?_⟩
        · exact keep_self (Same.toKeep (b.sm.trans h2))
        · obtain ⟨q1, q2, q3⟩ := h4 i a ha
          exact nw_at (upd_at (ne_of q3 hx3 (fun z => nomatch z)) q3) (.inr q1)
end
abbrev s_WebD_lenD : Stmt := inClass (topS 8) 1
theorem sc_WebD_lenD : FnScope ["self"] ["self"] (defScope s_WebD_lenD) := ⟨rfl, rfl, rfl, by decide +kernel, rfl, by decide +kernel, by decide +kernel⟩
def spLenW (C : Addr) : Sp := fun vs H Q _ => ∃ (x : Addr) (n : Nat) (e : Rel), vs = [.ref x] ∧ WebAt C H x n e ∧ Q (.int (n : Int)) H
abbrev s_Web_ties : Stmt := inClass (topS 8) 3
theorem sc_Web_ties : FnScope ["self", "u", "v"] ["self"] (defScope s_Web_ties) := ⟨rfl, rfl, rfl, by decide +kernel, rfl, by decide +kernel, by decide +kernel⟩
def spTiesW (C : Addr) : Sp := fun vs H Q _ => ∃ (x : Addr) (n : Nat) (e : Rel), vs = [.ref x] ∧ WebAt C H x n e ∧ n ≤ 100 ∧ ∀ p H' vs', H p = none → Same H H' → H' p = some (.lst vs') → TieL H' vs' (tiesOf n e) → Q (.ref p) H'
theorem x_spLenW {C : Addr} {H : Hp} {Q : VK} {E : XK} {x : Addr} {n : Nat} {e : Rel} (w : WebAt C H x n e) (q : Q (.int (n : Int)) H) : spLenW C [.ref x] H Q E := ⟨x, n, e, rfl, w, q⟩
theorem tiesOf_step {m : Nat} {n : Nat} {e : Rel} : (List.range (m + 1)).flatMap (fun u => ((nb n e u).filter fun v => decide (u < v)).map fun v => ((u, v) : Tie)) =
    (List.range m).flatMap (fun u => ((nb n e u).filter fun v => decide (u < v)).map fun v => ((u, v) : Tie)) ++ ((nb n e m).filter fun v => decide (m < v)).map fun v => ((m, v) : Tie) := by
  rw [List.range_succ, List.flatMap_append, List.flatMap_cons, List.flatMap_nil, List.append_nil]
section
variable {P : Program} {w : World} {K : PySem.W.Frag} {mg : Str → Option Value} {base : Heap}
theorem o_Web_len {C : Addr} (T : Tx mg) (O_Web : Own K mg "Web" C) (nB : NoAttr K C "beside") (F : MetAt K C "__len__" "Web.__len__" s_WebD_lenD ["self"]) : Met P w K mg base CX0 1 C "__len__" (spLenW C) := by
  refine F.met sc_WebD_lenD (fun vs H Q E h => ?_) (fun f cdv A outer s H vs Q E hr h => ?_)
  · obtain ⟨x, n, e, rfl, _⟩ := h
    rfl
  · obtain ⟨x, n, e, rfl, ⟨dx, d, rows, h1, h2, h3, h4⟩, q⟩ := h
    refine ⟨_, (pss_one (ps_ret (pe_callB (cl_len K) (by rfl) T.z_len PySem.boot_len (pa_cons (k_fld K (pv 0) rfl) pa_nil)))), ?_⟩
    have cl := O_Web.cl
    have hb := fB_beside d
    walk_at "go"
    rw [List.length_map, h3]
    exact q
theorem p_Web_ties {C : Addr} (T : Tx mg) (O_Web : Own K mg "Web" C) (nB : NoAttr K C "beside") (F : PrpAt K C "ties" "Web.ties" s_Web_ties) : Prp P w K mg base CX0 1 C "ties" (spTiesW C) := by
  refine F.prp sc_Web_ties (fun vs H Q E h => ?_) (fun f cdv A outer s H vs Q E hr h => ?_)
  · obtain ⟨x, n, e, rfl, _⟩ := h
    rfl
  · obtain ⟨x, n, e, rfl, ⟨dx, d, rows, h1, h2, h3, h4⟩, hn, q⟩ := h
    refine ⟨_, (pss_one (ps_ret (pe_lc2 (own := [("u", 1), ("v", 2)]) (g := gName 1) (g1 := gName 2) (vs1 := [2]) rfl sc_Web_ties.nd (pi_range1 rfl T.z_range (pa_cons (pe_callB (cl_len K) (by rfl) T.z_len PySem.boot_len (pa_cons (k_fld K (pv 0) rfl) pa_nil)) pa_nil)) (blkOk_by (own := [("u", 1), ("v", 2)]) (N := ["self", "u", "v"]) (sc := defScope s_Web_ties) (by decide +kernel)) (by decide) (fun _ _ _ _ _ => (pg_name (i := 1) sc_Web_ties.nd rfl (Or.inl rfl))) (fun _ _ _ _ _ => pts_nil) (fun _ _ _ _ _ => (k_pil K (pe_ix (ix_l K) (k_fld K (pv 0) rfl) (pv 1) (fun _ _ => rfl)))) (fun _ _ _ _ _ => (pg_name (i := 2) sc_Web_ties.nd rfl (Or.inl rfl))) (fun _ _ _ _ _ => pts_one (pt_cmpR op_lt (pv 1) (pv 2) (nomark _))) (fun _ _ _ _ _ => (pe_tup (pa_cons (pv 1) (pa_cons (pv 2) pa_nil))))))), ?_⟩
    have cl := O_Web.cl
    have hb := fB_beside d
    walk_at "go"
    intro D hD
    -- for u in range(n)
    refine x_lw2R0 (fun i H1 => ∃ vs', Same H H1 ∧ H1 D = some (.lst vs') ∧ TieL H1 vs' ((List.range i).flatMap fun u => ((nb n e u).filter fun v => decide (u < v)).map fun v => ((u, v) : Tie)) ∧ vs'.length ≤ i * 100)
      ⟨[], same_new hD, upd_same, .nil, Nat.le_refl _⟩ ?_ ?_
    · rintro i H1 hi ⟨vs', s1, hD1, hT, hz⟩
      rw [List.length_map, h3] at hi
      have hin : i < n := by omega
      have hx1 := s1 _ _ h1
      have hd1 := s1 _ _ h2
      have ei : rows[i]? = some rows[i] := List.getElem?_eq_getElem (by omega)
      have hr1 := s1 _ _ (h4 i _ ei)
      have g1 : atI (rows.map V.ref) (i : Int) = some (.ref rows[i]) := atI_nat (refs_at ei)
      walk_at "go"
      -- for v in self.beside[u] if u < v
      have hnl := nb_len n e i
      refine x_liL (xs := nv (nb n e i)) (fun j H2 => ∃ vs2, Same H H2 ∧ H2 D = some (.lst vs2) ∧ TieL H2 vs2 (((List.range i).flatMap fun u => ((nb n e u).filter fun v => decide (u < v)).map fun v => ((u, v) : Tie)) ++ (((nb n e i).take j).filter fun v => decide (i < v)).map fun v => ((i, v) : Tie)) ∧ vs2.length ≤ i * 100 + j)
        ⟨vs', s1, hD1, by simpa using hT, by omega⟩ (fun j H2 hj ⟨vs2, s2, _⟩ => sq_l (s2 _ _ (h4 i _ ei))) ?_ ?_
      · rintro j y H2 hj ⟨vs2, s2, hD2, hT2, hz2⟩
        obtain ⟨v, rfl, hv⟩ := of_nv hj
        have hjl := (List.getElem?_eq_some_iff.mp hv).1
        have etk : (nb n e i).take (j + 1) = (nb n e i).take j ++ [v] := by rw [List.take_add_one, hv]; rfl
        walk_at "go"
        refine x_ite (fun c => ?_) (fun c => ?_)
        · walk_at "go"
          refine x_sz (by show 2 ≤ 100000; decide) fun p hp => ?_
          have nDp : D ≠ p := ne_of_none hD2 hp
          refine ⟨_, upd_at nDp hD2, sz_lt (by have : i * 100 ≤ 100 * 100 := Nat.mul_le_mul_right 100 (by omega); omega), ?_⟩
          refine ⟨_, same_mut (s2.trans (same_new hp)) hD, upd_same, ?_, by rw [List.length_append]; show vs2.length + 1 ≤ _; omega⟩
          rw [etk, List.filter_append, List.map_append, ← List.append_assoc, List.filter_cons_of_pos (by simp; omega)]
          refine A2.snoc ((hT2.same (same_new hp)).upd (new_at hp hD2)) ⟨p, rfl, upd_at nDp.symm upd_same⟩
        · refine ⟨vs2, s2, hD2, ?_, by omega⟩
          rw [etk, List.filter_append, List.filter_cons_of_neg (by simp; omega), List.filter_nil, List.append_nil]
          exact hT2
      · rintro H2 ⟨vs2, s2, hD2, hT2, hz2⟩
        refine ⟨vs2, s2, hD2, ?_, by rw [nv_len] at hz2; omega⟩
        rw [tiesOf_step]
        rw [nv_len, List.take_length] at hT2
        exact hT2
    · rintro H1 ⟨vs', s1, hD1, hT, hz⟩
      rw [List.length_map, h3] at hT
      exact q D H1 vs' hD s1 hD1 hT
end
/-! ### ties as data -/
def dT (p : Tie) : PyData := .tuple [.int (p.1 : Int), .int (p.2 : Int)]
section
variable {K : PySem.W.Frag} {H : Hp}
theorem dp_tie {v : V} {p : Tie} (h : TieV H v p) : Dp K H v (dT p) := by
  obtain ⟨t, rfl, h⟩ := h
  exact .tup (sq_t h) (.cons (.int _) (.cons (.int _) .nil))
theorem dp_ties {vs : List V} {ps : List Tie} (h : TieL H vs ps) : DpAll K H vs (ps.map dT) := by
  induction h with
  | nil => exact .nil
  | cons r _ ih => exact .cons (dp_tie r) ih
theorem dp_tieL {a : Addr} {vs : List V} {ps : List Tie} (ha : H a = some (.lst vs)) (h : TieL H vs ps) : Dp K H (.ref a) (.list (ps.map dT)) := .lst (sq_l ha) (dp_ties h)
end
theorem eqv_tie (p q : Tie) : PyData.eqv (dT p) (dT q) = decide (p = q) := by
  obtain ⟨a, b⟩ := p
  obtain ⟨c, d⟩ := q
  unfold dT
  simp only [PyData.eqv, PyData.eqvAll, Bool.and_true]
  rw [Bool.eq_iff_iff, Bool.and_eq_true, beq_iff_eq, beq_iff_eq, decide_eq_true_eq, Prod.mk.injEq]
  omega
theorem eqv_ties : ∀ ps qs : List Tie, PyData.eqvAll (ps.map dT) (qs.map dT) = decide (ps = qs)
  | [], [] => rfl
  | [], _ :: _ => rfl
  | _ :: _, [] => rfl
  | p :: ps, q :: qs => by
    show (PyData.eqv (dT p) (dT q) && PyData.eqvAll (ps.map dT) (qs.map dT)) = _
    rw [eqv_tie, eqv_ties ps qs, Bool.eq_iff_iff, Bool.and_eq_true, decide_eq_true_eq, decide_eq_true_eq, decide_eq_true_eq, List.cons.injEq]
theorem eqv_tieL (ps qs : List Tie) : PyData.eqv (.list (ps.map dT)) (.list (qs.map dT)) = decide (ps = qs) := by
  simp only [PyData.eqv]
  exact eqv_ties ps qs
theorem lay_ties : ∀ ps : List Tie, PyData.canLayAll0 (ps.map dT) = true
  | [] => rfl
  | p :: ps => by
    show (PyData.canLay0 (dT p) && PyData.canLayAll0 (ps.map dT)) = true
    rw [lay_ties ps]
    rfl
theorem depth_ties : ∀ ps : List Tie, PyData.depthAll (ps.map dT) ≤ 1
  | [] => by simp [PyData.depthAll]
  | p :: ps => by
    have ih := depth_ties ps
    show max (PyData.depth (dT p)) (PyData.depthAll (ps.map dT)) ≤ 1
    have e : PyData.depth (dT p) = 1 := rfl
    omega
theorem shaped_tie (p : Tie) : SeqAt.shaped (dT p) = true := rfl
theorem shaped_ties (ps : List Tie) : SeqAt.shaped (.list (ps.map dT)) = true := by
  unfold SeqAt.shaped
  rw [Bool.and_eq_true, decide_eq_true_eq]
  refine ⟨?_, ?_⟩
  · show PyData.canLayAll0 (ps.map dT) = true
    exact lay_ties ps
  · show PyData.depthAll (ps.map dT) + 1 ≤ 64
    have := depth_ties ps
    omega
theorem any_tie (p : Tie) (ps : List Tie) : ((ps.map dT).any fun z => PyData.eqv z (dT p)) = decide (p ∈ ps) := by
  rw [List.any_map, Bool.eq_iff_iff, List.any_eq_true, decide_eq_true_eq]
  constructor
  · rintro ⟨q, hq, e⟩
    have e2 : PyData.eqv (dT q) (dT p) = true := e
    rw [eqv_tie, decide_eq_true_eq] at e2
    exact e2 ▸ hq
  · intro h
    exact ⟨p, h, by show PyData.eqv (dT p) (dT p) = true; rw [eqv_tie, decide_eq_true rfl]⟩
section
variable {K : PySem.W.Frag} {H : Hp} {Q : VK}
/-- tie not in ties -/
theorem x_ninT {v : V} {p : Tie} {a : Addr} {vs : List V} {ps : List Tie} (hv : TieV H v p) (ha : H a = some (.lst vs)) (h : TieL H vs ps) (k : Q (.bl (!decide (p ∈ ps))) H) : rNotInD K v (.ref a) H Q := by
  refine ⟨dT p, ps.map dT, dp_tie hv, dp_tieL ha h, shaped_tie p, shaped_ties ps, ?_⟩
  rw [any_tie]
  exact k
theorem x_inT {v : V} {p : Tie} {a : Addr} {vs : List V} {ps : List Tie} (hv : TieV H v p) (ha : H a = some (.lst vs)) (h : TieL H vs ps) (k : Q (.bl (decide (p ∈ ps))) H) : rInD K v (.ref a) H Q := by
  refine ⟨dT p, ps.map dT, dp_tie hv, dp_tieL ha h, shaped_tie p, shaped_ties ps, ?_⟩
  rw [any_tie]
  exact k
/-- two lists of ties -/
theorem x_neT {a b : Addr} {vs ws : List V} {ps qs : List Tie} (ha : H a = some (.lst vs)) (h : TieL H vs ps) (hb : H b = some (.lst ws)) (h' : TieL H ws qs) (k : Q (.bl (!decide (ps = qs))) H) : rNeD K (.ref a) (.ref b) H Q := by
  refine ⟨_, _, dp_tieL ha h, dp_tieL hb h', shaped_ties ps, shaped_ties qs, ?_⟩
  rw [eqv_tieL]
  exact k
theorem x_eqT {a b : Addr} {vs ws : List V} {ps qs : List Tie} (ha : H a = some (.lst vs)) (h : TieL H vs ps) (hb : H b = some (.lst ws)) (h' : TieL H ws qs) (k : Q (.bl (decide (ps = qs))) H) : rEqD K (.ref a) (.ref b) H Q := by
  refine ⟨_, _, dp_tieL ha h, dp_tieL hb h', shaped_ties ps, shaped_ties qs, ?_⟩
  rw [eqv_tieL]
  exact k
/-- sorted(ties), all different -/
def keyT (H : Hp) (x : V) : Int × Int := match x with
  | .ref t => match H t with
    | some (.tup [.int a, .int b]) => (a, b)
    | _ => (0, 0)
  | _ => (0, 0)
theorem keyT_of {v : V} {p : Tie} (h : TieV H v p) : keyT H v = ((p.1 : Int), (p.2 : Int)) := by
  obtain ⟨t, rfl, h⟩ := h
  unfold keyT
  simp only [h]
theorem TieL.sorted {ys : List V} {qs : List Tie} (h : TieL H ys qs) (s : SrtO.Srtd (ltP (keyT H)) ys) (nd : qs.Nodup) : qs.Pairwise ltT := by
  induction h with
  | nil => exact List.Pairwise.nil
  | @cons v p vs ps r t ih =>
    refine List.pairwise_cons.mpr ⟨fun q hq => ?_, ih (List.pairwise_cons.mp s).2 (List.nodup_cons.mp nd).2⟩
    obtain ⟨i, e⟩ := List.mem_iff_getElem?.mp hq
    have hi : i < vs.length := by rw [t.len]; exact (List.getElem?_eq_some_iff.mp e).1
    obtain ⟨q', e', r'⟩ := t.get (List.getElem?_eq_getElem hi)
    rw [e] at e'
    cases e'
    have h1 := (List.pairwise_cons.mp s).1 _ (List.getElem_mem hi)
    have h2 := SrtO.lexB_no.mp h1
    rw [keyT_of r, keyT_of r'] at h2
    simp only at h2
    have h3 : p ≠ q := fun z => (List.nodup_cons.mp nd).1 (z ▸ hq)
    unfold ltT
    obtain ⟨a, b⟩ := p
    obtain ⟨c, d⟩ := q
    simp only at h2 h3 ⊢
    have h4 : ¬ (a = c ∧ b = d) := fun ⟨x, y⟩ => h3 (by rw [x, y])
    omega
theorem x_sortedT {a : Addr} {vs : List V} {ps : List Tie} (ha : H a = some (.lst vs)) (h : TieL H vs ps) (nd : ps.Nodup) (k : ∀ ys qs p, qs.Perm ps → TieL H ys qs → qs.Pairwise ltT → H p = none → Q (.ref p) (upd H p (.lst ys))) : rSortedPO K [.ref a] H Q := by
  refine ⟨a, vs, keyT H, rfl, sq_l ha, fun x hx => ?_, fun ys p s st hp => ?_⟩
  · obtain ⟨i, e⟩ := List.mem_iff_getElem?.mp hx
    obtain ⟨q, _, r⟩ := h.get e
    have e2 := keyT_of r
    obtain ⟨t, rfl, r⟩ := r
    exact ⟨t, rfl, by rw [e2]; exact r⟩
  · obtain ⟨qs, pm, h2⟩ := A2.perm st.perm h
    exact k ys qs p pm h2 (TieL.sorted h2 s (pm.nodup_iff.mpr nd)) hp
end
/-! ### orders of places -/
theorem a2_nv (l : List Nat) : A2 (fun (v : V) (k : Nat) => v = .int (k : Int)) (nv l) l := by
  induction l with
  | nil => exact .nil
  | cons x r ih => exact .cons rfl ih
theorem nv_a2 {vs : List V} {l : List Nat} (h : A2 (fun (v : V) (k : Nat) => v = .int (k : Int)) vs l) : vs = nv l := by
  induction h with
  | nil => rfl
  | cons r _ ih => subst r; rw [ih]; rfl
theorem perm_nv {vs : List V} {l : List Nat} (p : vs.Perm (nv l)) : ∃ m, m.Perm l ∧ vs = nv m := by
  obtain ⟨m, q, h⟩ := A2.perm p (a2_nv l)
  exact ⟨m, q, nv_a2 h⟩
theorem rg_nv (N : Nat) : rgV 0 (N : Int) = nv (List.range N) := by
  unfold rgV nv
  rw [show ((N : Int) - 0).toNat = N by omega]
  refine List.map_congr_left fun i _ => ?_
  rw [Int.zero_add]
/-! ### _law_web: a number of places and ascending ties -/
/-- the pairs so far, and what stands beside them -/
structure WS (H H' : Hp) (u o pr : Addr) (os : List Nat) (N b z : Nat) : Prop where
  kp : Keep u H H'
  ur : UrnZ H' u b
  od : H' o = some (.lst (nv os))
  np : H pr = none
  ex : ∃ vs qs, H' pr = some (.lst vs) ∧ TieL H' vs qs ∧ (∀ q ∈ qs, q.1 < q.2 ∧ q.2 < N) ∧ qs.length ≤ z
section
variable {H H1 H2 : Hp} {u o pr : Addr} {os : List Nat} {N b c z y : Nat}
theorem WS.pick (w : WS H H1 u o pr os N b z) (ou : o ≠ u) (pu : pr ≠ u) (k : Keep u H1 H2) (h : UrnZ H2 u c) : WS H H2 u o pr os N c z := by
  obtain ⟨vs, qs, h1, h2, h3⟩ := w.ex
  obtain ⟨us, hu⟩ := w.ur.some
  exact ⟨w.kp.trans k, h, k.at w.od ou, w.np, vs, qs, k.at h1 pu, h2.keep k hu, h3⟩
theorem WS.new {p : Addr} {x : HO} (w : WS H H1 u o pr os N b z) (hp : H1 p = none) : WS H (upd H1 p x) u o pr os N b z := by
  obtain ⟨vs, qs, h1, h2, h3⟩ := w.ex
  exact ⟨keep_new w.kp hp, w.ur.same (same_new hp), new_at hp w.od, w.np, vs, qs, new_at hp h1, h2.same (same_new hp), h3⟩
theorem WS.mono (w : WS H H1 u o pr os N b z) (h1 : c ≤ b) (h2 : z ≤ y) : WS H H1 u o pr os N c y := by
  obtain ⟨vs, qs, a1, a2, a3, a4⟩ := w.ex
  exact ⟨w.kp, w.ur.mono h1, w.od, w.np, vs, qs, a1, a2, a3, Nat.le_trans a4 h2⟩
theorem WS.ext {vs ws : List V} {qs rs : List Tie} (w : WS H H1 u o pr os N b z) (ou : o ≠ u) (pu : pr ≠ u) (op : o ≠ pr) (hv : H1 pr = some (.lst vs)) (hq : TieL H1 vs qs) (hqo : ∀ q ∈ qs, q.1 < q.2 ∧ q.2 < N) (hql : qs.length ≤ z)
    (hr : TieL H1 ws rs) (hro : ∀ q ∈ rs, q.1 < q.2 ∧ q.2 < N) (hrl : rs.length ≤ y) : WS H (upd H1 pr (.lst (vs ++ ws))) u o pr os N b (z + y) := by
  refine ⟨keep_mut w.kp w.np, w.ur.upd pu.symm, upd_at op w.od, w.np, vs ++ ws, qs ++ rs, upd_same, (hq.upd hv).app (hr.upd hv), fun q hq => ?_, by rw [List.length_append]; omega⟩
  rcases List.mem_append.mp hq with h | h
  · exact hqo q h
  · exact hro q h
end
def spWeb : Sp := fun vs H Q _ => ∃ (u : Addr) (m n : Nat), vs = [.ref u, .int (m : Int)] ∧ m ≤ 60 ∧ UrnZ H u (n + 1000) ∧
  ∀ p H' (N : Nat) t vs' ps, H p = none → H t = none → Keep u H H' → UrnZ H' u n → H' p = some (.tup [.int (N : Int), .ref t]) → H' t = some (.lst vs') → TieL H' vs' ps → TOk N ps → ps.Pairwise ltT → N ≤ m → ps.length ≤ 2000 → Q (.ref p) H'
abbrev s_l_web : Stmt := topS 18
theorem sc_l_web : FnScope ["urn", "most", "places", "order", "kind", "share", "pairs", "v", "k", "ties", "u", "tie"] ["urn", "most"] (defScope s_l_web) := ⟨rfl, rfl, rfl, by decide +kernel, rfl, by decide +kernel, by decide +kernel⟩
section
variable {P : Program} {w : World} {K : PySem.W.Frag} {mg : Str → Option Value} {base : Heap}
theorem c_l_web (T : Tx mg) (F : DefAt K mg "_law_web" s_l_web ["urn", "most"]) (c_l_pick : Cal P w K mg base CX0 1 "_law_pick" spPick) (c_l_shuffled : Cal P w K mg base CX0 2 "_law_shuffled" spShuf) : Cal P w K mg base CX0 3 "_law_web" spWeb := by
  refine F.cal sc_l_web (fun vs H Q E h => ?_) (fun f cdv A outer s H vs Q E hr h => ?_)
  · obtain ⟨u, m, n, rfl, _⟩ := h
    rfl
  · obtain ⟨u, m, n, rfl, hm, hu, q⟩ := h
    refine ⟨_, (pss_cons (ps_set (i := 2) sc_l_web.nd rfl (Or.inl rfl) (pe_cal c_l_pick hr (by decide) rfl pass0 (pa_cons (pv 0) (pa_cons (pe_op op_add (pv 1) pe_int) pa_nil))))
      (pss_cons (ps_set (i := 3) sc_l_web.nd rfl (Or.inl rfl) (pe_listRg rfl rfl T.z_list (prg_1 rfl T.z_range (pv 2))))
      (Evl.pss_cut (ps_if (pt_cmpR op_eq (pe_cal c_l_pick hr (by decide) rfl pass0 (pa_cons (pv 0) (pa_cons pe_int pa_nil))) pe_int (nomark _))
        (pss_one (ps_set (i := 3) sc_l_web.nd rfl (Or.inl rfl) (pe_cal c_l_shuffled hr (by decide) rfl pass0 (pa_cons (pv 0) (pa_cons (pv 3) pa_nil))))) pss_nil)
      (pss_cons (ps_set (i := 4) sc_l_web.nd rfl (Or.inl rfl) (pe_cal c_l_pick hr (by decide) rfl pass0 (pa_cons (pv 0) (pa_cons pe_int pa_nil))))
      (pss_cons (ps_set (i := 5) sc_l_web.nd rfl (Or.inr rfl) (pe_op op_add pe_int (pe_cal c_l_pick hr (by decide) rfl pass0 (pa_cons (pv 0) (pa_cons pe_int pa_nil)))))
      (pss_cons (ps_set (i := 6) sc_l_web.nd rfl (Or.inl rfl) (pe_lst pa_nil))
      (Evl.pss_cut (ps_if (PW.pt (pw_and (pt_cmpR op_eq (pv 4) pe_int (nomark _)) (pw_and1 (pt_cmpR op_le (pv 2) pe_int (nomark _)))))
        (pss_one (ps_for PassesOwn.never rfl (pi_range1 rfl T.z_range (pa_cons (pv 2) pa_nil)) (pg_name (i := 7) sc_l_web.nd rfl (Or.inr rfl))
        (pss_one (ps_expr (k_bm K PySem.F.plainAttrs_list PySem.F.slot_list_extend PySem.F.type_list_extend mt_extend (pv 6) (pa_cons (pe_lc (own := [("u", 10)]) (g := gName 10) rfl sc_l_web.nd (pi_range1 rfl T.z_range (pa_cons (pv 7) pa_nil)) (blkOk_by (own := [("u", 10)]) (N := ["urn", "most", "places", "order", "kind", "share", "pairs", "v", "k", "ties", "u", "tie"]) (sc := defScope s_l_web) (by decide +kernel)) (fun _ _ _ _ _ => (pg_name (i := 10) sc_l_web.nd rfl (Or.inl rfl))) (fun _ _ _ _ _ => pts_one (pt_cmpR op_eq (pe_cal c_l_pick hr (by decide) rfl pass0 (pa_cons (pv 0) (pa_cons (pv 5) pa_nil))) pe_int (nomark _))) (fun _ _ _ _ _ => (pe_tup (pa_cons (pv 10) (pa_cons (pv 7) pa_nil))))) pa_nil)))))) (pss_cons (ps_for PassesOwn.never rfl (pi_range2 rfl T.z_range (pa_cons pe_int (pa_cons (pv 2) pa_nil))) (pg_name (i := 7) sc_l_web.nd rfl (Or.inr rfl))
        (pss_one (ps_if (pt_cmpR op_lt (pe_cal c_l_pick hr (by decide) rfl pass0 (pa_cons (pv 0) (pa_cons pe_int pa_nil))) pe_int (nomark _))
        (pss_one (ps_expr (k_bm K PySem.F.plainAttrs_list PySem.F.slot_list_append PySem.F.type_list_append mt_append (pv 6) (pa_cons (pe_tup (pa_cons (pe_ix (ix_l K) (pe_lst (pa_cons (pe_op op_sub (pv 7) pe_int) (pa_cons (pe_cal c_l_pick hr (by decide) rfl pass0 (pa_cons (pv 0) (pa_cons (pv 7) pa_nil))) pa_nil))) (pe_callTy cl_int (by rfl) T.z_int (by decide +kernel) (pa_cons (pe_cmpR op_gt (pv 4) pe_int (nomark _)) pa_nil)) (fun _ _ => rfl)) (pa_cons (pv 7) pa_nil))) pa_nil)))) pss_nil)))
      (Evl.pss_cut (ps_if (PW.pt (pw_and (pt_cmpR op_gt (pv 2) pe_int (nomark _)) (pw_and1 (pt_cmpR op_eq (pe_op op_mod (pe_callTy cl_int (by rfl) T.z_int (by decide +kernel) (pa_cons (pv 4) pa_nil)) pe_int) pe_int (nomark _)))))
        (pss_one (ps_expr (k_bm K PySem.F.plainAttrs_list PySem.F.slot_list_append PySem.F.type_list_append mt_append (pv 6) (pa_cons (pe_tup (pa_cons pe_int (pa_cons (pe_op op_sub (pv 2) pe_int) pa_nil))) pa_nil)))) pss_nil)
      (pss_one (ps_for PassesOwn.never rfl (pi_range1 rfl T.z_range (pa_cons (pe_cal c_l_pick hr (by decide) rfl pass0 (pa_cons (pv 0) (pa_cons pe_int pa_nil))) pa_nil)) (pg_name (i := 8) sc_l_web.nd rfl (Or.inl rfl))
        (pss_one (ps_if (pt_cmpR op_gt (pv 2) pe_int (nomark _))
        (pss_cons (ps_set (i := 7) sc_l_web.nd rfl (Or.inr rfl) (pe_op op_add pe_int (pe_cal c_l_pick hr (by decide) rfl pass0 (pa_cons (pv 0) (pa_cons (pe_op op_sub (pv 2) pe_int) pa_nil)))))
      (pss_one (ps_expr (k_bm K PySem.F.plainAttrs_list PySem.F.slot_list_append PySem.F.type_list_append mt_append (pv 6) (pa_cons (pe_tup (pa_cons (pe_cal c_l_pick hr (by decide) rfl pass0 (pa_cons (pv 0) (pa_cons (pv 7) pa_nil))) (pa_cons (pv 7) pa_nil))) pa_nil))))) pss_nil)))))))
      (pss_cons (ps_set (i := 9) sc_l_web.nd rfl (Or.inl rfl) (pe_lst pa_nil))
      (pss_cons (ps_for PassesOwn.never rfl (k_pil K (pv 6)) (k_tup (n := 2) K rfl (pgs_cons (pg_name (i := 10) sc_l_web.nd rfl (Or.inl rfl)) (pgs_cons (pg_name (i := 7) sc_l_web.nd rfl (Or.inr rfl)) pgs_nil)))
        (pss_cons (ps_set (i := 11) sc_l_web.nd rfl (Or.inl rfl) (pe_tup (pa_cons (pe_callB (cl_min2 rfl) (by rfl) T.z_min (by decide +kernel) (pa_cons (pe_ix (ix_l K) (pv 3) (pv 10) (fun _ _ => rfl)) (pa_cons (pe_ix (ix_l K) (pv 3) (pv 7) (fun _ _ => rfl)) pa_nil))) (pa_cons (pe_callB (cl_max2 rfl) (by rfl) T.z_max (by decide +kernel) (pa_cons (pe_ix (ix_l K) (pv 3) (pv 10) (fun _ _ => rfl)) (pa_cons (pe_ix (ix_l K) (pv 3) (pv 7) (fun _ _ => rfl)) pa_nil))) pa_nil))))
      (pss_one (ps_if (pt_cmpR (k_ninD K (hu65 hr)) (pv 11) (pv 9) (by first | exact nomark _ | rfl))
        (pss_one (ps_expr (k_bm K PySem.F.plainAttrs_list PySem.F.slot_list_append PySem.F.type_list_append mt_append (pv 9) (pa_cons (pv 11) pa_nil)))) pss_nil))))
      (pss_one (ps_ret (pe_tup (pa_cons (pv 2) (pa_cons (pe_callB (cl_sortedPO K) (by rfl) T.z_sorted (by decide +kernel) (pa_cons (pv 9) pa_nil)) pa_nil)))))))))))))), ?_⟩
    walk_at "go"
    refine x_pick (n + 999) (by omega) (by omega) hu fun N0 H1 a0 a1 k1 u1 => ?_
    obtain ⟨N, rfl⟩ := Int.eq_ofNat_of_zero_le a0
    have hN : N ≤ m := by omega
    walk_at "go"
    intro o ho
    rw [rg_nv]
    walk_at "go"
    have uo : u ≠ o := u1.ne ho
    -- the order
    refine x_cut (fun σ' H' => ∃ (o : Addr) (os : List Nat), σ' = [some (.ref u), some (.int (m : Int)), some (.int (N : Int)), some (.ref o), none, none, none, none, none, none, none, none] ∧ os.Perm (List.range N) ∧ H' o = some (.lst (nv os)) ∧ o ≠ u ∧ Keep u H H' ∧ UrnZ H' u (n + 900)) ?_ ?_
    · walk_at "go"
      refine x_pick (n + 998) (by omega) (by omega) (u1.upd uo) fun r H2 r0 r1 k2 u2 => ?_
      walk_at "go"
      have hK : Keep u H H2 := (keep_new k1 ho).trans k2
      have ho2 : H2 o = some (.lst (nv (List.range N))) := k2.at upd_same uo.symm
      refine x_ite (fun c => ?_) (fun c => ?_)
      · walk_at "go"
        refine ⟨u, o, nv (List.range N), n + 900, rfl, ho2, uo.symm, by rw [nv_len, List.length_range]; omega, u2.mono (by rw [nv_len, List.length_range]; omega), fun p H3 ys hp k3 u3 hp3 pm => ?_⟩
        obtain ⟨os, pm2, rfl⟩ := perm_nv pm
        walk_at "go"
        exact ⟨p, os, rfl, pm2, hp3, (u2.ne hp).symm, hK.trans k3, u3⟩
      · walk_at "go"
        exact ⟨o, List.range N, rfl, List.Perm.refl _, ho2, uo.symm, hK, u2.mono (by omega)⟩
    rintro _ H2 ⟨o, os, rfl, pm, ho2, ou, k2, u2⟩
    walk_at "go"
    refine x_pick (n + 899) (by omega) (by omega) u2 fun kind H3 kd0 kd1 k3 u3 => ?_
    walk_at "go"
    refine x_pick (n + 898) (by omega) (by omega) u3 fun sh H4 sh0 sh1 k4 u4 => ?_
    walk_at "go"
    refine x_sz (by decide) fun pr hpr => ?_
    walk_at "go"
    have ho4 : H4 o = some (.lst (nv os)) := k4.at (k3.at ho2 ou) ou
    have k4' : Keep u H H4 := (k2.trans k3).trans k4
    have pu : pr ≠ u := (u4.ne hpr).symm
    have op : o ≠ pr := ne_of_none ho4 hpr
    have w0 : WS H (upd H4 pr (.lst [])) u o pr os N (n + 898) 0 := ⟨keep_new k4' hpr, u4.upd pu.symm, new_at hpr ho4, k4'.free u4 hpr, [], [], upd_same, .nil, by simp, Nat.le_refl _⟩
    have hos : os.length = N := by rw [pm.length_eq, List.length_range]
    -- the pairs
    refine x_cut (fun σ' H' => ∃ y7 y8, σ' = [some (.ref u), some (.int (m : Int)), some (.int (N : Int)), some (.ref o), some (.int kind), some (.int (1 + sh)), some (.ref pr), y7, y8, none, none, none] ∧ WS H H' u o pr os N n 1000) ?_ ?_
    · refine x_ifs (x_and' (p := kind = 0) (q := (N : Int) ≤ 10) (fun R hR => by walk_at "go"; exact hR) (fun _ R hR => by walk_at "go"; exact hR) (x_ite (fun c => ?_) (fun c => ?_)))
      · obtain ⟨c1, c2⟩ := c
        walk_at "go"
        refine x_fwR0 (fun i σ' H' => ∃ y7, σ' = [some (.ref u), some (.int (m : Int)), some (.int (N : Int)), some (.ref o), some (.int kind), some (.int (1 + sh)), some (.ref pr), y7, none, none, none, none] ∧ WS H H' u o pr os N (n + 100 + (10 - i) * 10) (i * 10))
          ⟨none, rfl, w0.mono (by omega) (by omega)⟩ ?_ ?_
        · rintro i _ H5 hi ⟨y7, rfl, w5⟩
          obtain ⟨vs, qs, hv, hq, hqo, hql⟩ := w5.ex
          walk_at "go"
          intro D hD
          have uD : u ≠ D := w5.ur.ne hD
          obtain ⟨us, hus⟩ := w5.ur.some
          refine x_lwR0 (fun j H6 => ∃ ws rs, Keep u H5 H6 ∧ UrnZ H6 u (n + 100 + (10 - i) * 10 - j) ∧ H6 D = some (.lst ws) ∧ TieL H6 ws rs ∧ (∀ q ∈ rs, q.1 < q.2 ∧ q.2 < N) ∧ rs.length ≤ j)
            ⟨[], [], keep_new (Keep.refl _) hD, w5.ur.upd uD, upd_same, .nil, by simp, Nat.le_refl _⟩ ?_ ?_
          · rintro j H6 hj ⟨ws, rs, k6, u6, h6, hr6, ho6, hl6⟩
            walk_at "go"
            refine x_pick (n + 100 + (10 - i) * 10 - (j + 1)) (by omega) (by omega) (u6.mono (by omega)) fun r H7 r0 r1 k7 u7 => ?_
            walk_at "go"
            have h7 := k7.at h6 uD.symm
            obtain ⟨us6, hus6⟩ := u6.some
            have hr7 := hr6.keep k7 hus6
            refine x_ite (fun c3 => ?_) (fun c3 => ?_)
            · walk_at "go"
              refine x_sz (by show 2 ≤ 100000; decide) fun t ht => ?_
              have nDt : D ≠ t := ne_of_none h7 ht
              refine ⟨_, upd_at nDt h7, sz_lt (by rw [hr7.len]; omega), ?_⟩
              refine ⟨_, rs ++ [(j, i)], keep_mut (keep_new (k6.trans k7) ht) hD, (u7.upd (u7.ne ht)).upd uD, upd_same, ?_, ?_, by rw [List.length_append]; show rs.length + 1 ≤ _; omega⟩
              · exact A2.snoc ((hr7.same (same_new ht)).upd (new_at ht h7)) ⟨t, rfl, upd_at nDt.symm upd_same⟩
              · intro q hq
                rcases List.mem_append.mp hq with h | h
                · exact ho6 q h
                · rw [List.mem_singleton.mp h]
                  show j < i ∧ i < N
                  omega
            · exact ⟨ws, rs, k6.trans k7, u7, h7, hr7, ho6, by omega⟩
          · rintro H6 ⟨ws, rs, k6, u6, h6, hr6, ho6, hl6⟩
            walk_at "go"
            have hv6 := k6.at hv pu
            refine x_ext hv6 h6 (by rw [hq.len, hr6.len]; omega) ?_
            refine ⟨_, rfl, ?_⟩
            have w6 := w5.pick ou pu k6 u6
            exact (w6.ext ou pu op hv6 (hq.keep k6 hus) hqo hql hr6 ho6 hl6).mono (by omega) (by omega)
        · rintro _ H5 ⟨y7, rfl, w5⟩
          exact ⟨y7, none, rfl, w5.mono (by omega) (by omega)⟩
      · clear c
        walk_at "go"
        refine x_fwR (fun i σ' H' => ∃ y7, σ' = [some (.ref u), some (.int (m : Int)), some (.int (N : Int)), some (.ref o), some (.int kind), some (.int (1 + sh)), some (.ref pr), y7, none, none, none, none] ∧ WS H H' u o pr os N (n + 100 + (100 - i) * 2) i)
          ⟨none, rfl, w0.mono (by omega) (by omega)⟩ ?_ ?_
        · rintro i _ H5 hi ⟨y7, rfl, w5⟩
          have ev : (1 : Int) + (i : Int) = ((i + 1 : Nat) : Int) := by omega
          rw [ev]
          walk_at "go"
          refine x_pick (n + 100 + (100 - i) * 2 - 1) (by omega) (by omega) (w5.ur.mono (by omega)) fun r H6 r0 r1 k6 u6 => ?_
          have w6 := w5.pick ou pu k6 u6
          walk_at "go"
          refine x_ite (fun c3 => ?_) (fun c3 => ?_)
          · obtain ⟨vs, qs, hv, hq, hqo, hql⟩ := w6.ex
            walk_at "go"
            refine x_pick (n + 100 + (100 - i) * 2 - 2) (by omega) (by omega) (w6.ur.mono (by omega)) fun r2 H7 r20 r21 k7 u7 => ?_
            have w7 := w6.pick ou pu k7 u7
            walk_at "go"
            refine x_sz (by show 2 ≤ 100000; decide) fun l hl => ?_
            have w8 := w7.new (x := .lst [.int (((i + 1 : Nat) : Int) - 1), .int r2]) hl
            obtain ⟨a, ea, alt⟩ : ∃ a : Nat, atI [V.int (((i + 1 : Nat) : Int) - 1), V.int r2] (if decide (2 < kind) = true then 1 else 0) = some (.int (a : Int)) ∧ a < i + 1 := by
              by_cases q : 2 < kind
              · rw [decide_eq_true q]
                obtain ⟨b, rfl⟩ := Int.eq_ofNat_of_zero_le r20
                exact ⟨b, rfl, by omega⟩
              · rw [decide_eq_false q]
                refine ⟨i, ?_, by omega⟩
                have e : ((i + 1 : Nat) : Int) - 1 = (i : Int) := by omega
                rw [e]
                rfl
            walk_at "go"
            refine x_sz (by show 2 ≤ 100000; decide) fun t ht => ?_
            have w9 := w8.new (x := .tup [.int (a : Int), .int ((i + 1 : Nat) : Int)]) ht
            obtain ⟨vs9, qs9, hv9, hq9, hqo9, hql9⟩ := w9.ex
            have z9 : vs9.length < 100000 := by rw [hq9.len]; omega
            walk_at "go"
            refine ⟨_, rfl, (w9.ext (ws := [.ref t]) (rs := [(a, i + 1)]) ou pu op hv9 hq9 hqo9 hql9 (.cons ⟨t, rfl, upd_same⟩ .nil) (fun q hq => ?_) (Nat.le_refl 1)).mono (by omega) (by omega)⟩
            rw [List.mem_singleton.mp hq]
            show a < i + 1 ∧ i + 1 < N
            omega
          · walk_at "go"
            exact ⟨_, rfl, w6.mono (by omega) (by omega)⟩
        rintro _ H5 ⟨y7, rfl, w5⟩
        refine x_cut (fun σ' H' => σ' = [some (.ref u), some (.int (m : Int)), some (.int (N : Int)), some (.ref o), some (.int kind), some (.int (1 + sh)), some (.ref pr), y7, none, none, none, none] ∧ WS H H' u o pr os N (n + 100) 101) ?_ ?_
        · have wl := w5.mono (c := n + 100) (y := 100) (by omega) (by omega)
          refine x_ifs (x_and' (p := 2 < (N : Int)) (q := kind % 2 = 0) (fun R hR => by walk_at "go"; exact hR) (fun _ R hR => by walk_at "go"; exact hR) (x_ite (fun c3 => ?_) (fun c3 => ?_)))
          · obtain ⟨vs, qs, hv, hq, hqo, hql⟩ := wl.ex
            walk_at "go"
            refine x_sz (by show 2 ≤ 100000; decide) fun t ht => ?_
            have eN : (N : Int) - 1 = ((N - 1 : Nat) : Int) := by omega
            rw [eN]
            have w9 := wl.new (x := .tup [.int 0, .int ((N - 1 : Nat) : Int)]) ht
            obtain ⟨vs9, qs9, hv9, hq9, hqo9, hql9⟩ := w9.ex
            have z9 : vs9.length < 100000 := by rw [hq9.len]; omega
            walk_at "go"
            refine (w9.ext (ws := [.ref t]) (rs := [(0, N - 1)]) ou pu op hv9 hq9 hqo9 hql9 (.cons ⟨t, rfl, upd_same⟩ .nil) (fun q hq => ?_) (Nat.le_refl 1)).mono (by omega) (by omega)
            rw [List.mem_singleton.mp hq]
            show 0 < N - 1 ∧ N - 1 < N
            omega
          · walk_at "go"
            exact wl.mono (by omega) (by omega)
        rintro _ H6 ⟨rfl, w6⟩
        walk_at "go"
        refine x_pick (n + 99) (by omega) (by omega) (w6.ur.mono (by omega)) fun r H7 r0 r1 k7 u7 => ?_
        have w7 := w6.pick ou pu k7 u7
        obtain ⟨rn, rfl⟩ := Int.eq_ofNat_of_zero_le r0
        walk_at "go"
        refine x_fwR0 (fun i σ' H' => ∃ y7 y8, σ' = [some (.ref u), some (.int (m : Int)), some (.int (N : Int)), some (.ref o), some (.int kind), some (.int (1 + sh)), some (.ref pr), y7, y8, none, none, none] ∧ WS H H' u o pr os N (n + 99 - 3 * i) (101 + i))
          ⟨_, none, rfl, w7.mono (by omega) (by omega)⟩ ?_ ?_
        · rintro i _ H8 hi ⟨y7, y8, rfl, w8⟩
          walk_at "go"
          refine x_ite (fun c3 => ?_) (fun c3 => ?_)
          · walk_at "go"
            refine x_pick (n + 99 - 3 * i - 1) (by omega) (by omega) (w8.ur.mono (by omega)) fun r1 H9 r10 r11 k9 u9 => ?_
            have w9 := w8.pick ou pu k9 u9
            obtain ⟨v1, rfl⟩ := Int.eq_ofNat_of_zero_le r10
            have ev : (1 : Int) + (v1 : Int) = ((v1 + 1 : Nat) : Int) := by omega
            refine x_I0 ?_
            rw [ev]
            obtain ⟨vs, qs, hv, hq, hqo, hql⟩ := w9.ex
            walk_at "go"
            refine x_pick (n + 99 - 3 * i - 2) (by omega) (by omega) (w9.ur.mono (by omega)) fun r2 H10 r20 r21 k10 u10 => ?_
            have w10 := w9.pick ou pu k10 u10
            obtain ⟨a, rfl⟩ := Int.eq_ofNat_of_zero_le r20
            walk_at "go"
            refine x_sz (by show 2 ≤ 100000; decide) fun t ht => ?_
            have w11 := w10.new (x := .tup [.int (a : Int), .int ((v1 + 1 : Nat) : Int)]) ht
            obtain ⟨vs9, qs9, hv9, hq9, hqo9, hql9⟩ := w11.ex
            have z9 : vs9.length < 100000 := by rw [hq9.len]; omega
            walk_at "go"
            refine ⟨_, _, rfl, (w11.ext (ws := [.ref t]) (rs := [(a, v1 + 1)]) ou pu op hv9 hq9 hqo9 hql9 (.cons ⟨t, rfl, upd_same⟩ .nil) (fun q hq => ?_) (Nat.le_refl 1)).mono (by omega) (by omega)⟩
            rw [List.mem_singleton.mp hq]
            show a < v1 + 1 ∧ v1 + 1 < N
            omega
          · walk_at "go"
            exact ⟨_, _, rfl, w8.mono (by omega) (by omega)⟩
        · rintro _ H8 ⟨y7, y8, rfl, w8⟩
          exact ⟨_, _, rfl, w8.mono (by omega) (by omega)⟩
    rintro _ H5 ⟨y7, y8, rfl, w5⟩
    obtain ⟨vs, qs, hv, hq, hqo, hql⟩ := w5.ex
    have ho5 := w5.od
    have u5 := w5.ur
    walk_at "go"
    refine x_sz (by decide) fun tl htl => ?_
    walk_at "go"
    have ut : u ≠ tl := u5.ne htl
    have tl0 : H tl = none := w5.kp.free u5 htl
    have nd : os.Nodup := pm.nodup_iff.mpr List.nodup_range
    -- the ties, each once
    refine x_fwL (xs := vs) (fun i σ' H' => ∃ y7 y10 y11 vt ts, σ' = [some (.ref u), some (.int (m : Int)), some (.int (N : Int)), some (.ref o), some (.int kind), some (.int (1 + sh)), some (.ref pr), y7, y8, some (.ref tl), y10, y11] ∧
        Same H5 H' ∧ H' tl = some (.lst vt) ∧ TieL H' vt ts ∧ TOk N ts ∧ ts.length ≤ i)
      ⟨y7, none, none, [], [], rfl, same_new htl, upd_same, .nil, ⟨List.nodup_nil, by simp⟩, Nat.le_refl _⟩ (fun i σ' H' _ ⟨_, _, _, _, _, _, s, _⟩ => sq_l (s _ _ hv)) ?_ ?_
    · rintro i y _ H6 hi ⟨y7, y10, y11, vt, ts, rfl, s6, h6, ht6, ok6, hl6⟩
      obtain ⟨p, hp, tp, rfl, htp⟩ := hq.get hi
      have hpo := hqo p (List.mem_of_getElem? hp)
      have hil := (List.getElem?_eq_some_iff.mp hp).1
      have htp6 := s6 _ _ htp
      have ho6 := s6 _ _ ho5
      have e1 : os[p.1]? = some os[p.1] := List.getElem?_eq_getElem (by omega)
      have e2 : os[p.2]? = some os[p.2] := List.getElem?_eq_getElem (by omega)
      have g1 : atI (nv os) (p.1 : Int) = some (.int (os[p.1] : Int)) := atI_nat (nv_at e1)
      have g2 : atI (nv os) (p.2 : Int) = some (.int (os[p.2] : Int)) := atI_nat (nv_at e2)
      have l1 : os[p.1] < N := List.mem_range.mp (pm.mem_iff.mp (List.getElem_mem _))
      have l2 : os[p.2] < N := List.mem_range.mp (pm.mem_iff.mp (List.getElem_mem _))
      have ne12 : os[p.1] ≠ os[p.2] := fun z => by
        have := (List.getElem_inj nd).mp z
        omega
      walk_at "go"
      refine x_sz (by show 2 ≤ 100000; decide) fun t ht => ?_
      generalize ha : min os[p.1] os[p.2] = a
      generalize hb : max os[p.1] os[p.2] = b
      have ea : (if (os[p.2] : Int) < (os[p.1] : Int) then (os[p.2] : Int) else (os[p.1] : Int)) = (a : Int) := by
        split <;> omega
      have eb : (if (os[p.2] : Int) > (os[p.1] : Int) then (os[p.2] : Int) else (os[p.1] : Int)) = (b : Int) := by
        split <;> omega
      rw [ea, eb]
      have hvt : TieV (upd H6 t (.tup [.int (a : Int), .int (b : Int)])) (.ref t) (a, b) := ⟨t, rfl, upd_same⟩
      have h7 := new_at (o := .tup [.int (a : Int), .int (b : Int)]) ht h6
      have ht7 := ht6.same (same_new (o := .tup [.int (a : Int), .int (b : Int)]) ht)
      have z7 : vt.length < 100000 := by rw [ht6.len]; omega
      walk_at "go"
      refine x_ninT hvt h7 ht7 ?_
      walk_at "go"
      refine x_iten (fun c => ?_) (fun c => ?_)
      · walk_at "go"
        refine ⟨_, _, _, _, ts ++ [(a, b)], rfl, same_mut (s6.trans (same_new ht)) htl, upd_same, (ht7.upd h7).snoc (hvt.keep (keep_self (Keep.refl _)) h7), ⟨?_, ?_⟩, by rw [List.length_append]; show ts.length + 1 ≤ _; omega⟩
        · exact List.nodup_append.mpr ⟨ok6.nd, by simp, fun x hx y hy => by rw [List.mem_singleton.mp hy]; exact fun z => c (z ▸ hx)⟩
        · intro q hq
          rcases List.mem_append.mp hq with h | h
          · exact ok6.ok q h
          · rw [List.mem_singleton.mp h]
            show a < b ∧ b < N
            omega
      · walk_at "go"
        exact ⟨_, _, _, vt, ts, rfl, s6.trans (same_new ht), h7, ht7, ok6, by omega⟩
    · rintro _ H6 ⟨y7, y10, y11, vt, ts, rfl, s6, h6, ht6, ok6, hl6⟩
      walk_at "go"
      refine x_sortedT h6 ht6 ok6.nd fun ys rs p pm2 hys srt hp => ?_
      walk_at "go"
      refine x_sz (by show 2 ≤ 100000; decide) fun r hr => ?_
      have hpr : p ≠ r := ne_of_none upd_same hr
      have nf : ∀ x, H6 x = none → H x = none := fun x hx => w5.kp.free u5 (s6.free hx)
      have hr6 : H6 r = none := by
        rw [upd_ne hpr.symm] at hr
        exact hr
      refine q r _ N p ys rs (nf r hr6) (nf p hp) (keep_new (keep_new (w5.kp.same s6) hp) hr) ((u5.same s6).upd ((u5.same s6).ne hp) |>.upd ((u5.same s6).ne hr6)) upd_same (new_at hr upd_same) ((hys.same (same_new hp)).same (same_new hr)) (ok6.perm pm2) srt hN ?_
      rw [pm2.length_eq]
      rw [hq.len] at hl6
      omega
end
/-! ### more steps -/
theorem k_revL {X : Cx} (K : PySem.W.Frag) {e : Expr} {te : TE} {k : Nat} {p1 p2 p3 pos : Pos} (he : PE X e te) (hK : X.K = K := by rfl) : PE X (.Subscript e (.Slice none none (some (.UnaryOp .USub (.Constant (.int 1) k p1) p2)) p3) pos) (tRevL K te) := by subst hK; exact pe_revL he
section
variable {X : Cx} {CX : CXT} {k j : Nat} {C : Addr} {m : Str} {sp : Sp} {E : XK} {o e : Expr} {es : List Expr} {ta : TE} {t : TA} {pos apos : Pos}
theorem pe_mth {x : Str} {pl : Sem Bool} (c : Met X.prog X.w X.K X.mg X.base CX k C m sp) (O : Own X.K X.mg x C) (hr : Room j X.A) (hk : k ≤ j) (hx : Passes CX X E) (he : PE X o ta) (ha : PA X (e :: es) t)
    (hst : starEach (e :: es) X.env = (false, eval e X.env) :: starEach es X.env := by rfl) (hpl : (backTo pos (starEach es X.env)).any (·.1) = false := by rfl)
    (ht : eval (.Call (.Attribute o m apos) (e :: es) [] pos) X.env = (do
      let ov ← eval o X.env
      standAt apos.atName
      let (f, first) ← holding [ov] (getMethod ov m pl)
      callWith pos f first (backTo pos (starEach (e :: es) X.env)) (backToKw pos (keywordEach [] X.env))) := by rfl) :
    PE X (.Call (.Attribute o m apos) (e :: es) [] pos) (tMeth C m sp [] E ta t) := by
  obtain ⟨f, fd, ps, F, m1, m2, m3, b⟩ := c.ex
  exact pe_meth (pl := pl) he O.cl ⟨m1, m2, m3⟩ F (hr.mono hk) b .nil hx ha hst hpl ht
theorem pe_mth0 {x : Str} {pl : Sem Bool} (c : Met X.prog X.w X.K X.mg X.base CX k C m sp) (O : Own X.K X.mg x C) (hr : Room j X.A) (hk : k ≤ j) (hx : Passes CX X E) (he : PE X o ta)
    (ht : eval (.Call (.Attribute o m apos) [] [] pos) X.env = (do
      let ov ← eval o X.env
      standAt apos.atName
      let (f, first) ← holding [ov] (getMethod ov m pl)
      callWith pos f first (backTo pos (starEach [] X.env)) (backToKw pos (keywordEach [] X.env))) := by rfl) :
    PE X (.Call (.Attribute o m apos) [] [] pos) (tMeth C m sp [] E ta tNil) := by
  obtain ⟨f, fd, ps, F, m1, m2, m3, b⟩ := c.ex
  exact pe_meth0 (pl := pl) he O.cl ⟨m1, m2, m3⟩ F (hr.mono hk) b .nil hx ht
end
section
variable {H : Hp} {σ : St} {Q : VK} {l b : Addr} {xs zs : List V}
theorem x_clear (s : H l = some (.lst xs)) (h : Q .non (upd H l (.lst []))) : rClear (.ref l) [] H Q := ⟨l, xs, rfl, rfl, s, h⟩
theorem x_cat (s : H l = some (.lst xs)) (s2 : H b = some (.lst zs)) (z : xs.length + zs.length ≤ 100000) (h : ∀ p, H p = none → Q (.ref p) (upd H p (.lst (xs ++ zs)))) : rCat (.ref l) (.ref b) H Q :=
  ⟨l, b, xs, zs, rfl, rfl, s, s2, Nat.le_trans z (by decide), h⟩
theorem x_revT {K : PySem.W.Frag} {te : TE} (h : te σ H fun x H1 => ∃ a xs, x = .ref a ∧ SqL K H1 a xs ∧ ∀ p, H1 p = none → Q (.ref p) (upd H1 p (.lst xs.reverse))) : tRevL K te σ H Q := h
end
section
variable {σ : St} {H : Hp} {Q : VK}
theorem x_chain {r r' : R2} {ta tb tc : TE} (h : ta σ H fun x H1 => tb σ H1 fun y H2 => r x y H2 fun z H3 => ∃ k, z = .bl k ∧ (if k = true then tc σ H3 fun w' H4 => r' y w' H4 Q else Q (.bl false) H3)) : tChain r r' ta tb tc σ H Q := h
theorem x_sl {r : V → Option Int → Option Int → Hp → VK → Prop} {te : TE} {tl th : TO} (h : te σ H fun x H1 => tl σ H1 fun l H2 => th σ H2 fun u H3 => r x l u H3 Q) : tSl r te tl th σ H Q := h
theorem x_part {t : TE} {R : Option Int → Hp → Prop} (h : t σ H fun x H1 => ∃ i, x = .int i ∧ R (some i) H1) : tPart t σ H R := h
end
section
variable {K : PySem.W.Frag} {σ : St} {H : Hp} {Q : VK}
theorem x_noPart {R : Option Int → Hp → Prop} (h : R none H) : tNoPart σ H R := h
/-- the first k items -/
theorem x_slTake {a : Addr} {xs : List V} {k : Nat} (s : H a = some (.lst xs)) (hk : k ≤ xs.length) (h : ∀ p, H p = none → Q (.ref p) (upd H p (.lst (xs.take k)))) : rSlL K (.ref a) none (some (k : Int)) H Q := by
  refine ⟨a, xs, rfl, sq_l s, fun p hp => ?_⟩
  have e : cutV xs none (some (k : Int)) = xs.take k := by
    have h0 : HT.sIx xs.length 0 none = 0 := rfl
    unfold cutV
    rw [h0, HT.sIx_nat, List.drop_zero, Nat.min_eq_left hk, Nat.sub_zero]
  rw [e]
  exact h p hp
theorem x_slN {a : Addr} {l : List Nat} {k : Nat} (s : H a = some (.lst (nv l))) (hk : k ≤ l.length) (h : ∀ p, H p = none → Q (.ref p) (upd H p (.lst (nv (l.take k))))) : rSlL K (.ref a) none (some (k : Int)) H Q := by
  refine x_slTake s (by rw [nv_len]; exact hk) fun p hp => ?_
  have e : (nv l).take k = nv (l.take k) := by
    unfold nv
    rw [List.map_take]
  rw [e]
  exact h p hp
end
/-! ### lists of lists of places -/
def RowV (H : Hp) (v : V) (r : List Nat) : Prop := ∃ a, v = .ref a ∧ H a = some (.lst (nv r))
abbrev RowL (H : Hp) (vs : List V) (rss : List (List Nat)) : Prop := A2 (RowV H) vs rss
theorem RowV.same {H H' : Hp} {v : V} {r : List Nat} (k : Same H H') (h : RowV H v r) : RowV H' v r := by
  obtain ⟨a, e, h⟩ := h
  exact ⟨a, e, k _ _ h⟩
theorem RowL.same {H H' : Hp} {vs : List V} {rss : List (List Nat)} (k : Same H H') (h : RowL H vs rss) : RowL H' vs rss := h.imp fun _ _ => RowV.same k
/-- rows that are new behind H, each one of its own, in a list at D -/
structure LL (H H1 : Hp) (D : Addr) (rows : List Addr) (rss : List (List Nat)) : Prop where
  sm : Same H H1
  nD : H D = none
  hD : H1 D = some (.lst (rows.map V.ref))
  nd : rows.Nodup
  out : D ∉ rows
  len : rows.length = rss.length
  rw : ∀ (i : Nat) (a : Addr) (r : List Nat), rows[i]? = some a → rss[i]? = some r → H a = none ∧ H1 a = some (.lst (nv r))
section
variable {H H1 H2 : Hp} {D p a : Addr} {rows : List Addr} {rss : List (List Nat)} {l r : List Nat} {i : Nat}
theorem LL.nil (hD : H D = none) : LL H (upd H D (.lst [])) D [] [] := ⟨same_new hD, hD, upd_same, List.nodup_nil, by simp, rfl, fun i a r e => by simp at e⟩
theorem LL.same (b : LL H H1 D rows rss) (s : Same H1 H2) : LL H H2 D rows rss := ⟨b.sm.trans s, b.nD, s _ _ b.hD, b.nd, b.out, b.len, fun i a r h1 h2 => ⟨(b.rw i a r h1 h2).1, s _ _ (b.rw i a r h1 h2).2⟩⟩
theorem LL.get (b : LL H H1 D rows rss) (h : rows[i]? = some a) : ∃ r, rss[i]? = some r ∧ H a = none ∧ H1 a = some (.lst (nv r)) := by
  have hi : i < rss.length := by rw [← b.len]; exact (List.getElem?_eq_some_iff.mp h).1
  exact ⟨_, List.getElem?_eq_getElem hi, b.rw i a _ h (List.getElem?_eq_getElem hi)⟩
theorem LL.mem (b : LL H H1 D rows rss) (h : a ∈ rows) : H a = none ∧ ∃ r, H1 a = some (.lst (nv r)) := by
  obtain ⟨i, e⟩ := List.mem_iff_getElem?.mp h
  obtain ⟨r, _, q1, q2⟩ := b.get e
  exact ⟨q1, r, q2⟩
/-- a new row, put at the end -/
theorem LL.push (b : LL H H1 D rows rss) (h0 : H p = none) (hp : p ≠ D) (np : p ∉ rows) (h1 : H1 p = some (.lst (nv l))) : LL H (upd H1 D (.lst (rows.map V.ref ++ [V.ref p]))) D (rows ++ [p]) (rss ++ [l]) := by
  refine ⟨same_mut b.sm b.nD, b.nD, ?_, ?_, ?_, by rw [List.length_append, List.length_append, b.len]; rfl, fun i a r e e2 => ?_⟩
  · rw [upd_same, List.map_append]
    rfl
  · exact List.nodup_append.mpr ⟨b.nd, by simp, fun x hx y hy => by rw [List.mem_singleton.mp hy]; exact fun z => np (z ▸ hx)⟩
  · intro h
    rcases List.mem_append.mp h with h | h
    · exact b.out h
    · exact hp (List.mem_singleton.mp h).symm
  · by_cases hi : i < rows.length
    · rw [List.getElem?_append_left hi] at e
      rw [List.getElem?_append_left (by rw [← b.len]; exact hi)] at e2
      have q := b.rw i a r e e2
      have nDa : a ≠ D := fun z => b.out (z ▸ List.mem_of_getElem? e)
      exact ⟨q.1, upd_at nDa q.2⟩
    · rw [List.getElem?_append_right (by omega)] at e
      rw [List.getElem?_append_right (by rw [← b.len]; omega), ← b.len] at e2
      have h0' : i - rows.length = 0 := by
        by_cases z : i - rows.length = 0
        · exact z
        · rw [List.getElem?_eq_none (by simp only [List.length_cons, List.length_nil]; omega)] at e
          cases e
      rw [h0'] at e e2
      cases e
      cases e2
      exact ⟨h0, upd_at hp h1⟩
/-- a row that is made at once -/
theorem LL.new (b : LL H H1 D rows rss) (hp : H1 p = none) : LL H (upd (upd H1 p (.lst (nv l))) D (.lst (rows.map V.ref ++ [V.ref p]))) D (rows ++ [p]) (rss ++ [l]) := by
  have nDp : D ≠ p := ne_of_none b.hD hp
  refine (b.same (same_new hp)).push (b.sm.free hp) nDp.symm (fun h => ?_) upd_same
  obtain ⟨_, r, e⟩ := b.mem h
  rw [hp] at e
  cases e
/-- a row is changed -/
theorem LL.set (b : LL H H1 D rows rss) (e : rows[i]? = some a) : LL H (upd H1 a (.lst (nv l))) D rows (rss.set i l) := by
  obtain ⟨r, er, q1, q2⟩ := b.get e
  have nDa : D ≠ a := fun z => b.out (z ▸ List.mem_of_getElem? e)
  refine ⟨same_mut b.sm q1, b.nD, upd_at nDa b.hD, b.nd, b.out, by rw [List.length_set, b.len], fun j c r' hc hr => ?_⟩
  by_cases hj : j = i
  · subst hj
    rw [e] at hc
    cases hc
    rw [List.getElem?_set_self (by rw [← b.len]; exact (List.getElem?_eq_some_iff.mp e).1)] at hr
    cases hr
    exact ⟨q1, upd_same⟩
  · rw [List.getElem?_set_ne (fun z => hj z.symm)] at hr
    have q' := b.rw j c r' hc hr
    have nca : c ≠ a := fun z => by
      subst z
      exact hj (nd_ix b.nd hc e)
    exact ⟨q'.1, upd_at nca q'.2⟩
theorem LL.mut (b : LL H H1 D rows rss) {o : HO} (hp : H1 p = some o) (h : p ≠ D) (np : p ∉ rows) {x : HO} (h0 : H p = none) : LL H (upd H1 p x) D rows rss :=
  ⟨same_mut b.sm h0, b.nD, upd_at h.symm b.hD, b.nd, b.out, b.len, fun i a r h1 h2 => ⟨(b.rw i a r h1 h2).1, upd_at (fun z => np (z ▸ List.mem_of_getElem? h1)) (b.rw i a r h1 h2).2⟩⟩
theorem a2_of_get {α β : Type} {R : α → β → Prop} : ∀ {as : List α} {bs : List β}, as.length = bs.length → (∀ (i : Nat) (a : α) (b : β), as[i]? = some a → bs[i]? = some b → R a b) → A2 R as bs
  | [], [], _, _ => .nil
  | [], _ :: _, h, _ => by simp at h
  | _ :: _, [], h, _ => by simp at h
  | a :: as, b :: bs, h, f => .cons (f 0 a b rfl rfl) (a2_of_get (by simpa using h) fun i x y h1 h2 => f (i + 1) x y (by simpa using h1) (by simpa using h2))
theorem LL.rowL (b : LL H H1 D rows rss) : RowL H1 (rows.map V.ref) rss := a2_of_get (by rw [List.length_map, b.len]) fun i v r h1 h2 => by
  obtain ⟨a, rfl, ha⟩ := of_refs h1
  exact ⟨a, rfl, (b.rw i a r ha h2).2⟩
end
/-! ### as data -/
def dN (l : List Nat) : PyData := .list (l.map fun (v : Nat) => .int (v : Int))
section
variable {K : PySem.W.Frag} {H : Hp} {Q : VK}
theorem dp_all (l : List Nat) : DpAll K H (nv l) (l.map fun (v : Nat) => .int (v : Int)) := by
  induction l with
  | nil => exact .nil
  | cons x r ih => exact .cons (.int _) ih
theorem dp_nv {a : Addr} {l : List Nat} (h : H a = some (.lst (nv l))) : Dp K H (.ref a) (dN l) := .lst (sq_l h) (dp_all l)
theorem dp_rows {vs : List V} {rss : List (List Nat)} (h : RowL H vs rss) : DpAll K H vs (rss.map dN) := by
  induction h with
  | nil => exact .nil
  | cons r _ ih =>
    obtain ⟨a, rfl, h⟩ := r
    exact .cons (dp_nv h) ih
theorem dp_ll {a : Addr} {vs : List V} {rss : List (List Nat)} (ha : H a = some (.lst vs)) (h : RowL H vs rss) : Dp K H (.ref a) (.list (rss.map dN)) := .lst (sq_l ha) (dp_rows h)
end
theorem eqv_ints : ∀ l m : List Nat, PyData.eqvAll (l.map fun (v : Nat) => .int (v : Int)) (m.map fun (v : Nat) => .int (v : Int)) = decide (l = m)
  | [], [] => rfl
  | [], _ :: _ => rfl
  | _ :: _, [] => rfl
  | x :: l, y :: m => by
    show (PyData.eqv (.int (x : Int)) (.int (y : Int)) && PyData.eqvAll (l.map fun (v : Nat) => .int (v : Int)) (m.map fun (v : Nat) => .int (v : Int))) = _
    rw [eqv_ints l m]
    simp only [PyData.eqv]
    rw [Bool.eq_iff_iff, Bool.and_eq_true, beq_iff_eq, decide_eq_true_eq, decide_eq_true_eq, List.cons.injEq]
    exact ⟨fun ⟨h1, h2⟩ => ⟨by omega, h2⟩, fun ⟨h1, h2⟩ => ⟨by omega, h2⟩⟩
theorem eqv_dN (l m : List Nat) : PyData.eqv (dN l) (dN m) = decide (l = m) := by
  unfold dN
  simp only [PyData.eqv]
  exact eqv_ints l m
theorem eqv_dNs : ∀ l m : List (List Nat), PyData.eqvAll (l.map dN) (m.map dN) = decide (l = m)
  | [], [] => rfl
  | [], _ :: _ => rfl
  | _ :: _, [] => rfl
  | x :: l, y :: m => by
    show (PyData.eqv (dN x) (dN y) && PyData.eqvAll (l.map dN) (m.map dN)) = _
    rw [eqv_dNs l m, eqv_dN, Bool.eq_iff_iff, Bool.and_eq_true, decide_eq_true_eq, decide_eq_true_eq, decide_eq_true_eq, List.cons.injEq]
theorem lay_ints : ∀ l : List Nat, PyData.canLayAll0 (l.map fun (v : Nat) => .int (v : Int)) = true
  | [] => rfl
  | x :: l => by
    show (PyData.canLay0 (.int (x : Int)) && PyData.canLayAll0 (l.map fun (v : Nat) => .int (v : Int))) = true
    rw [lay_ints l]
    rfl
theorem dep_ints : ∀ l : List Nat, PyData.depthAll (l.map fun (v : Nat) => .int (v : Int)) = 0
  | [] => rfl
  | x :: l => by
    show max (PyData.depth (.int (x : Int))) (PyData.depthAll (l.map fun (v : Nat) => .int (v : Int))) = 0
    rw [dep_ints l]
    rfl
theorem dep_dN (l : List Nat) : PyData.depth (dN l) = 1 := by
  show PyData.depthAll (l.map fun (v : Nat) => .int (v : Int)) + 1 = 1
  rw [dep_ints]
theorem shaped_dN (l : List Nat) : SeqAt.shaped (dN l) = true := by
  unfold SeqAt.shaped
  rw [Bool.and_eq_true, decide_eq_true_eq, dep_dN]
  exact ⟨lay_ints l, by decide⟩
theorem lay_dNs : ∀ l : List (List Nat), PyData.canLayAll0 (l.map dN) = true
  | [] => rfl
  | x :: l => by
    show (PyData.canLay0 (dN x) && PyData.canLayAll0 (l.map dN)) = true
    rw [lay_dNs l, show PyData.canLay0 (dN x) = true from lay_ints x]
    rfl
theorem dep_dNs : ∀ l : List (List Nat), PyData.depthAll (l.map dN) ≤ 1
  | [] => by simp [PyData.depthAll]
  | x :: l => by
    have ih := dep_dNs l
    have e := dep_dN x
    show max (PyData.depth (dN x)) (PyData.depthAll (l.map dN)) ≤ 1
    omega
theorem shaped_dNs (l : List (List Nat)) : SeqAt.shaped (.list (l.map dN)) = true := by
  unfold SeqAt.shaped
  rw [Bool.and_eq_true, decide_eq_true_eq]
  refine ⟨lay_dNs l, ?_⟩
  have := dep_dNs l
  show PyData.depthAll (l.map dN) + 1 ≤ 64
  omega
section
variable {K : PySem.W.Frag} {H : Hp} {Q : VK} {a b : Addr}
theorem x_eqN {l m : List Nat} (ha : H a = some (.lst (nv l))) (hb : H b = some (.lst (nv m))) (k : Q (.bl (decide (l = m))) H) : rEqD K (.ref a) (.ref b) H Q := by
  refine ⟨_, _, dp_nv ha, dp_nv hb, shaped_dN l, shaped_dN m, ?_⟩
  rw [eqv_dN]
  exact k
theorem x_neN {l m : List Nat} (ha : H a = some (.lst (nv l))) (hb : H b = some (.lst (nv m))) (k : Q (.bl (!decide (l = m))) H) : rNeD K (.ref a) (.ref b) H Q := by
  refine ⟨_, _, dp_nv ha, dp_nv hb, shaped_dN l, shaped_dN m, ?_⟩
  rw [eqv_dN]
  exact k
theorem x_eqLL {vs ws : List V} {l m : List (List Nat)} (ha : H a = some (.lst vs)) (h : RowL H vs l) (hb : H b = some (.lst ws)) (h' : RowL H ws m) (k : Q (.bl (decide (l = m))) H) : rEqD K (.ref a) (.ref b) H Q := by
  refine ⟨_, _, dp_ll ha h, dp_ll hb h', shaped_dNs l, shaped_dNs m, ?_⟩
  show Q (.bl (PyData.eqv (.list (l.map dN)) (.list (m.map dN)))) H
  simp only [PyData.eqv]
  rw [eqv_dNs]
  exact k
theorem x_neLL {vs ws : List V} {l m : List (List Nat)} (ha : H a = some (.lst vs)) (h : RowL H vs l) (hb : H b = some (.lst ws)) (h' : RowL H ws m) (k : Q (.bl (!decide (l = m))) H) : rNeD K (.ref a) (.ref b) H Q := by
  refine ⟨_, _, dp_ll ha h, dp_ll hb h', shaped_dNs l, shaped_dNs m, ?_⟩
  show Q (.bl (!PyData.eqv (.list (l.map dN)) (.list (m.map dN)))) H
  simp only [PyData.eqv]
  rw [eqv_dNs]
  exact k
theorem x_sortedN {p : Addr} {l : List Nat} (h : H p = some (.lst (nv l))) (nd : l.Nodup) (k : ∀ (m : List Nat) (q : Addr), m.Perm l → m.Pairwise (· < ·) → H q = none → Q (.ref q) (upd H q (.lst (nv m)))) : rSortedI K [.ref p] H Q := by
  rw [nv_ints] at h
  refine x_sortedI h fun ns q pm srt hq => ?_
  obtain ⟨m, pm2, e⟩ := perm_nv (vs := ns.map V.int) (l := l) (by rw [nv_ints]; exact pm.map _)
  rw [e]
  refine k m q pm2 ?_ hq
  have nd2 : m.Nodup := pm2.nodup_iff.mpr nd
  have e2 : ns = m.map fun (v : Nat) => (v : Int) := by
    rw [nv_ints] at e
    exact (List.map_inj_right (fun a b h => V.int.inj h)).mp e
  rw [e2] at srt
  refine ((List.pairwise_map.mp srt).and nd2).imp fun h => ?_
  omega
end
/-! ### own errors -/
/-- what the top has written of the error class x at C -/
structure Exq (K : PySem.W.Frag) (mg : Str → Option Value) (x : Str) (C : Addr) : Prop where
  gC : mg x = some (.ref C)
  xc : PySem.W.excIn K C [.type "ValueError", .type "Exception", .type "BaseException", .type "object"] "ValueError.__new__" = true
  kp : PySem.W.keepIn K (.ref C) = true
  sb : PySem.W.subIn K (.ref C) (.type "BaseException") = some true
  ty : PySem.W.typeIn K (.ref C) = some (.type "type")
  is : PySem.W.isClsIn K C = true
  sf : PySem.W.subIn K (.ref C) (.ref C) = some true
/-- an error of the class at D met by the class at C -/
theorem exm_sub {K : PySem.W.Frag} {mg : Str → Option Value} {x : Str} {C : Addr} {D : Value} {b : Bool} (X : Exq K mg x C) (h : PySem.W.subIn K D (.ref C) = some b) : PySem.W.exmOne K D (.ref C) = some b := by
  have e1 : (PySem.W.subIn K (.ref C) (.type "BaseException") == some true) = true := by rw [X.sb] <;> rfl
  have e2 : ((PySem.W.clsIn K C).isSome && PySem.W.typeIn K (.ref C) == some (.type "type")) = true := by
    have h2' : (PySem.W.clsIn K C).isSome = true := X.is
    rw [h2', X.ty] <;> rfl
  show (if (PySem.W.subIn K (.ref C) (.type "BaseException") == some true) = true then (if ((PySem.W.clsIn K C).isSome && PySem.W.typeIn K (.ref C) == some (.type "type")) = true then PySem.W.subIn K D (.ref C) else none) else none) = some b
  rw [if_pos e1, if_pos e2]
  exact h
theorem passN {X : Cx} : Passes (L2.CX X.prog X.w) X (fun _ _ _ => False) := passes_call takes0 (fun _ _ _ _ h => h)
section
variable {P : Program} {w : World} {K : PySem.W.Frag} {mg : Str → Option Value} {base : Heap}
abbrev BdyX (P : Program) (w : World) (K : PySem.W.Frag) (mg : Str → Option Value) (base : Heap) (N : List Str) (qual : Str) (st : Stmt) (k : Nat) (sp : Sp) : Prop :=
  ∀ (f : Addr) (cdv : Value) (A : Around) (outer : List Env) (s : Shared) (H : Hp) (vs : List V) (Q : VK) (E : XK), Room k (A.deeper (envOfC qual (defScope st) s.heap.objs.size f cdv)) → sp vs H Q E →
      ∃ t, PSs (cxOf (L2.CX P w) P w K mg base N qual (defScope st) f cdv A outer s H E) (defBody st) t ∧ t { nx := fun _ H' => Q .non H', rt := Q } (start N vs) H
/-- the promise of a def that may let an error out -/
theorem DefAt.calX {x : Str} {st : Stmt} {N ps : List Str} {k : Nat} {sp : Sp} (F : DefAt K mg x st ps) (S : FnScope N ps (defScope st)) (len : ∀ vs H Q E, sp vs H Q E → vs.length = ps.length)
    (hbody : BdyX P w K mg base N x st k sp) : Cal P w K mg base (L2.CX P w) (k + 1) x sp := by
  obtain ⟨f, fd, F, m, b⟩ := F.ex
  exact ⟨f, fd, ps, F.okX S len (fun cdv A outer s H vs Q E hr h => hbody f cdv A outer s H vs Q E hr h), m, F.kp, b⟩
theorem MetAt.metX {C : Addr} {m qual : Str} {st : Stmt} {N ps : List Str} {k : Nat} {sp : Sp} (F : MetAt K C m qual st ps) (S : FnScope N ps (defScope st)) (len : ∀ vs H Q E, sp vs H Q E → vs.length = ps.length)
    (hbody : BdyX P w K mg base N qual st k sp) : Met P w K mg base (L2.CX P w) (k + 1) C m sp := by
  obtain ⟨f, fd, F, m1, m2, b⟩ := F.ex
  exact ⟨f, fd, ps, F.okX S len (fun cdv A outer s H vs Q E hr h => hbody f cdv A outer s H vs Q E hr h), m1, m2, F.kp, b⟩
end
section
variable {X : Cx} {k j : Nat} {x : Str} {sp : Sp} {E : St → XK} {e : Expr} {es : List Expr} {t : TA} {p pos : Pos}
theorem pe_calS {CX : CXT} (c : Cal X.prog X.w X.K X.mg X.base CX k x sp) (hr : Room j X.A) (hk : k ≤ j) (hg : Gl X x) (hx : ∀ σ, PassesAt CX X σ (E σ)) (ha : PA X (e :: es) t)
    (hdb : (x == ("__debug__" : Str)) = false := by decide) (he : starEach (e :: es) X.env = (false, eval e X.env) :: starEach es X.env := by rfl) (hpl : (backTo pos (starEach es X.env)).any (·.1) = false := by rfl) :
    PE X (.Call (.Name x p) (e :: es) [] pos) (tCallS sp E t) := by
  obtain ⟨f, fd, ps, F, hm, kp, b⟩ := c.ex
  exact pe_callS F (hr.mono hk) hg hm kp b hx ha hdb he hpl
end
section
variable {K : PySem.W.Frag} {σ : St} {H : Hp} {Q : VK} {ta : TA}
theorem x_callS {sp : Sp} {E : St → XK} (h : ta σ H fun vs H1 => sp vs H1 Q (E σ)) : tCallS sp E ta σ H Q := h
end
/-! ### zip of two lists -/
theorem k_zip {X : Cx} (K : PySem.W.Frag) {e e2 : Expr} {ta : TA} {p pos tpos : Pos} {elts : List Expr} {kk : Nat} (hg : Gl X "zip") (hm : X.mg "zip" = none) (ha : PA X [e, e2] ta) (hK : X.K = K := by rfl)
    (hs : starEach [e, e2] X.env = (false, eval e X.env) :: starEach [e2] X.env := by rfl) (hpl : (backTo pos (starEach [e2] X.env)).any (·.1) = false := by rfl) :
    PI X (.Tuple elts kk tpos) (.Call (.Name "zip" p) [e, e2] [] pos) (iZip K ta) := by
  subst hK
  exact pi_zip hg hm ha hs hpl
def Zz (K : PySem.W.Frag) (vs : List V) (H : Hp) (R : It → Hp → Prop) : Prop := ∃ a b xs ys, vs = [.ref a, .ref b] ∧ SqL K H a xs ∧ SqL K H b ys ∧ R (Itz K a b) H
section
variable {K : PySem.W.Frag} {σ : St} {H : Hp} {Q : VK} {ta : TA} {te : TE} {tt : TT} {g : TG} {tb : TS} {vs : List Nat} {R : It → Hp → Prop} {a b : Addr} {xs ys : List V}
theorem x_zip (h : ta σ H fun vs H1 => Zz K vs H1 R) : iZip K ta σ H R := h
theorem x_zz (s1 : H a = some (.lst xs)) (s2 : H b = some (.lst ys)) (h : R (Itz K a b) H) : Zz K [.ref a, .ref b] H R := ⟨a, b, xs, ys, rfl, sq_l s1, sq_l s2, h⟩
theorem itz_at {T : Addr} {x' y' : V} {i : Nat} (qx : SqL K H a xs) (qy : SqL K H b ys) (hi : i < min xs.length ys.length) (f1 : ∀ xs, SqL K H a xs → xs[i]? = some x') (f2 : ∀ ys, SqL K H b ys → ys[i]? = some y') : xs[i]? = some x' ∧ ys[i]? = some y' := ⟨f1 xs qx, f2 ys qy⟩
theorem x_fwZ {nx : St → Hp → Prop} {rt : VK} {bk ct : St → Hp → Prop} (Pv : Nat → St → Hp → Prop) (h0 : Pv 0 σ H) (hl : ∀ i σ H, Pv i σ H → SqL K H a xs ∧ SqL K H b ys)
    (hs : ∀ i x y T σ H, xs[i]? = some x → ys[i]? = some y → Pv i σ H → H T = none → g (.ref T) σ (upd H T (.tup [x, y])) fun σ2 H2 => tb ⟨Pv (i + 1), rt, nx, Pv (i + 1)⟩ σ2 H2) (hd : ∀ σ H, Pv (min xs.length ys.length) σ H → nx σ H) : FW (Itz K a b) g tb ⟨nx, rt, bk, ct⟩ σ H := by
  refine ⟨fun i m σ H => m = min xs.length ys.length - i ∧ i ≤ min xs.length ys.length ∧ Pv i σ H, ⟨_, rfl, Nat.zero_le _, h0⟩, ?_⟩
  rintro i m σ H ⟨rfl, hi, p⟩
  obtain ⟨qx, qy⟩ := hl i σ H p
  by_cases hlt : i < min xs.length ys.length
  · have hx : xs[i]? = some (xs[i]'(by omega)) := List.getElem?_eq_getElem (by omega)
    have hy : ys[i]? = some (ys[i]'(by omega)) := List.getElem?_eq_getElem (by omega)
    refine .inr ⟨⟨xs, ys, _, _, qx, qy, hx, hy⟩, Pv (i + 1), fun σ' H' p' => ⟨min xs.length ys.length - (i + 1), by omega, rfl, hlt, p'⟩, fun v H' y => ?_⟩
    obtain ⟨T, x', y', rfl, hT, rfl, f1, f2⟩ := y
    exact hs i x' y' T σ H (f1 xs qx) (f2 ys qy) p hT
  · have e : i = min xs.length ys.length := by omega
    rw [e] at p
    exact .inl ⟨⟨xs, ys, qx, qy, by omega⟩, hd σ H p⟩
theorem x_lwZ {D : Addr} (Pv : Nat → Hp → Prop) (h0 : Pv 0 (upd H D (.lst []))) (hl : ∀ i H, Pv i H → SqL K H a xs ∧ SqL K H b ys)
    (hs : ∀ i x y T H, xs[i]? = some x → ys[i]? = some y → Pv i H → H T = none → g (.ref T) (wipe σ vs) (upd H T (.tup [x, y])) fun σ2 H2 => wipe σ2 vs = wipe σ vs ∧ tt σ2 H2 fun b H3 =>
      if b = true then te σ2 H3 fun y H4 => ∃ acc, H4 D = some (.lst acc) ∧ acc.length < sizeLine ∧ Pv (i + 1) (upd H4 D (.lst (acc ++ [y]))) else Pv (i + 1) H3) (hd : ∀ H, Pv (min xs.length ys.length) H → Q (.ref D) H) : LW (Itz K a b) D g tt te vs σ H Q := by
  refine ⟨fun i m H => m = min xs.length ys.length - i ∧ i ≤ min xs.length ys.length ∧ Pv i H, ⟨_, rfl, Nat.zero_le _, h0⟩, ?_⟩
  rintro i m H ⟨rfl, hi, p⟩
  obtain ⟨qx, qy⟩ := hl i H p
  by_cases hlt : i < min xs.length ys.length
  · have hx : xs[i]? = some (xs[i]'(by omega)) := List.getElem?_eq_getElem (by omega)
    have hy : ys[i]? = some (ys[i]'(by omega)) := List.getElem?_eq_getElem (by omega)
    refine .inr ⟨⟨xs, ys, _, _, qx, qy, hx, hy⟩, Pv (i + 1), fun H' p' => ⟨min xs.length ys.length - (i + 1), by omega, rfl, hlt, p'⟩, fun v H' y => ?_⟩
    obtain ⟨T, x', y', rfl, hT, rfl, f1, f2⟩ := y
    exact hs i x' y' T H (f1 xs qx) (f2 ys qy) p hT
  · have e : i = min xs.length ys.length := by omega
    rw [e] at p
    exact .inl ⟨⟨xs, ys, qx, qy, by omega⟩, hd H p⟩
end
/-! ### hues, lists of hues -/
abbrev Asc (l : List Nat) : Prop := l.Pairwise (· < ·)
def spHue (K : PySem.W.Frag) : Sp := fun vs H Q _ => ∃ v, vs = [v] ∧ ((∃ i : Int, v = .int i ∧ Q (.bl (decide (0 ≤ i))) H) ∨ (∃ Ty, Knd K H v Ty ∧ Ty ≠ "int" ∧ Q (.bl false) H))
abbrev s_is_hue : Stmt := topS 10
theorem sc_is_hue : FnScope ["value"] ["value"] (defScope s_is_hue) := ⟨rfl, rfl, rfl, by decide +kernel, rfl, by decide +kernel, by decide +kernel⟩
def spHues : Sp := fun vs H Q _ => ∃ (a : Addr) (l : List Nat), vs = [.ref a] ∧ H a = some (.lst (nv l)) ∧ Asc l ∧ l.length ≤ 50000 ∧ ∀ H', Same H H' → Q (.bl true) H'
abbrev s_is_hues : Stmt := topS 11
theorem sc_is_hues : FnScope ["value", "one", "other", "hue"] ["value"] (defScope s_is_hues) := ⟨rfl, rfl, rfl, by decide +kernel, rfl, by decide +kernel, by decide +kernel⟩
theorem rep_snoc3 (i : Nat) : (List.replicate i true).map V.bl ++ [V.bl true] = (List.replicate (i + 1) true).map V.bl := by
  rw [List.replicate_succ', List.map_append]
  rfl
theorem rep_all3 (i : Nat) : (List.replicate i true).all id = true := by
  rw [List.all_eq_true]
  intro x hx
  exact (List.mem_replicate.mp hx).2
theorem x_slFrom {K : PySem.W.Frag} {H : Hp} {Q : VK} {a : Addr} {xs : List V} {k : Nat} (s : H a = some (.lst xs)) (h : ∀ p, H p = none → Q (.ref p) (upd H p (.lst (xs.drop k)))) : rSlL K (.ref a) (some (k : Int)) none H Q := by
  refine ⟨a, xs, rfl, sq_l s, fun p hp => ?_⟩
  have e : cutV xs (some (k : Int)) none = xs.drop k := by
    have h0 : HT.sIx xs.length xs.length none = xs.length := rfl
    unfold cutV
    rw [h0, HT.sIx_nat]
    by_cases c : k ≤ xs.length
    · rw [Nat.min_eq_left c, List.take_of_length_le (by rw [List.length_drop]; omega)]
    · rw [Nat.min_eq_right (by omega), List.drop_of_length_le (Nat.le_refl _), List.drop_of_length_le (by omega), List.take_nil]
  rw [e]
  exact h p hp
theorem nv_drop (l : List Nat) (k : Nat) : (nv l).drop k = nv (l.drop k) := by
  unfold nv
  rw [List.map_drop]
theorem nv_take (l : List Nat) (k : Nat) : (nv l).take k = nv (l.take k) := by
  unfold nv
  rw [List.map_take]
theorem asc_next {l : List Nat} (h : Asc l) {i a b : Nat} (h1 : l[i]? = some a) (h2 : (l.drop 1)[i]? = some b) : a < b := by
  rw [List.getElem?_drop] at h2
  obtain ⟨l1, rfl⟩ := List.getElem?_eq_some_iff.mp h1
  obtain ⟨l2, rfl⟩ := List.getElem?_eq_some_iff.mp h2
  exact List.pairwise_iff_getElem.mp h i (1 + i) l1 l2 (by omega)
section
variable {P : Program} {w : World} {K : PySem.W.Frag} {mg : Str → Option Value} {base : Heap}
theorem c_is_hue (T : Tx mg) (F : DefAt K mg "is_hue" s_is_hue ["value"]) (c_is_integer : Cal P w K mg base CX0 1 "is_integer" (spIsInt K)) : Cal P w K mg base CX0 2 "is_hue" (spHue K) := by
  refine F.cal sc_is_hue (fun vs H Q E h => ?_) (fun f cdv A outer s H vs Q E hr h => ?_)
  · obtain ⟨v, rfl, _⟩ := h
    rfl
  · obtain ⟨v, rfl, q⟩ := h
    refine ⟨_, (pss_one (ps_ret (pe_and (pe_cal c_is_integer hr (by decide) rfl pass0 (pa_cons (pv 0) pa_nil)) (pe_one (pe_cmpR op_ge (pv 0) pe_int (nomark _)))))), ?_⟩
    walk_at "go"
    rcases q with ⟨i, rfl, q⟩ | ⟨Ty, kn, ne, q⟩
    · refine ⟨.int i, "int", rfl, knd_int i, ?_⟩
      walk_at "go"
      rw [if_pos (by decide)]
      walk_at "go"
      exact q
    · refine ⟨v, Ty, rfl, kn, ?_⟩
      rw [show (Ty == "int") = false from by simpa using ne]
      walk_at "go"
      exact q
theorem c_is_hues (T : Tx mg) (F : DefAt K mg "is_hues" s_is_hues ["value"]) (c_is_hue : Cal P w K mg base CX0 2 "is_hue" (spHue K)) : Cal P w K mg base CX0 3 "is_hues" spHues := by
  refine F.cal sc_is_hues (fun vs H Q E h => ?_) (fun f cdv A outer s H vs Q E hr h => ?_)
  · obtain ⟨a, l, rfl, _⟩ := h
    rfl
  · obtain ⟨a, l, rfl, ha, asc, hz, q⟩ := h
    refine ⟨_, (pss_cons (ps_if (PW.pt (pw_or (pt_not (pt_val (pe_callB (cl_isi K) (by rfl) T.z_isinstance (by decide +kernel) (pa_cons (pv 0) (pa_cons (pe_bltn (v := .ty "list") (by rfl) T.z_list (by decide +kernel) rfl) pa_nil))))) (pw_or1 (pt_not (pt_val (pe_callB (cl_all K rfl) (by rfl) T.z_all (by decide +kernel) (pa_cons (pe_lc (own := [("hue", 3)]) (g := gName 3) rfl sc_is_hues.nd (k_pil K (pv 0)) (blkOk_by (own := [("hue", 3)]) (N := ["value", "one", "other", "hue"]) (sc := defScope s_is_hues) (by decide +kernel)) (fun _ _ _ _ _ => (pg_name (i := 3) sc_is_hues.nd rfl (Or.inl rfl))) (fun _ _ _ _ _ => pts_nil) (fun _ _ _ _ _ => (pe_cal c_is_hue hr (by decide) rfl pass0 (pa_cons (pv 3) pa_nil)))) pa_nil)))))))
        (pss_one (ps_ret pe_bl)) pss_nil)
      (pss_one (ps_ret (pe_callB (cl_all K rfl) (by rfl) T.z_all (by decide +kernel) (pa_cons (pe_lc (own := [("one", 1), ("other", 2)]) rfl sc_is_hues.nd (k_zip K (by rfl) T.z_zip (pa_cons (pv 0) (pa_cons (pe_slice (k_sll K) (pv 0) (po_some pe_int) po_none) pa_nil))) (blkOk_by (own := [("one", 1), ("other", 2)]) (N := ["value", "one", "other", "hue"]) (sc := defScope s_is_hues) (by decide +kernel)) (fun _ _ _ _ _ => (k_tup (n := 2) K rfl (pgs_cons (pg_name (i := 1) sc_is_hues.nd rfl (Or.inl rfl)) (pgs_cons (pg_name (i := 2) sc_is_hues.nd rfl (Or.inl rfl)) pgs_nil)))) (fun _ _ _ _ _ => pts_nil) (fun _ _ _ _ _ => (pe_cmpR op_lt (pv 1) (pv 2) (nomark _)))) pa_nil))))), ?_⟩
    walk_at "go"
    intro D hD
    refine x_lwL (xs := nv l) (fun i H1 => Same H H1 ∧ H1 D = some (.lst ((List.replicate i true).map V.bl))) ⟨same_new hD, upd_same⟩ (fun i H1 _ h => sq_l (h.1 _ _ ha)) ?_ ?_
    · rintro i y H1 hi ⟨s1, hD1⟩
      obtain ⟨v, rfl, hv⟩ := of_nv hi
      have hl := (List.getElem?_eq_some_iff.mp hv).1
      walk_at "go"
      refine ⟨_, rfl, .inl ⟨_, rfl, ?_⟩⟩
      rw [decide_eq_true (show (0 : Int) ≤ (v : Int) by omega)]
      refine ⟨_, hD1, sz_lt (by rw [List.length_map, List.length_replicate]; omega), same_mut s1 hD, ?_⟩
      rw [upd_same, rep_snoc3]
    rintro H1 ⟨s1, hD1⟩
    have ha1 := s1 _ _ ha
    walk_at "go"
    refine x_all hD1 (rep_all3 _) ?_
    walk_at "go"
    refine x_zip ?_
    walk_at "go"
    refine x_sl ?_
    walk_at "go"
    refine x_part ?_
    walk_at "go"
    refine x_noPart ?_
    refine x_slFrom (k := 1) ha1 fun z hz => ?_
    rw [nv_drop]
    walk_at "go"
    have ha2 := new_at (o := .lst (nv (l.drop 1))) hz ha1
    have hz2 : (upd H1 z (.lst (nv (l.drop 1)))) z = some (.lst (nv (l.drop 1))) := upd_same
    have s2 := s1.trans (same_new (o := .lst (nv (l.drop 1))) hz)
    generalize upd H1 z (.lst (nv (l.drop 1))) = H2 at *
    refine x_zz ha2 hz2 ?_
    intro D2 hD2
    refine x_lwZ (xs := nv l) (ys := nv (l.drop 1)) (fun i H3 => Same H2 H3 ∧ H3 D2 = some (.lst ((List.replicate i true).map V.bl))) ⟨same_new hD2, upd_same⟩ (fun i H3 h => ⟨sq_l (h.1 _ _ ha2), sq_l (h.1 _ _ hz2)⟩) ?_ ?_
    · rintro i x y T H3 hx hy ⟨s3, hD3⟩ hT
      obtain ⟨a1, rfl, ea⟩ := of_nv hx
      obtain ⟨b1, rfl, eb⟩ := of_nv hy
      have hl := (List.getElem?_eq_some_iff.mp ea).1
      have lt := asc_next asc ea eb
      have hT2 : (upd H3 T (.tup [.int (a1 : Int), .int (b1 : Int)])) T = some (.tup [.int (a1 : Int), .int (b1 : Int)]) := upd_same
      walk_at "go"
      rw [decide_eq_true (show (a1 : Int) < (b1 : Int) by omega)]
      refine ⟨_, new_at hT hD3, sz_lt (by rw [List.length_map, List.length_replicate]; omega), same_mut (s3.trans (same_new hT)) hD2, ?_⟩
      rw [upd_same, rep_snoc3]
    · rintro H3 ⟨s3, hD3⟩
      exact x_all hD3 (rep_all3 _) (q _ (s2.trans s3))
end
abbrev s_check_lists : Stmt := topS 12
theorem sc_check_lists : FnScope ["web", "lists", "row"] ["web", "lists"] (defScope s_check_lists) := ⟨rfl, rfl, rfl, by decide +kernel, rfl, by decide +kernel, by decide +kernel⟩
def spCheck (C CL : Addr) : Sp := fun vs H Q E => ∃ (x la : Addr) (n : Nat) (e : Rel) (vl : List V) (rss : List (List Nat)), vs = [.ref x, .ref la] ∧ WebAt C H x n e ∧ n ≤ 100 ∧ H la = some (.lst vl) ∧ RowL H vl rss ∧ (∀ r ∈ rss, Asc r ∧ r.length ≤ 50000) ∧ rss.length ≤ 50000 ∧
  ((rss.length = n ∧ ∀ H', Same H H' → Q .non H') ∨ (rss.length ≠ n ∧ E (.ref CL) none H))
section
variable {P : Program} {w : World} {K : PySem.W.Frag} {mg : Str → Option Value} {base : Heap}
theorem c_check_lists {C CL : Addr} (T : Tx mg) (X_InvalidLists : Exq K mg "InvalidLists" CL) (F : DefAt K mg "check_lists" s_check_lists ["web", "lists"]) (c_is_hues : Cal P w K mg base CX0 3 "is_hues" spHues) (o_WebD_lenD : Met P w K mg base CX0 1 C "__len__" (spLenW C)) : Cal P w K mg base (L2.CX P w) 4 "check_lists" (spCheck C CL) := by
  refine F.calX sc_check_lists (fun vs H Q E h => ?_) (fun f cdv A outer s H vs Q E hr h => ?_)
  · obtain ⟨x, la, n, e, vl, rss, rfl, _⟩ := h
    rfl
  · obtain ⟨x, la, n, e, vl, rss, rfl, w, hn, hla, hR, hok, hz, q⟩ := h
    obtain ⟨dx, d, brs, hx, _⟩ := id w.ex
    have zl := hR.len
    refine ⟨_, (pss_cons (ps_if (PW.pt (pw_or (pt_not (pt_val (pe_callB (cl_isi K) (by rfl) T.z_isinstance (by decide +kernel) (pa_cons (pv 1) (pa_cons (pe_bltn (v := .ty "list") (by rfl) T.z_list (by decide +kernel) rfl) pa_nil))))) (pw_or1 (pt_cmpR op_ne (pe_callB (cl_len K) (by rfl) T.z_len PySem.boot_len (pa_cons (pv 1) pa_nil)) (pe_callB (call_lenO o_WebD_lenD hr (by decide) pass0) (by rfl) T.z_len PySem.boot_len (pa_cons (pv 0) pa_nil)) (nomark _)))))
        (pss_one (ps_raise rfl (takes_of rfl rfl rfl rfl) (pmk_own PySem.F.excBase_ValueError X_InvalidLists.xc X_InvalidLists.gC X_InvalidLists.kp (raises_own X_InvalidLists.sb X_InvalidLists.ty) (by exact rfl)))) pss_nil)
      (pss_one (ps_for (passes_of rfl) rfl (k_pil K (pv 1)) (pg_name (i := 2) sc_check_lists.nd rfl (Or.inl rfl))
        (pss_one (ps_if (pt_not (pt_val (pe_cal c_is_hues hr (by decide) rfl pass0 (pa_cons (pv 2) pa_nil))))
        (pss_one (ps_raise rfl (takes_of rfl rfl rfl rfl) (pmk_own PySem.F.excBase_ValueError X_InvalidLists.xc X_InvalidLists.gC X_InvalidLists.kp (raises_own X_InvalidLists.sb X_InvalidLists.ty) (by exact rfl)))) pss_nil))))), ?_⟩
    walk_at "go"
    refine ⟨x, _, _, rfl, hx, x, n, e, rfl, w, (n : Int), rfl, by omega, by omega, ?_⟩
    walk_at "go"
    rcases q with ⟨el, q⟩ | ⟨ne, q⟩
    · refine x_iten (fun c => absurd (by omega) c) (fun _ => ?_)
      walk_at "go"
      refine x_fwL (xs := vl) (fun i σ' H' => ∃ y2, σ' = [some (.ref x), some (.ref la), y2] ∧ Same H H') ⟨none, rfl, Same.refl H⟩ (fun i σ' H' _ ⟨_, _, s⟩ => sq_l (s _ _ hla)) ?_ ?_
      · rintro i y _ H1 hi ⟨y2, rfl, s1⟩
        obtain ⟨r, hr1, a, rfl, ha⟩ := A2.get hR hi
        obtain ⟨asc, zr⟩ := hok r (List.mem_of_getElem? hr1)
        walk_at "go"
        refine ⟨a, r, rfl, s1 _ _ ha, asc, zr, fun H2 s2 => ?_⟩
        walk_at "go"
        exact ⟨_, rfl, s1.trans s2⟩
      · rintro _ H1 ⟨y2, rfl, s1⟩
        exact q H1 s1
    · exact x_iten (fun _ => q) (fun c => absurd (by omega) ne)
end
abbrev s_is_colouring : Stmt := topS 13
theorem sc_is_colouring : FnScope ["web", "lists", "value", "hue", "row", "u", "v"] ["web", "lists", "value"] (defScope s_is_colouring) := ⟨rfl, rfl, rfl, by decide +kernel, rfl, by decide +kernel, by decide +kernel⟩
/-- a colouring by the lists -/
structure IsCol (n : Nat) (e : Rel) (rss : List (List Nat)) (cs : List Nat) : Prop where
  len : cs.length = n
  own : ∀ (i c : Nat) (r : List Nat), cs[i]? = some c → rss[i]? = some r → c ∈ r
  tie : ∀ p ∈ tiesOf n e, cs.getD p.1 0 ≠ cs.getD p.2 0
def spCol (C CL : Addr) : Sp := fun vs H Q E => ∃ (x la va : Addr) (n : Nat) (e : Rel) (vl : List V) (rss : List (List Nat)) (cs : List Nat), vs = [.ref x, .ref la, .ref va] ∧ WebAt C H x n e ∧ n ≤ 100 ∧ H la = some (.lst vl) ∧ RowL H vl rss ∧ (∀ r ∈ rss, Asc r ∧ r.length ≤ 50000) ∧ rss.length ≤ 50000 ∧ H va = some (.lst (nv cs)) ∧ cs.length ≤ 50000 ∧
  ((rss.length = n ∧ ∀ b H', (b = true ↔ IsCol n e rss cs) → Same H H' → Q (.bl b) H') ∨ (rss.length ≠ n ∧ E (.ref CL) none H))
theorem tiesOf_len (n : Nat) (e : Rel) (h : n ≤ 100) : (tiesOf n e).length ≤ 10000 := by
  have nd := nodupT (tiesOf_pw n e)
  have sub : ∀ p ∈ tiesOf n e, p ∈ (List.range 100).flatMap fun u => (List.range 100).map fun v => (u, v) := fun p hp => by
    have := mem_tiesOf.mp hp
    rw [List.mem_flatMap]
    exact ⟨p.1, List.mem_range.mpr (by omega), List.mem_map.mpr ⟨p.2, List.mem_range.mpr (by omega), rfl⟩⟩
  have := nd.length_le_of_subset sub
  have e2 : ((List.range 100).flatMap fun u => (List.range 100).map fun v => ((u, v) : Tie)).length = 10000 := by decide +kernel
  omega
theorem getD_of {l : List Nat} {i v : Nat} (h : l[i]? = some v) : l.getD i 0 = v := by rw [List.getD_eq_getElem?_getD, h]; rfl
section
variable {P : Program} {w : World} {K : PySem.W.Frag} {mg : Str → Option Value} {base : Heap}
theorem c_is_colouring {C CL : Addr} (T : Tx mg) (O_Web : Own K mg "Web" C) (F : DefAt K mg "is_colouring" s_is_colouring ["web", "lists", "value"]) (c_check_lists : Cal P w K mg base (L2.CX P w) 4 "check_lists" (spCheck C CL)) (c_is_integer : Cal P w K mg base CX0 1 "is_integer" (spIsInt K)) (o_WebD_lenD : Met P w K mg base CX0 1 C "__len__" (spLenW C)) (p_Web_ties : Prp P w K mg base CX0 1 C "ties" (spTiesW C)) : Cal P w K mg base (L2.CX P w) 5 "is_colouring" (spCol C CL) := by
  refine F.calX sc_is_colouring (fun vs H Q E h => ?_) (fun f cdv A outer s H vs Q E hr h => ?_)
  · obtain ⟨x, la, va, n, e, vl, rss, cs, rfl, _⟩ := h
    rfl
  · obtain ⟨x, la, va, n, e, vl, rss, cs, rfl, w, hn, hla, hR, hok, hz, hva, hzc, q⟩ := h
    obtain ⟨dx, d, brs, hx, _⟩ := id w.ex
    have zl := hR.len
    refine ⟨_, (pss_cons (ps_expr (pe_cal c_check_lists hr (by decide) rfl (passes_call (takes_of rfl rfl rfl rfl) (fun _ _ _ _ h => h)) (pa_cons (pv 0) (pa_cons (pv 1) pa_nil))))
      (pss_cons (ps_if (PW.pt (pw_or (pt_not (pt_val (pe_callB (cl_isi K) (by rfl) T.z_isinstance (by decide +kernel) (pa_cons (pv 2) (pa_cons (pe_bltn (v := .ty "list") (by rfl) T.z_list (by decide +kernel) rfl) pa_nil))))) (pw_or1 (pt_cmpR op_ne (pe_callB (cl_len K) (by rfl) T.z_len PySem.boot_len (pa_cons (pv 2) pa_nil)) (pe_callB (call_lenO o_WebD_lenD hr (by decide) pass0) (by rfl) T.z_len PySem.boot_len (pa_cons (pv 0) pa_nil)) (nomark _)))))
        (pss_one (ps_ret pe_bl)) pss_nil)
      (pss_cons (ps_for (passes_of rfl) rfl (k_zip K (by rfl) T.z_zip (pa_cons (pv 2) (pa_cons (pv 1) pa_nil))) (k_tup (n := 2) K rfl (pgs_cons (pg_name (i := 3) sc_is_colouring.nd rfl (Or.inl rfl)) (pgs_cons (pg_name (i := 4) sc_is_colouring.nd rfl (Or.inl rfl)) pgs_nil)))
        (pss_one (ps_if (PW.pt (pw_or (pt_not (pt_val (pe_cal c_is_integer hr (by decide) rfl pass0 (pa_cons (pv 3) pa_nil)))) (pw_or1 (pt_cmpR (k_nin K) (pv 3) (pv 4) (by first | exact nomark _ | rfl)))))
        (pss_one (ps_ret pe_bl)) pss_nil)))
      (pss_one (ps_ret (pe_callB (cl_all K rfl) (by rfl) T.z_all (by decide +kernel) (pa_cons (pe_lc (own := [("u", 5), ("v", 6)]) rfl sc_is_colouring.nd (k_pil K (pe_prp p_Web_ties O_Web.cl hr (by decide) pass0 (pv 0) rfl)) (blkOk_by (own := [("u", 5), ("v", 6)]) (N := ["web", "lists", "value", "hue", "row", "u", "v"]) (sc := defScope s_is_colouring) (by decide +kernel)) (fun _ _ _ _ _ => (k_tup (n := 2) K rfl (pgs_cons (pg_name (i := 5) sc_is_colouring.nd rfl (Or.inl rfl)) (pgs_cons (pg_name (i := 6) sc_is_colouring.nd rfl (Or.inl rfl)) pgs_nil)))) (fun _ _ _ _ _ => pts_nil) (fun _ _ _ _ _ => (pe_cmpR op_ne (pe_ix (ix_l K) (pv 2) (pv 5) (fun _ _ => rfl)) (pe_ix (ix_l K) (pv 2) (pv 6) (fun _ _ => rfl)) (nomark _)))) pa_nil))))))), ?_⟩
    walk_at "go"
    refine ⟨x, la, n, e, vl, rss, rfl, w, hn, hla, hR, hok, hz, ?_⟩
    rcases q with ⟨el, q⟩ | ⟨ne, q⟩
    · refine .inl ⟨el, fun H1 s1 => ?_⟩
      have hva1 := s1 _ _ hva
      have hx1 := s1 _ _ hx
      walk_at "go"
      refine ⟨x, _, _, rfl, hx1, x, n, e, rfl, w.same s1, (n : Int), rfl, by omega, by omega, ?_⟩
      walk_at "go"
      rw [nv_len]
      refine x_iten (fun c => ?_) (fun c => ?_)
      · walk_at "go"
        refine q false H1 ⟨fun h => (by cases h), fun h => ?_⟩ s1
        have := h.len
        omega
      · walk_at "go"
        refine x_zip ?_
        walk_at "go"
        refine x_zz hva1 (s1 _ _ hla) ?_
        refine x_fwZ (xs := nv cs) (ys := vl) (fun i σ' H' => ∃ y3 y4, σ' = [some (.ref x), some (.ref la), some (.ref va), y3, y4, none, none] ∧ Same H H' ∧ ∀ (j c : Nat) (r : List Nat), j < i → cs[j]? = some c → rss[j]? = some r → c ∈ r)
          ⟨none, none, rfl, s1, fun j _ _ h => absurd h (Nat.not_lt_zero _)⟩ (fun i σ' H' ⟨_, _, _, s, _⟩ => ⟨sq_l (s _ _ hva), sq_l (s _ _ hla)⟩) ?_ ?_
        · rintro i y z Tt _ H2 hy hz2 ⟨y3, y4, rfl, s2, al⟩ hT
          obtain ⟨cc, rfl, hc⟩ := of_nv hy
          obtain ⟨r, hr1, a, rfl, ha⟩ := A2.get hR hz2
          have hT2 : (upd H2 Tt (.tup [.int (cc : Int), .ref a])) Tt = some (.tup [.int (cc : Int), .ref a]) := upd_same
          have s3 := s2.trans (same_new (o := .tup [.int (cc : Int), .ref a]) hT)
          generalize upd H2 Tt (.tup [.int (cc : Int), .ref a]) = H3 at *
          walk_at "go"
          refine x_spInt ?_
          walk_at "go"
          refine x_ninN (s3 _ _ ha) ?_
          walk_at "go"
          refine x_iten (fun c2 => ?_) (fun c2 => ?_)
          · walk_at "go"
            exact q false H3 ⟨fun h => (by cases h), fun h => absurd (h.own i cc r hc hr1) c2⟩ s3
          · walk_at "go"
            refine ⟨_, _, rfl, s3, fun j c' r' hj h1 h2 => ?_⟩
            by_cases ej : j = i
            · subst ej
              rw [hc] at h1
              rw [hr1] at h2
              cases h1
              cases h2
              exact c2
            · exact al j c' r' (by omega) h1 h2
        · rintro _ H2 ⟨y3, y4, rfl, s2, al⟩
          have hm : min (nv cs).length vl.length = n := by rw [nv_len]; omega
          rw [hm] at al
          have hx2 := s2 _ _ hx
          walk_at "go"
          refine ⟨x, n, e, rfl, w.same s2, hn, fun p H3 vt hp s3 hp3 hT => ?_⟩
          have s23 := s2.trans s3
          have zt := tiesOf_len n e hn
          walk_at "go"
          intro D hD
          refine x_lwL (xs := vt) (fun i H4 => Same H3 H4 ∧ H4 D = some (.lst ((((tiesOf n e).take i).map fun p => decide (cs.getD p.1 0 ≠ cs.getD p.2 0)).map V.bl))) ⟨same_new hD, upd_same⟩ (fun i H4 _ h => sq_l (h.1 _ _ hp3)) ?_ ?_
          · rintro i y H4 hi ⟨s4, hD4⟩
            obtain ⟨t, ht, tp, rfl, htp⟩ := hT.get hi
            have htp4 := s4 _ _ htp
            have hva4 := s4 _ _ (s23 _ _ hva)
            have hto := mem_tiesOf.mp (List.mem_of_getElem? ht)
            have g1 : atI (nv cs) (t.1 : Int) = some (.int (cs.getD t.1 0 : Nat)) := by
              refine atI_nat (nv_at ?_)
              rw [List.getD_eq_getElem?_getD, List.getElem?_eq_getElem (by omega)]
              rfl
            have g2 : atI (nv cs) (t.2 : Int) = some (.int (cs.getD t.2 0 : Nat)) := by
              refine atI_nat (nv_at ?_)
              rw [List.getD_eq_getElem?_getD, List.getElem?_eq_getElem (by omega)]
              rfl
            walk_at "go"
            have etk : (tiesOf n e).take (i + 1) = (tiesOf n e).take i ++ [t] := by rw [List.take_add_one, ht]; rfl
            refine ⟨_, hD4, sz_lt (by rw [List.length_map, List.length_map, List.length_take]; omega), same_mut s4 hD, ?_⟩
            rw [upd_same, etk, List.map_append, List.map_append]
            have eb : (!decide ((cs.getD t.1 0 : Int) = (cs.getD t.2 0 : Int))) = decide (cs.getD t.1 0 ≠ cs.getD t.2 0) := by
              rw [← decide_not, decide_eq_decide]
              omega
            rw [eb]
            rfl
          · rintro H4 ⟨s4, hD4⟩
            rw [hT.len, List.take_length] at hD4
            refine x_all (b := (tiesOf n e).all fun p => decide (cs.getD p.1 0 ≠ cs.getD p.2 0)) hD4 (by rw [List.all_map]; rfl) (q _ H4 ?_ (s23.trans s4))
            rw [List.all_eq_true]
            constructor
            · intro h
              refine ⟨by omega, fun i c r h1 h2 => al i c r (by have := (List.getElem?_eq_some_iff.mp h1).1; omega) h1 h2, fun p hp => by simpa using h p hp⟩
            · intro h p hp
              rw [decide_eq_true_eq]
              exact h.tie p hp
    · exact .inr ⟨ne, q⟩
end
/-! ### drawn lists of hues -/
def spPool : Sp := fun vs H Q _ => ∃ (u : Addr) (m n : Nat), vs = [.ref u, .int (m : Int)] ∧ m ≤ 1000 ∧ UrnZ H u (n + 10) ∧ ∀ p H' l, H p = none → Keep u H H' → UrnZ H' u n → H' p = some (.lst (nv l)) → Asc l → l.length = m → Q (.ref p) H'
abbrev s_l_pool : Stmt := topS 19
theorem sc_l_pool : FnScope ["urn", "many", "start", "step", "k"] ["urn", "many"] (defScope s_l_pool) := ⟨rfl, rfl, rfl, by decide +kernel, rfl, by decide +kernel, by decide +kernel⟩
theorem nv_snoc (l : List Nat) (v : Nat) : nv l ++ [V.int (v : Int)] = nv (l ++ [v]) := by
  unfold nv
  rw [List.map_append]
  rfl
theorem pool_asc (st sp m : Nat) (h : 0 < sp) : Asc ((List.range m).map fun k => st + k * sp) := by
  refine List.pairwise_map.mpr (List.pairwise_lt_range.imp fun {a b} h2 => ?_)
  have : a * sp < b * sp := Nat.mul_lt_mul_of_pos_right h2 h
  omega
section
variable {P : Program} {w : World} {K : PySem.W.Frag} {mg : Str → Option Value} {base : Heap}
theorem c_l_pool (T : Tx mg) (F : DefAt K mg "_law_pool" s_l_pool ["urn", "many"]) (c_l_pick : Cal P w K mg base CX0 1 "_law_pick" spPick) : Cal P w K mg base CX0 2 "_law_pool" spPool := by
  refine F.cal sc_l_pool (fun vs H Q E h => ?_) (fun f cdv A outer s H vs Q E hr h => ?_)
  · obtain ⟨u, m, n, rfl, _⟩ := h
    rfl
  · obtain ⟨u, m, n, rfl, hm, hu, q⟩ := h
    refine ⟨_, (pss_cons (ps_set (i := 2) sc_l_pool.nd rfl (Or.inr rfl) (pe_ix (ix_l K) (pe_lst (pa_cons pe_int (pa_cons pe_int (pa_cons (pe_cal c_l_pick hr (by decide) rfl pass0 (pa_cons (pv 0) (pa_cons (pe_op op_mul pe_int (pe_op op_pow pe_int pe_int)) pa_nil))) pa_nil)))) (pe_cal c_l_pick hr (by decide) rfl pass0 (pa_cons (pv 0) (pa_cons pe_int pa_nil))) (fun _ _ => rfl)))
      (pss_cons (ps_set (i := 3) sc_l_pool.nd rfl (Or.inr rfl) (pe_op op_add pe_int (pe_cal c_l_pick hr (by decide) rfl pass0 (pa_cons (pv 0) (pa_cons (pe_ix (ix_l K) (pe_lst (pa_cons pe_int (pa_cons pe_int (pa_cons (pe_op op_pow pe_int pe_int) pa_nil)))) (pe_cal c_l_pick hr (by decide) rfl pass0 (pa_cons (pv 0) (pa_cons pe_int pa_nil))) (fun _ _ => rfl)) pa_nil)))))
      (pss_one (ps_ret (pe_lc (own := [("k", 4)]) (g := gName 4) rfl sc_l_pool.nd (pi_range1 rfl T.z_range (pa_cons (pv 1) pa_nil)) (blkOk_by (own := [("k", 4)]) (N := ["urn", "many", "start", "step", "k"]) (sc := defScope s_l_pool) (by decide +kernel)) (fun _ _ _ _ _ => (pg_name (i := 4) sc_l_pool.nd rfl (Or.inl rfl))) (fun _ _ _ _ _ => pts_nil) (fun _ _ _ _ _ => (pe_op op_add (pv 2) (pe_op op_mul (pv 4) (pv 3))))))))), ?_⟩
    walk_at "go"
    refine x_pick (n + 9) (by decide) (by decide) hu fun r0 H1 r00 r01 k1 u1 => ?_
    walk_at "go"
    refine x_sz (by show 3 ≤ 100000; decide) fun l1 hl1 => ?_
    have ul1 := u1.ne hl1
    have k1' := keep_new (o := .lst [.int 0, .int 1, .int r0]) k1 hl1
    have u1' := u1.upd (o := .lst [.int 0, .int 1, .int r0]) ul1
    walk_at "go"
    refine x_pick (n + 8) (by decide) (by decide) u1' fun r1 H2 r10 r11 k2 u2 => ?_
    obtain ⟨st, ea, _⟩ : ∃ st : Nat, atI [V.int 0, V.int 1, V.int r0] r1 = some (.int (st : Int)) ∧ True := by
      have h4 : r1 = 0 ∨ r1 = 1 ∨ r1 = 2 := by omega
      rcases h4 with e | e | e <;> rw [e]
      · exact ⟨0, rfl, trivial⟩
      · exact ⟨1, rfl, trivial⟩
      · exact ⟨r0.toNat, by rw [Int.toNat_of_nonneg r00]; rfl, trivial⟩
    have hl2 : H2 l1 = some (.lst [.int 0, .int 1, .int r0]) := k2.at upd_same ul1.symm
    have k02 := k1'.trans k2
    walk_at "go"
    refine x_sz (by show 3 ≤ 100000; decide) fun l2 hl2 => ?_
    have ul2 := u2.ne hl2
    have k2' := keep_new (o := .lst [.int 1, .int 9, .int (10 ^ Int.toNat 7)]) k02 hl2
    have u2' := u2.upd (o := .lst [.int 1, .int 9, .int (10 ^ Int.toNat 7)]) ul2
    walk_at "go"
    refine x_pick (n + 7) (by decide) (by decide) u2' fun r2 H3 r20 r21 k3 u3 => ?_
    obtain ⟨m2, eb, m20, m21⟩ : ∃ m2 : Int, atI [V.int 1, V.int 9, V.int (10 ^ Int.toNat 7)] r2 = some (.int m2) ∧ 0 < m2 ∧ m2 < 2 ^ 30 := by
      have h4 : r2 = 0 ∨ r2 = 1 ∨ r2 = 2 := by omega
      rcases h4 with e | e | e <;> rw [e]
      · exact ⟨1, rfl, by decide, by decide⟩
      · exact ⟨9, rfl, by decide, by decide⟩
      · exact ⟨10 ^ Int.toNat 7, rfl, by decide, by decide⟩
    have hl3 : H3 l2 = some (.lst [.int 1, .int 9, .int (10 ^ Int.toNat 7)]) := k3.at upd_same ul2.symm
    have k03 := k2'.trans k3
    walk_at "go"
    refine x_pick (n + 6) m20 m21 u3 fun r3 H4 r30 r31 k4 u4 => ?_
    have k04 := k03.trans k4
    obtain ⟨sp, rfl⟩ := Int.eq_ofNat_of_zero_le r30
    walk_at "go"
    intro D hD
    have uD := u4.ne hD
    refine x_lwR0 (fun i H5 => Keep u H H5 ∧ UrnZ H5 u n ∧ H5 D = some (.lst (nv ((List.range i).map fun k => st + k * (1 + sp))))) ⟨keep_new k04 hD, (u4.upd uD).mono (by omega), upd_same⟩ ?_ ?_
    · rintro i H5 hi ⟨k5, u5, hD5⟩
      walk_at "go"
      refine ⟨_, hD5, sz_lt (by rw [nv_len, List.length_map, List.length_range]; omega), keep_mut k5 (k04.free u4 hD), u5.upd uD, ?_⟩
      have e : (st : Int) + (i : Int) * (1 + (sp : Int)) = ((st + i * (1 + sp) : Nat) : Int) := by simp
      rw [upd_same, e, nv_snoc, List.range_succ, List.map_append]
      rfl
    · rintro H5 ⟨k5, u5, hD5⟩
      rw [show (m : Int).toNat = m by omega] at hD5
      exact q D H5 _ (k04.free u4 hD) k5 u5 hD5 (pool_asc _ _ _ (by omega)) (by rw [List.length_map, List.length_range])
end
def spRow : Sp := fun vs H Q _ => ∃ (u t : Addr) (l : List Nat) (sz n : Nat), vs = [.ref u, .ref t, .int (sz : Int)] ∧ H t = some (.lst (nv l)) ∧ t ≠ u ∧ l.Nodup ∧ l.length ≤ 1000 ∧ UrnZ H u (n + l.length) ∧ ∀ p H' r, H p = none → Keep u H H' → UrnZ H' u n → H' p = some (.lst (nv r)) → Asc r → r.length ≤ sz → (∀ v ∈ r, v ∈ l) → Q (.ref p) H'
abbrev s_l_row : Stmt := topS 20
theorem sc_l_row : FnScope ["urn", "pool", "size"] ["urn", "pool", "size"] (defScope s_l_row) := ⟨rfl, rfl, rfl, by decide +kernel, rfl, by decide +kernel, by decide +kernel⟩
section
variable {P : Program} {w : World} {K : PySem.W.Frag} {mg : Str → Option Value} {base : Heap}
theorem x_slTake' {K : PySem.W.Frag} {H : Hp} {Q : VK} {a : Addr} {xs : List V} {k : Nat} (s : H a = some (.lst xs)) (h : ∀ p, H p = none → Q (.ref p) (upd H p (.lst (xs.take k)))) : rSlL K (.ref a) none (some (k : Int)) H Q := by
  refine ⟨a, xs, rfl, sq_l s, fun p hp => ?_⟩
  have e : cutV xs none (some (k : Int)) = xs.take k := by
    have h0 : HT.sIx xs.length 0 none = 0 := rfl
    unfold cutV
    rw [h0, HT.sIx_nat, List.drop_zero, Nat.sub_zero]
    by_cases c : k ≤ xs.length
    · rw [Nat.min_eq_left c]
    · rw [Nat.min_eq_right (by omega), List.take_length, List.take_of_length_le (by omega)]
  rw [e]
  exact h p hp
theorem c_l_row (T : Tx mg) (F : DefAt K mg "_law_row" s_l_row ["urn", "pool", "size"]) (c_l_shuffled : Cal P w K mg base CX0 2 "_law_shuffled" spShuf) : Cal P w K mg base CX0 3 "_law_row" spRow := by
  refine F.cal sc_l_row (fun vs H Q E h => ?_) (fun f cdv A outer s H vs Q E hr h => ?_)
  · obtain ⟨u, t, l, sz, n, rfl, _⟩ := h
    rfl
  · obtain ⟨u, t, l, sz, n, rfl, ht, tu, nd, hl, hu, q⟩ := h
    refine ⟨_, (pss_one (ps_ret (pe_callB (cl_sortedI K) (by rfl) T.z_sorted (by decide +kernel) (pa_cons (pe_slice (k_sll K) (pe_cal c_l_shuffled hr (by decide) rfl pass0 (pa_cons (pv 0) (pa_cons (pv 1) pa_nil))) po_none (po_some (pv 2))) pa_nil)))), ?_⟩
    walk_at "go"
    refine x_sl ?_
    walk_at "go"
    refine ⟨u, t, nv l, n, rfl, ht, tu, by rw [nv_len]; omega, by rw [nv_len]; exact hu, fun p H1 ys hp k1 u1 hp1 pm => ?_⟩
    obtain ⟨m, pm2, rfl⟩ := perm_nv pm
    walk_at "go"
    refine x_noPart ?_
    refine x_part ?_
    walk_at "go"
    refine x_slTake' hp1 fun z hz => ?_
    rw [nv_take]
    have hz2 : (upd H1 z (.lst (nv (m.take sz)))) z = some (.lst (nv (m.take sz))) := upd_same
    walk_at "go"
    have zu := u1.ne hz
    refine x_sortedN hz2 ((pm2.nodup_iff.mpr nd).sublist (List.take_sublist _ _)) fun r b pr srt hb => ?_
    refine q b _ r ?_ (keep_new (keep_new k1 hz) hb) ((u1.upd zu).upd ((u1.upd zu).ne hb)) upd_same srt ?_ ?_
    · have := (keep_new (o := .lst (nv (m.take sz))) k1 hz)
      exact this.free (u1.upd zu) hb
    · rw [pr.length_eq, List.length_take]
      omega
    · intro v hv
      exact pm2.mem_iff.mp (List.mem_of_mem_take (pr.mem_iff.mp hv))
end
/-- lists of hues, one for each place, apart from the urn -/
def RowU (u D : Addr) (H : Hp) (v : V) (r : List Nat) : Prop := ∃ a, v = .ref a ∧ a ≠ u ∧ a ≠ D ∧ H a = some (.lst (nv r))
abbrev RowsU (u D : Addr) (H : Hp) (vs : List V) (rss : List (List Nat)) : Prop := A2 (RowU u D H) vs rss
section
variable {u D : Addr} {H H' : Hp} {vs : List V} {rss : List (List Nat)}
theorem RowsU.keep (h : RowsU u D H vs rss) (k : Keep u H H') : RowsU u D H' vs rss := h.imp fun _ _ ⟨a, e, h1, h2, h3⟩ => ⟨a, e, h1, h2, k.at h3 h1⟩
theorem RowsU.upd {o : HO} (h : RowsU u D H vs rss) : RowsU u D (upd H D o) vs rss := h.imp fun _ _ ⟨a, e, h1, h2, h3⟩ => ⟨a, e, h1, h2, upd_at h2 h3⟩
theorem RowsU.rowL (h : RowsU u D H vs rss) : RowL H vs rss := h.imp fun _ _ ⟨a, e, _, _, h3⟩ => ⟨a, e, h3⟩
theorem RowL.keep {us : List V} (h : RowL H vs rss) (k : Keep u H H') (hu : ∀ v ∈ vs, v ≠ .ref u) : RowL H' vs rss := by
  induction h with
  | nil => exact .nil
  | cons r _ ih =>
    obtain ⟨a, rfl, ha⟩ := r
    have ne : a ≠ u := fun e => hu _ (List.mem_cons_self ..) (by rw [e])
    exact .cons ⟨a, rfl, k.at ha ne⟩ (ih fun v hv => hu v (List.mem_cons_of_mem _ hv))
end
def spLists : Sp := fun vs H Q _ => ∃ (u : Addr) (m mo n : Nat), vs = [.ref u, .int (m : Int), .int (mo : Int)] ∧ m ≤ 100 ∧ mo ≤ 10 ∧ UrnZ H u (n + 100 + m * 100) ∧
  ∀ D H' vl rss, H D = none → Keep u H H' → UrnZ H' u n → H' D = some (.lst vl) → RowsU u D H' vl rss → rss.length = m → (∀ r ∈ rss, Asc r ∧ r.length ≤ mo) → Q (.ref D) H'
abbrev s_l_lists : Stmt := topS 21
theorem sc_l_lists : FnScope ["urn", "places", "most", "pool", "alike", "rows", "place", "size"] ["urn", "places", "most"] (defScope s_l_lists) := ⟨rfl, rfl, rfl, by decide +kernel, rfl, by decide +kernel, by decide +kernel⟩
section
variable {P : Program} {w : World} {K : PySem.W.Frag} {mg : Str → Option Value} {base : Heap}
theorem c_l_lists (T : Tx mg) (F : DefAt K mg "_law_lists" s_l_lists ["urn", "places", "most"]) (c_l_pick : Cal P w K mg base CX0 1 "_law_pick" spPick) (c_l_pool : Cal P w K mg base CX0 2 "_law_pool" spPool) (c_l_row : Cal P w K mg base CX0 3 "_law_row" spRow) : Cal P w K mg base CX0 4 "_law_lists" spLists := by
  refine F.cal sc_l_lists (fun vs H Q E h => ?_) (fun f cdv A outer s H vs Q E hr h => ?_)
  · obtain ⟨u, m, mo, n, rfl, _⟩ := h
    rfl
  · obtain ⟨u, m, mo, n, rfl, hm, hmo, hu, q⟩ := h
    refine ⟨_, (pss_cons (ps_set (i := 3) sc_l_lists.nd rfl (Or.inl rfl) (pe_cal c_l_pool hr (by decide) rfl pass0 (pa_cons (pv 0) (pa_cons (pe_op op_add (pv 2) (pe_cal c_l_pick hr (by decide) rfl pass0 (pa_cons (pv 0) (pa_cons pe_int pa_nil)))) pa_nil))))
      (pss_cons (ps_set (i := 4) sc_l_lists.nd rfl (Or.inl rfl) (pe_cal c_l_pick hr (by decide) rfl pass0 (pa_cons (pv 0) (pa_cons pe_int pa_nil))))
      (pss_cons (ps_set (i := 5) sc_l_lists.nd rfl (Or.inl rfl) (pe_lst pa_nil))
      (pss_cons (ps_for PassesOwn.never rfl (pi_range1 rfl T.z_range (pa_cons (pv 1) pa_nil)) (pg_name (i := 6) sc_l_lists.nd rfl (Or.inl rfl))
        (pss_cons (ps_set (i := 7) sc_l_lists.nd rfl (Or.inl rfl) (pv 2))
      (Evl.pss_cut (ps_if (pt_cmpR op_eq (pe_cal c_l_pick hr (by decide) rfl pass0 (pa_cons (pv 0) (pa_cons pe_int pa_nil))) pe_int (nomark _))
        (pss_one (ps_set (i := 7) sc_l_lists.nd rfl (Or.inl rfl) (pe_cal c_l_pick hr (by decide) rfl pass0 (pa_cons (pv 0) (pa_cons (pe_op op_add (pv 2) pe_int) pa_nil))))) pss_nil)
      (pss_one (ps_if (PW.pt (pw_and (pt_cmpR op_gt (pv 6) pe_int (nomark _)) (pw_and1 (pt_cmpR op_lt (pe_cal c_l_pick hr (by decide) rfl pass0 (pa_cons (pv 0) (pa_cons pe_int pa_nil))) (pv 4) (nomark _)))))
        (pss_one (ps_expr (k_bm K PySem.F.plainAttrs_list PySem.F.slot_list_append PySem.F.type_list_append mt_append (pv 5) (pa_cons (pe_callTy (cl_listOf K) (by rfl) T.z_list (by decide +kernel) (pa_cons (pe_ix (ix_l K) (pv 5) (pe_cal c_l_pick hr (by decide) rfl pass0 (pa_cons (pv 0) (pa_cons (pv 6) pa_nil))) (fun _ _ => rfl)) pa_nil)) pa_nil)))) (pss_one (ps_expr (k_bm K PySem.F.plainAttrs_list PySem.F.slot_list_append PySem.F.type_list_append mt_append (pv 5) (pa_cons (pe_cal c_l_row hr (by decide) rfl pass0 (pa_cons (pv 0) (pa_cons (pv 3) (pa_cons (pv 7) pa_nil)))) pa_nil)))))))))
      (pss_one (ps_ret (pv 5))))))), ?_⟩
    walk_at "go"
    refine x_pick (n + 99 + m * 100) (by decide) (by decide) (hu.mono (by omega)) fun r0 H1 r00 r01 k1 u1 => ?_
    obtain ⟨r0, rfl⟩ := Int.eq_ofNat_of_zero_le r00
    have ea : (mo : Int) + (r0 : Int) = ((mo + r0 : Nat) : Int) := by omega
    walk_at "go"
    rw [ea]
    refine ⟨u, mo + r0, n + 89 + m * 100, rfl, by omega, u1.mono (by omega), fun po H2 pl hpo k2 u2 hpo2 pasc plen => ?_⟩
    have pou : po ≠ u := (u1.ne hpo).symm
    have pnd := nodup_of_lt pasc
    walk_at "go"
    refine x_pick (n + 88 + m * 100) (by decide) (by decide) (u2.mono (by omega)) fun al H3 al0 al1 k3 u3 => ?_
    walk_at "go"
    refine x_sz (by decide) fun D hD => ?_
    have k03 := (k1.trans k2).trans k3
    have hpo3 := k3.at hpo2 pou
    have uD := u3.ne hD
    have D0 : H D = none := k03.free u3 hD
    have poD : po ≠ D := ne_of_none hpo3 hD
    walk_at "go"
    refine x_fwR0 (fun i σ' H' => ∃ y6 y7 vl rss, σ' = [some (.ref u), some (.int (m : Int)), some (.int (mo : Int)), some (.ref po), some (.int al), some (.ref D), y6, y7] ∧ Keep u H H' ∧ UrnZ H' u (n + (m - i) * 100) ∧ H' po = some (.lst (nv pl)) ∧ H' D = some (.lst vl) ∧ RowsU u D H' vl rss ∧ rss.length = i ∧ ∀ r ∈ rss, Asc r ∧ r.length ≤ mo)
      ⟨none, none, [], [], rfl, keep_new k03 hD, (u3.upd uD).mono (by omega), new_at hD hpo3, upd_same, .nil, rfl, by simp⟩ ?_ ?_
    · rintro i _ H4 hi ⟨y6, y7, vl, rss, rfl, k4, u4, hpo4, hD4, hR4, hlen, hok⟩
      have zl := hR4.len
      have e100 : (m - i) * 100 = (m - (i + 1)) * 100 + 100 := by omega
      rw [e100] at u4
      walk_at "go"
      refine x_cut (fun σ' H' => ∃ sz : Nat, σ' = [some (.ref u), some (.int (m : Int)), some (.int (mo : Int)), some (.ref po), some (.int al), some (.ref D), some (.int (i : Int)), some (.int (sz : Int))] ∧ Keep u H4 H' ∧ UrnZ H' u (n + (m - (i + 1)) * 100 + 90) ∧ sz ≤ mo) ?_ ?_
      · walk_at "go"
        refine x_pick (n + (m - (i + 1)) * 100 + 99) (by decide) (by decide) (u4.mono (by omega)) fun r1 H5 r10 r11 k5 u5 => ?_
        walk_at "go"
        refine x_ite (fun c => ?_) (fun c => ?_)
        · walk_at "go"
          refine x_pick (n + (m - (i + 1)) * 100 + 98) (by omega) (by omega) (u5.mono (by omega)) fun r2 H6 r20 r21 k6 u6 => ?_
          obtain ⟨r2, rfl⟩ := Int.eq_ofNat_of_zero_le r20
          walk_at "go"
          exact ⟨r2, rfl, k5.trans k6, u6.mono (by omega), by omega⟩
        · walk_at "go"
          exact ⟨mo, rfl, k5, u5.mono (by omega), Nat.le_refl _⟩
      rintro _ H5 ⟨sz, rfl, k5, u5, hsz⟩
      have k05 := k4.trans k5
      have hpo5 := k5.at hpo4 pou
      have hD5 := k5.at hD4 uD.symm
      have hR5 := hR4.keep k5
      walk_at "go"
      refine x_ite (fun c => ?_) (fun c => ?_)
      · walk_at "go"
        refine x_pick (n + (m - (i + 1)) * 100 + 89) (by decide) (by decide) u5 fun r2 H6 r20 r21 k6 u6 => ?_
        have k06 := k05.trans k6
        have hpo6 := k6.at hpo5 pou
        have hD6 := k6.at hD5 uD.symm
        have hR6 := hR5.keep k6
        walk_at "go"
        refine x_ite (fun c2 => ?_) (fun c2 => ?_)
        · walk_at "go"
          refine x_pick (n + (m - (i + 1)) * 100 + 88) (by omega) (by omega) (u6.mono (by omega)) fun j H7 j0 j1 k7 u7 => ?_
          obtain ⟨j, rfl⟩ := Int.eq_ofNat_of_zero_le j0
          have k07 := k06.trans k7
          have hpo7 := k7.at hpo6 pou
          have hD7 := k7.at hD6 uD.symm
          have hR7 := hR6.keep k7
          have ej : vl[j]? = some vl[j] := List.getElem?_eq_getElem (by omega)
          obtain ⟨r, hr1, a, ea, au, aD, ha⟩ := A2.get hR7 ej
          have g1 : atI vl (j : Int) = some (.ref a) := by
            refine atI_nat ?_
            rw [ej, ea]
          have zv : vl.length < 100000 := by omega
          walk_at "go"
          refine x_listOf ha fun p hp => ?_
          have pu : p ≠ u := (u7.ne hp).symm
          have pD : p ≠ D := (ne_of_none hD7 hp).symm
          have hD8 := new_at (o := .lst (nv r)) hp hD7
          walk_at "go"
          refine ⟨_, _, vl ++ [V.ref p], rss ++ [r], rfl, keep_mut (keep_new k07 hp) D0, ((u7.upd pu.symm).upd uD).mono (by omega), upd_at poD (new_at hp hpo7), upd_same, (RowsU.upd (hR7.keep (keep_new (Keep.refl _) hp))).snoc ⟨p, rfl, pu, pD, upd_at pD upd_same⟩, by rw [List.length_append]; show rss.length + 1 = _; omega, fun x hx => ?_⟩
          rcases List.mem_append.mp hx with h | h
          · exact hok x h
          · rw [List.mem_singleton.mp h]
            exact hok r (List.mem_of_getElem? hr1)
        · walk_at "go"
          refine ⟨u, po, pl, sz, n + (m - (i + 1)) * 100 + 1, rfl, hpo6, pou, pnd, by omega, u6.mono (by omega), fun p H7 r hp k7 u7 hp7 asc zr _ => ?_⟩
          have hD7 := k7.at hD6 uD.symm
          have zv : vl.length < 100000 := by omega
          have pu : p ≠ u := (u6.ne hp).symm
          have pD : p ≠ D := (ne_of_none hD6 hp).symm
          walk_at "go"
          refine ⟨_, _, vl ++ [V.ref p], rss ++ [r], rfl, keep_mut (k06.trans k7) D0, (u7.upd uD).mono (by omega), upd_at poD (k7.at hpo6 pou), upd_same, (RowsU.upd (hR6.keep k7)).snoc ⟨p, rfl, pu, pD, upd_at pD hp7⟩, by rw [List.length_append]; show rss.length + 1 = _; omega, fun x hx => ?_⟩
          rcases List.mem_append.mp hx with h | h
          · exact hok x h
          · rw [List.mem_singleton.mp h]
            exact ⟨asc, by omega⟩
      · walk_at "go"
        refine ⟨u, po, pl, sz, n + (m - (i + 1)) * 100 + 1, rfl, hpo5, pou, pnd, by omega, u5.mono (by omega), fun p H7 r hp k7 u7 hp7 asc zr _ => ?_⟩
        have hD7 := k7.at hD5 uD.symm
        have zv : vl.length < 100000 := by omega
        have pu : p ≠ u := (u5.ne hp).symm
        have pD : p ≠ D := (ne_of_none hD5 hp).symm
        walk_at "go"
        refine ⟨_, _, vl ++ [V.ref p], rss ++ [r], rfl, keep_mut (k05.trans k7) D0, (u7.upd uD).mono (by omega), upd_at poD (k7.at hpo5 pou), upd_same, (RowsU.upd (hR5.keep k7)).snoc ⟨p, rfl, pu, pD, upd_at pD hp7⟩, by rw [List.length_append]; show rss.length + 1 = _; omega, fun x hx => ?_⟩
        rcases List.mem_append.mp hx with h | h
        · exact hok x h
        · rw [List.mem_singleton.mp h]
          exact ⟨asc, by omega⟩
    · rintro _ H4 ⟨y6, y7, vl, rss, rfl, k4, u4, hpo4, hD4, hR4, hlen, hok⟩
      walk_at "go"
      exact q D H4 vl rss D0 k4 (u4.mono (by omega)) hD4 hR4 hlen hok
end
def spCopies : Sp := fun vs H Q _ => ∃ (la : Addr) (vl : List V) (rss : List (List Nat)), vs = [.ref la] ∧ H la = some (.lst vl) ∧ RowL H vl rss ∧ rss.length ≤ 50000 ∧ ∀ D H' rows, LL H H' D rows rss → Q (.ref D) H'
abbrev s_l_copies : Stmt := topS 22
theorem sc_l_copies : FnScope ["rows", "row"] ["rows"] (defScope s_l_copies) := ⟨rfl, rfl, rfl, by decide +kernel, rfl, by decide +kernel, by decide +kernel⟩
section
variable {P : Program} {w : World} {K : PySem.W.Frag} {mg : Str → Option Value} {base : Heap}
theorem c_l_copies (T : Tx mg) (F : DefAt K mg "_law_copies" s_l_copies ["rows"]) : Cal P w K mg base CX0 1 "_law_copies" spCopies := by
  refine F.cal sc_l_copies (fun vs H Q E h => ?_) (fun f cdv A outer s H vs Q E hr h => ?_)
  · obtain ⟨la, vl, rss, rfl, _⟩ := h
    rfl
  · obtain ⟨la, vl, rss, rfl, hla, hR, hz, q⟩ := h
    have zl := hR.len
    refine ⟨_, (pss_one (ps_ret (pe_lc (own := [("row", 1)]) (g := gName 1) rfl sc_l_copies.nd (k_pil K (pv 0)) (blkOk_by (own := [("row", 1)]) (N := ["rows", "row"]) (sc := defScope s_l_copies) (by decide +kernel)) (fun _ _ _ _ _ => (pg_name (i := 1) sc_l_copies.nd rfl (Or.inl rfl))) (fun _ _ _ _ _ => pts_nil) (fun _ _ _ _ _ => (pe_callTy (cl_listOf K) (by rfl) T.z_list (by decide +kernel) (pa_cons (pv 1) pa_nil)))))), ?_⟩
    walk_at "go"
    intro D hD
    refine x_lwL (xs := vl) (fun i H1 => ∃ rows, LL H H1 D rows (rss.take i)) ⟨[], LL.nil hD⟩ (fun i H1 _ ⟨_, h⟩ => sq_l (h.sm _ _ hla)) ?_ ?_
    · rintro i y H1 hi ⟨rows, L⟩
      have hl := (List.getElem?_eq_some_iff.mp hi).1
      obtain ⟨r, hr1, a, rfl, ha⟩ := A2.get (hR.same L.sm) hi
      have hD1 := L.hD
      have zr := L.len
      rw [List.length_take] at zr
      have etk : rss.take (i + 1) = rss.take i ++ [r] := by rw [List.take_add_one, hr1]; rfl
      walk_at "go"
      refine x_listOf ha fun p hp => ?_
      walk_at "go"
      refine ⟨_, new_at hp hD1, sz_lt (by rw [List.length_map]; omega), rows ++ [p], ?_⟩
      rw [etk]
      exact L.new hp
    · rintro H1 ⟨rows, L⟩
      rw [zl, List.take_length] at L
      exact q D H1 rows L
end
def spRefused (C : Addr) : Sp := fun vs H Q _ => ∃ (x la : Addr) (n : Nat) (e : Rel) (vl : List V) (rss : List (List Nat)), vs = [.ref x, .ref la] ∧ WebAt C H x n e ∧ n ≤ 100 ∧ H la = some (.lst vl) ∧ RowL H vl rss ∧ (∀ r ∈ rss, Asc r ∧ r.length ≤ 50000) ∧ rss.length ≤ 50000 ∧ rss.length ≠ n ∧ Q (.bl true) H
abbrev s_l_refused : Stmt := topS 23
theorem sc_l_refused : FnScope ["built", "rows", "caught"] ["built", "rows"] (defScope s_l_refused) := ⟨rfl, rfl, rfl, by decide +kernel, rfl, by decide +kernel, by decide +kernel⟩
section
variable {P : Program} {w : World} {K : PySem.W.Frag} {mg : Str → Option Value} {base : Heap}
theorem c_l_refused {C CL : Addr} (T : Tx mg) (X_InvalidLists : Exq K mg "InvalidLists" CL) (F : DefAt K mg "_law_refused" s_l_refused ["built", "rows"]) (c_check_lists : Cal P w K mg base (L2.CX P w) 4 "check_lists" (spCheck C CL)) : Cal P w K mg base CX0 5 "_law_refused" (spRefused C) := by
  refine F.cal sc_l_refused (fun vs H Q E h => ?_) (fun f cdv A outer s H vs Q E hr h => ?_)
  · obtain ⟨x, la, n, e, vl, rss, rfl, _⟩ := h
    rfl
  · obtain ⟨x, la, n, e, vl, rss, rfl, w, hn, hla, hR, hok, hz, ne, q⟩ := h
    refine ⟨_, (pss_cons (ps_set (i := 2) sc_l_refused.nd rfl (Or.inl rfl) pe_bl)
      (pss_cons (ps_try_only rfl rfl ⟨rfl, by decide, Or.inl X_InvalidLists.gC⟩ takes0 (fun W pn xe tk po => (pss_one (ps_expr (pe_calS c_check_lists hr (by decide) rfl (fun σ => passAt tk σ) (pa_cons (pv 0) (pa_cons (pv 1) pa_nil)))))) (fun _ _ _ _ _ _ _ => (pss_one (ps_set (i := 2) sc_l_refused.nd rfl (Or.inl rfl) pe_bl))))
      (pss_one (ps_ret (pv 2))))), ?_⟩
    walk_at "go"
    refine x_callS ?_
    walk_at "go"
    refine ⟨x, la, n, e, vl, rss, rfl, w, hn, hla, hR, hok, hz, .inr ⟨ne, ?_⟩⟩
    refine ⟨true, exm_sub X_InvalidLists X_InvalidLists.sf, fun _ a ha => ?_, fun h => nomatch h⟩
    walk_at "go"
    exact q
end
/-! ### the law -/
def spRight : Sp := fun vs H Q _ => ∃ (u : Addr), vs = [.ref u] ∧ UrnZ H u (2 ^ 40) ∧ ∀ H', Keep u H H' → Q (.bl true) H'
theorem isCol_nil {n : Nat} {e : Rel} {rss : List (List Nat)} : IsCol n e rss [] ↔ n = 0 := by
  constructor
  · intro h
    exact h.len.symm
  · rintro rfl
    exact ⟨rfl, fun i c r h => by simp at h, fun p hp => by simp [tiesOf] at hp⟩
abbrev s_l_right : Stmt := topS 24
theorem sc_l_right : FnScope ["urn", "places", "ties", "rows", "built", "passed", "turn"] ["urn"] (defScope s_l_right) := ⟨rfl, rfl, rfl, by decide +kernel, rfl, by decide +kernel, by decide +kernel⟩
section
variable {P : Program} {w : World} {K : PySem.W.Frag} {mg : Str → Option Value} {base : Heap}
theorem c_l_right {C CL : Addr} (T : Tx mg) (O_Web : Own K mg "Web" C) (F : DefAt K mg "_law_right" s_l_right ["urn"]) (c_l_pick : Cal P w K mg base CX0 1 "_law_pick" spPick)
    (c_l_web : Cal P w K mg base CX0 3 "_law_web" spWeb) (c_l_lists : Cal P w K mg base CX0 4 "_law_lists" spLists) (c_l_copies : Cal P w K mg base CX0 1 "_law_copies" spCopies) (c_l_refused : Cal P w K mg base CX0 5 "_law_refused" (spRefused C))
    (c_check_lists : Cal P w K mg base (L2.CX P w) 4 "check_lists" (spCheck C CL)) (c_is_colouring : Cal P w K mg base (L2.CX P w) 5 "is_colouring" (spCol C CL))
    (m_WebD_initD : Met P w K mg base CX0 3 C "__init__" (spInitW C)) : Cal P w K mg base CX0 6 "_law_right" spRight := by
  refine F.cal sc_l_right (fun vs H Q E h => ?_) (fun f cdv A outer s H vs Q E hr h => ?_)
  · obtain ⟨u, rfl, _⟩ := h
    rfl
  · obtain ⟨u, rfl, hu, q⟩ := h
    refine ⟨_, (pss_cons (ps_asg (pe_cal c_l_web hr (by decide) rfl pass0 (pa_cons (pv 0) (pa_cons (pe_ix (ix_l K) (pe_lst (pa_cons pe_int (pa_cons pe_int pa_nil))) (pe_callTy cl_int (by rfl) T.z_int (by decide +kernel) (pa_cons (pe_cmpR op_eq (pe_cal c_l_pick hr (by decide) rfl pass0 (pa_cons (pv 0) (pa_cons pe_int pa_nil))) pe_int (nomark _)) pa_nil)) (fun _ _ => rfl)) pa_nil))) (k_tup (n := 2) K rfl (pgs_cons (pg_name (i := 1) sc_l_right.nd rfl (Or.inl rfl)) (pgs_cons (pg_name (i := 2) sc_l_right.nd rfl (Or.inl rfl)) pgs_nil))))
      (pss_cons (ps_set (i := 3) sc_l_right.nd rfl (Or.inl rfl) (pe_cal c_l_lists hr (by decide) rfl pass0 (pa_cons (pv 0) (pa_cons (pv 1) (pa_cons (pe_cal c_l_pick hr (by decide) rfl pass0 (pa_cons (pv 0) (pa_cons pe_int pa_nil))) pa_nil)))))
      (pss_cons (ps_set (i := 4) sc_l_right.nd rfl (Or.inl rfl) (pe_mak m_WebD_initD O_Web hr (by decide) rfl pass0 (pa_cons (pv 1) (pa_cons (pe_callTy (cl_listOf K) (by rfl) T.z_list (by decide +kernel) (pa_cons (pv 2) pa_nil)) pa_nil))))
      (pss_cons (ps_set (i := 5) sc_l_right.nd rfl (Or.inl rfl) (pe_cal c_l_copies hr (by decide) rfl pass0 (pa_cons (pv 3) pa_nil)))
      (pss_cons (ps_for PassesOwn.never rfl (pi_range1 rfl T.z_range (pa_cons pe_int pa_nil)) (pg_name (i := 6) sc_l_right.nd rfl (Or.inl rfl))
        (pss_cons (ps_if (PW.pt (pw_or (pt_cmpR op_notN (pe_cal c_check_lists hr (by decide) rfl passN (pa_cons (pv 4) (pa_cons (pv 5) pa_nil))) pe_non (nomark _)) (pw_or1 (pt_cmpR (k_neD K hr.units) (pv 5) (pv 3) (nomark _)))))
        (pss_one (ps_ret pe_bl)) pss_nil)
      (pss_cons (ps_if (PW.pt (pw_or (pt_cmpR op_ne (pe_cal c_is_colouring hr (by decide) rfl passN (pa_cons (pv 4) (pa_cons (pv 5) (pa_cons (pe_lst pa_nil) pa_nil)))) (pe_cmpR op_eq (pv 1) pe_int (nomark _)) (nomark _)) (pw_or1 (pt_cmpR (k_neD K hr.units) (pv 5) (pv 3) (nomark _)))))
        (pss_one (ps_ret pe_bl)) pss_nil)
      (pss_one (ps_if (PW.pt (pw_or (pt_not (pt_val (pe_cal c_l_refused hr (by decide) rfl pass0 (pa_cons (pv 4) (pa_cons (pe_op op_cat (pe_cal c_l_copies hr (by decide) rfl pass0 (pa_cons (pv 3) pa_nil)) (pe_lst (pa_cons (pe_lst pa_nil) pa_nil))) pa_nil))))) (pw_or1 (PW.pt (pw_and (pt_cmpR op_gt (pv 1) pe_int (nomark _)) (pw_and1 (pt_not (pt_val (pe_cal c_l_refused hr (by decide) rfl pass0 (pa_cons (pv 4) (pa_cons (pe_slice (k_sll K) (pv 3) (po_some pe_int) po_none) pa_nil)))))))))))
        (pss_one (ps_ret pe_bl)) pss_nil)))))
      (pss_one (ps_ret pe_bl))))))), ?_⟩
    walk_at "go"
    refine x_sz (by show 2 ≤ 100000; decide) fun l hl => ?_
    have ul := hu.ne hl
    have k1 := keep_new (o := .lst [.int 8, .int 40]) (Keep.refl (u := u) H) hl
    walk_at "go"
    refine x_pick (2 ^ 40 - 1) (by omega) (by omega) ((hu.upd ul).mono (by omega)) fun s0 H1 a0 a1 k2 u1 => ?_
    obtain ⟨mm, em, hm⟩ : ∃ mm : Nat, atI [V.int 8, V.int 40] (if decide (s0 = 7) = true then 1 else 0) = some (.int (mm : Int)) ∧ mm ≤ 40 := by
      by_cases c : s0 = 7
      · rw [decide_eq_true c]; exact ⟨40, rfl, by decide⟩
      · rw [decide_eq_false c]; exact ⟨8, rfl, by decide⟩
    have hl1 : H1 l = some (.lst [.int 8, .int 40]) := k2.at upd_same ul.symm
    walk_at "go"
    refine ⟨u, mm, 2 ^ 40 - 2000, rfl, by omega, u1.mono (by omega), fun p H2 N t vt ps hp ht k3 u2 hp2 ht2 hT2 tok srt hN hlen => ?_⟩
    have k03 := (k1.trans k2).trans k3
    have tu : t ≠ u := fun e => by
      subst e
      obtain ⟨us, hus⟩ := u1.some
      rw [hus] at ht
      cases ht
    walk_at "go"
    refine x_pick (2 ^ 40 - 2001) (by omega) (by omega) (u2.mono (by omega)) fun mo H3 mo0 mo1 k4 u3 => ?_
    obtain ⟨mo, rfl⟩ := Int.eq_ofNat_of_zero_le mo0
    obtain ⟨us2, hus2⟩ := u2.some
    have ht3 := k4.at ht2 tu
    have hT3 := hT2.keep k4 hus2
    have k04 := k03.trans k4
    walk_at "go"
    refine ⟨u, N, mo, 0, rfl, by omega, by omega, u3.mono (by omega), fun D H4 vl rss hD k5 u4 hD4 hRU hrl hok => ?_⟩
    obtain ⟨us3, hus3⟩ := u3.some
    have ht4 := k5.at ht3 tu
    have hT4 := hT3.keep k5 hus3
    have hR4 := hRU.rowL
    have k05 := k04.trans k5
    have zl := hR4.len
    have hokr : ∀ r ∈ rss, Asc r ∧ r.length ≤ 50000 := fun r hr => ⟨(hok r hr).1, by have := (hok r hr).2; omega⟩
    walk_at "go"
    refine x_listOf ht4 fun t2 ht2 => ?_
    have s5 := same_new (o := .lst vt) ht2
    have ht25 : (upd H4 t2 (.lst vt)) t2 = some (.lst vt) := upd_same
    have k06 := k05.same s5
    have hD5 := s5 _ _ hD4
    have hR5 := hR4.same s5
    have hT5 := hT4.same s5
    generalize upd H4 t2 (.lst vt) = H5 at *
    walk_at "go"
    intro x dx hx hdx dxx
    have s56 : Same H5 (upd (upd H5 dx (.own x)) x (.ins C dx [])) := fun b o e => by
      rw [upd_ne (ne_of_none e hx), upd_ne (ne_of_none e hdx)]
      exact e
    refine ⟨x, dx, t2, N, vt, ps, rfl, upd_same, s56 _ _ ht25, hT5.same s56, tok, by omega, by omega, fun H7 k7 w7 => ⟨rfl, ?_⟩⟩
    have s57 : Same H5 H7 := fun b o e => k7 b o (s56 b o e) (ne_of_none e hx)
    have w7 : WebAt C H7 x N (eOf ps) := w7.same nw_same
    have hD7 := s57 _ _ hD5
    have hR7 := hR5.same s57
    have k07 := k06.same s57
    walk_at "go"
    refine ⟨D, vl, rss, rfl, hD7, hR7, by omega, fun pa H8 rows L => ?_⟩
    have k08 := k07.same L.sm
    have w8 := w7.same L.sm
    have hD8 := L.sm _ _ hD7
    have hR8 := hR7.same L.sm
    have hpa8 := L.hD
    have hRp8 := L.rowL
    clear k07 w7 hD7 hR7 hx hdx s56 s57 k7 hT5 hR5 hD5 k06 ht25 s5
    walk_at "go"
    refine x_fwR0 (fun i σ' H' => ∃ y6, σ' = [some (.ref u), some (.int (N : Int)), some (.ref t), some (.ref D), some (.ref x), some (.ref pa), y6] ∧ Same H8 H') ⟨none, rfl, Same.refl _⟩ ?_ ?_
    · rintro i _ H9 hi ⟨y6, rfl, s9⟩
      walk_at "go"
      refine ⟨x, pa, N, _, _, rss, rfl, w8.same s9, by omega, s9 _ _ hpa8, hRp8.same s9, hokr, by omega, .inl ⟨hrl, fun H10 s10 => ?_⟩⟩
      have s910 := s9.trans s10
      walk_at "go"
      refine ⟨rfl, ?_⟩
      walk_at "go"
      refine x_neLL (s910 _ _ hpa8) (hRp8.same s910) (s910 _ _ hD8) (hR8.same s910) ?_
      rw [decide_eq_true rfl]
      walk_at "go"
      refine x_sz (by decide) fun z hz => ?_
      have s11 := s910.trans (same_new (o := .lst []) hz)
      walk_at "go"
      refine ⟨x, pa, z, N, _, _, rss, [], rfl, w8.same s11, by omega, s11 _ _ hpa8, hRp8.same s11, hokr, by omega, upd_same, by show 0 ≤ 50000; omega, .inl ⟨hrl, fun b H12 hb s12 => ?_⟩⟩
      have eb : b = decide ((N : Int) = 0) := by
        rw [Bool.eq_iff_iff, hb, isCol_nil, decide_eq_true_eq]
        omega
      rw [eb]
      have s13 := s11.trans s12
      walk_at "go"
      refine x_ne rfl ?_
      rw [decide_eq_true rfl]
      walk_at "go"
      refine x_neLL (s13 _ _ hpa8) (hRp8.same s13) (s13 _ _ hD8) (hR8.same s13) ?_
      rw [decide_eq_true rfl]
      have hD12 := s13 _ _ hD8
      have hR12 := hR8.same s13
      have w12 := w8.same s13
      walk_at "go"
      refine ⟨D, vl, rss, rfl, hD12, hR12, by omega, fun pc H14 rows2 L2' => ?_⟩
      have hpc := L2'.hD
      have hRc := L2'.rowL
      have w14 := w12.same L2'.sm
      have s14 := s13.trans L2'.sm
      have zr2 := L2'.len
      walk_at "go"
      refine x_sz (by decide) fun z2 hz2 => ?_
      walk_at "go"
      refine x_sz (by show 1 ≤ 100000; decide) fun z3 hz3 => ?_
      have sz3 := (same_new (o := .lst []) hz2).trans (same_new (o := .lst [V.ref z2]) hz3)
      have hz25 : (upd (upd H14 z2 (.lst [])) z3 (.lst [V.ref z2])) z2 = some (.lst []) := new_at hz3 upd_same
      have hz35 : (upd (upd H14 z2 (.lst [])) z3 (.lst [V.ref z2])) z3 = some (.lst [V.ref z2]) := upd_same
      have hpc5 := sz3 _ _ hpc
      have hRc5 := hRc.same sz3
      have w15 := w14.same sz3
      have s15 := s14.trans sz3
      generalize upd (upd H14 z2 (.lst [])) z3 (.lst [V.ref z2]) = H15 at *
      walk_at "go"
      refine x_cat hpc5 hz35 (by rw [List.length_map]; show rows2.length + 1 ≤ _; omega) fun pd hpd => ?_
      have s16 := same_new (o := .lst (rows2.map V.ref ++ [V.ref z2])) hpd
      walk_at "go"
      refine ⟨x, pd, N, _, _, rss ++ [[]], rfl, w15.same s16, by omega, upd_same, A2.snoc (hRc5.same s16) ⟨z2, rfl, s16 _ _ hz25⟩, fun r hr => ?_, by rw [List.length_append]; show rss.length + 1 ≤ _; omega, by rw [List.length_append]; show rss.length + 1 ≠ N; omega, ?_⟩
      · rcases List.mem_append.mp hr with h | h
        · exact hokr r h
        · rw [List.mem_singleton.mp h]
          exact ⟨List.Pairwise.nil, by show 0 ≤ 50000; omega⟩
      have s17 := s15.trans s16
      have w17 := w15.same s16
      have hD17 := s17 _ _ hD8
      have hR17 := hR8.same s17
      generalize upd H15 pd (.lst (rows2.map V.ref ++ [V.ref z2])) = H17 at *
      walk_at "go"
      refine x_ite (fun c => ?_) (fun c => ?_)
      · walk_at "go"
        refine x_sl ?_
        walk_at "go"
        refine x_part ?_
        walk_at "go"
        refine x_noPart ?_
        refine x_slFrom (k := 1) hD17 fun pe hpe => ?_
        have s18 := same_new (o := .lst (vl.drop 1)) hpe
        obtain ⟨rd, rr, erss⟩ : ∃ rd rr, rss = rd :: rr := by
          cases h : rss with
          | nil => rw [h] at hrl; simp at hrl; omega
          | cons a b => exact ⟨a, b, rfl⟩
        have hRd : RowL (upd H17 pe (.lst (vl.drop 1))) (vl.drop 1) (rss.drop 1) := by
          have h1 := hR17.same s18
          generalize upd H17 pe (.lst (vl.drop 1)) = HH at *
          cases h1 with
          | nil => exact .nil
          | cons _ t => exact t
        walk_at "go"
        refine ⟨x, pe, N, _, _, rss.drop 1, rfl, w17.same s18, by omega, upd_same, hRd, fun r hr => hokr r (List.mem_of_mem_drop hr), by rw [List.length_drop]; omega, by rw [List.length_drop]; omega, ?_⟩
        walk_at "go"
        exact ⟨_, rfl, s17.trans s18⟩
      · walk_at "go"
        exact ⟨_, rfl, s17⟩
    · rintro _ Hz ⟨y6, rfl, sz⟩
      walk_at "go"
      exact q Hz (k08.same sz)
end
abbrev s_law : Stmt := topS 25
theorem sc_law : FnScope ["script", "k"] ["script"] (defScope s_law) := ⟨rfl, rfl, rfl, by decide +kernel, rfl, by decide +kernel, by decide +kernel⟩
section
variable {P : Program} {w : World} {K : PySem.W.Frag} {mg : Str → Option Value} {base : Heap}
theorem ok_law {f : Addr} {fd : FuncData} (T : Tx mg) (F : Fun K "law" "law" s_law f fd) (c_l_urn : Cal P w K mg base CX0 1 "_law_urn" (spUrn K)) (c_l_right : Cal P w K mg base CX0 6 "_law_right" spRight) : FnOk P w K mg base CX0 (6 + 1) f fd ["script"] (spLaw K) := by
  refine F.ok sc_law (fun vs H Q E h => ?_) (fun cdv A outer s H vs Q E hr h => ?_)
  · obtain ⟨a, ns, rfl, _⟩ := h
    rfl
  · obtain ⟨a, ns, rfl, hs, hl, q⟩ := h
    refine ⟨_, (pss_cons (ps_for PassesOwn.never rfl (pi_range1 rfl T.z_range (pa_cons (pe_callB (cl_max2 rfl) (by rfl) T.z_max (by decide +kernel) (pa_cons pe_int (pa_cons (pe_callB (cl_min2 rfl) (by rfl) T.z_min (by decide +kernel) (pa_cons pe_int (pa_cons (pe_callB (cl_len K) (by rfl) T.z_len PySem.boot_len (pa_cons (pv 0) pa_nil)) pa_nil))) pa_nil))) pa_nil)) (pg_name (i := 1) sc_law.nd rfl (Or.inl rfl))
        (pss_one (ps_if (pt_not (pt_val (pe_cal c_l_right hr (by decide) rfl pass0 (pa_cons (pe_cal c_l_urn hr (by decide) rfl pass0 (pa_cons (pv 0) (pa_cons (pv 1) pa_nil))) pa_nil))))
        (pss_one (ps_ret pe_bl)) pss_nil)))
      (pss_one (ps_ret pe_bl))), ?_⟩
    walk_at "go"
    refine x_lenS hs ?_
    walk_at "go"
    refine x_fwR0 (fun i σ' H' => ∃ y, σ' = [some (.ref a), y] ∧ Same H H') ⟨none, rfl, Same.refl H⟩ ?_ ?_
    · rintro i _ H1 hi ⟨y, rfl, s1⟩
      have hi4 : i < 5 := by
        revert hi
        split <;> split <;> omega
      walk_at "go"
      refine ⟨a, ns, i, rfl, s1.seq hs, by omega, by omega, fun p H2 hp s2 u2 => ?_⟩
      walk_at "go"
      refine ⟨p, rfl, u2, fun H3 k3 => ?_⟩
      walk_at "go"
      exact ⟨_, rfl, same_keep (s1.trans s2) k3 (s1.free hp)⟩
    · rintro _ H1 ⟨y, rfl, s1⟩
      walk_at "go"
      exact q H1
end
theorem all_mk {l : PySem.W.OpenLaw} {w : World} {K : PySem.W.Frag} {h : Heap} {mg : Str → Option Value} {fa : Addr} {C_Web : Addr} {E_InvalidLists : Addr} {f0 : Addr} {oc0 kV0 dc0 pm0 cd0 ct0 : Value} {od0 an0 : Option Addr} {sl0 : Array (Option Value)} {f1 : Addr} {oc1 kV1 dc1 pm1 cd1 ct1 : Value} {od1 an1 : Option Addr} {sl1 : Array (Option Value)} {f2 : Addr} {oc2 kV2 dc2 pm2 cd2 ct2 : Value} {od2 an2 : Option Addr} {sl2 : Array (Option Value)} {f3 : Addr} {oc3 kV3 dc3 pm3 cd3 ct3 : Value} {od3 an3 : Option Addr} {sl3 : Array (Option Value)} {f4 : Addr} {oc4 kV4 dc4 pm4 cd4 ct4 : Value} {od4 an4 : Option Addr} {sl4 : Array (Option Value)} {p4 : Addr} {rs4 : List Value} {f5 : Addr} {oc5 kV5 dc5 pm5 cd5 ct5 : Value} {od5 an5 : Option Addr} {sl5 : Array (Option Value)} {f6 : Addr} {oc6 kV6 dc6 pm6 cd6 ct6 : Value} {od6 an6 : Option Addr} {sl6 : Array (Option Value)} {f7 : Addr} {oc7 kV7 dc7 pm7 cd7 ct7 : Value} {od7 an7 : Option Addr} {sl7 : Array (Option Value)} {f8 : Addr} {oc8 kV8 dc8 pm8 cd8 ct8 : Value} {od8 an8 : Option Addr} {sl8 : Array (Option Value)} {f9 : Addr} {oc9 kV9 dc9 pm9 cd9 ct9 : Value} {od9 an9 : Option Addr} {sl9 : Array (Option Value)} {f10 : Addr} {oc10 kV10 dc10 pm10 cd10 ct10 : Value} {od10 an10 : Option Addr} {sl10 : Array (Option Value)} {f11 : Addr} {oc11 kV11 dc11 pm11 cd11 ct11 : Value} {od11 an11 : Option Addr} {sl11 : Array (Option Value)} {f12 : Addr} {oc12 kV12 dc12 pm12 cd12 ct12 : Value} {od12 an12 : Option Addr} {sl12 : Array (Option Value)} {f13 : Addr} {oc13 kV13 dc13 pm13 cd13 ct13 : Value} {od13 an13 : Option Addr} {sl13 : Array (Option Value)} {f14 : Addr} {oc14 kV14 dc14 pm14 cd14 ct14 : Value} {od14 an14 : Option Addr} {sl14 : Array (Option Value)} {f15 : Addr} {oc15 kV15 dc15 pm15 cd15 ct15 : Value} {od15 an15 : Option Addr} {sl15 : Array (Option Value)} {f16 : Addr} {oc16 kV16 dc16 pm16 cd16 ct16 : Value} {od16 an16 : Option Addr} {sl16 : Array (Option Value)} {f17 : Addr} {oc17 kV17 dc17 pm17 cd17 ct17 : Value} {od17 an17 : Option Addr} {sl17 : Array (Option Value)} {f18 : Addr} {oc18 kV18 dc18 pm18 cd18 ct18 : Value} {od18 an18 : Option Addr} {sl18 : Array (Option Value)} {f19 : Addr} {oc19 kV19 dc19 pm19 cd19 ct19 : Value} {od19 an19 : Option Addr} {sl19 : Array (Option Value)}
    (X : K.In h) (G : h.Ns mainGlobals mg) (hfa : mg "law" = some (.ref fa))
    (aC_Web : PySem.W.nsIn K mainGlobals "Web" = some (some (.ref C_Web)))
    (pg_Web : PySem.W.plainGet K C_Web Str.empty = true)
    (hd_Web : PySem.W.hasDictIn K C_Web = true)
    (po_Web : PySem.W.plainOver K C_Web = true)
    (sa_Web : PySem.W.findIn K (.ref C_Web) "__setattr__" = some (some (.builtin "object.__setattr__")))
    (mk_Web : PySem.W.makesIn K C_Web = true)
    (kc_Web : PySem.W.keepIn K (.ref C_Web) = true)
    (n_Web_beside : PySem.W.findIn K (.ref C_Web) "beside" = some none)
    (gE_InvalidLists : PySem.W.nsIn K mainGlobals "InvalidLists" = some (some (.ref E_InvalidLists)))
    (xE_InvalidLists : PySem.W.excIn K E_InvalidLists [.type "ValueError", .type "Exception", .type "BaseException", .type "object"] "ValueError.__new__" = true)
    (kE_InvalidLists : PySem.W.keepIn K (.ref E_InvalidLists) = true)
    (bE_InvalidLists : PySem.W.subIn K (.ref E_InvalidLists) (.type "BaseException") = some true)
    (tE_InvalidLists : PySem.W.typeIn K (.ref E_InvalidLists) = some (.type "type"))
    (iE_InvalidLists : PySem.W.isClsIn K E_InvalidLists = true)
    (sE_InvalidLists : PySem.W.subIn K (.ref E_InvalidLists) (.ref E_InvalidLists) = some true)
    (z_all : PySem.W.nsIn K mainGlobals "all" = some none)
    (z_bool : PySem.W.nsIn K mainGlobals "bool" = some none)
    (z_int : PySem.W.nsIn K mainGlobals "int" = some none)
    (z_isinstance : PySem.W.nsIn K mainGlobals "isinstance" = some none)
    (z_len : PySem.W.nsIn K mainGlobals "len" = some none)
    (z_list : PySem.W.nsIn K mainGlobals "list" = some none)
    (z_max : PySem.W.nsIn K mainGlobals "max" = some none)
    (z_min : PySem.W.nsIn K mainGlobals "min" = some none)
    (z_property : PySem.W.nsIn K mainGlobals "property" = some none)
    (z_range : PySem.W.nsIn K mainGlobals "range" = some none)
    (z_sorted : PySem.W.nsIn K mainGlobals "sorted" = some none)
    (z_tuple : PySem.W.nsIn K mainGlobals "tuple" = some none)
    (z_zip : PySem.W.nsIn K mainGlobals "zip" = some none)
    (a0 : PySem.W.nsIn K mainGlobals "is_integer" = some (some (.ref f0)))
    (l0 : K.lookup f0 = some ⟨oc0, od0, .func (PySem.W.fnOf "is_integer" "is_integer" (defArgs s_is_integer) (defBody s_is_integer) (defScope s_is_integer) .none kV0 dc0 pm0 an0 cd0 ct0), sl0⟩)
    (c0 : PySem.W.codeIn K cd0 "is_integer" = true)
    (k0 : PySem.W.keepIn K (.ref f0) = true)
    (a1 : PySem.W.nsIn K mainGlobals "is_tie" = some (some (.ref f1)))
    (l1 : K.lookup f1 = some ⟨oc1, od1, .func (PySem.W.fnOf "is_tie" "is_tie" (defArgs s_is_tie) (defBody s_is_tie) (defScope s_is_tie) .none kV1 dc1 pm1 an1 cd1 ct1), sl1⟩)
    (c1 : PySem.W.codeIn K cd1 "is_tie" = true)
    (k1 : PySem.W.keepIn K (.ref f1) = true)
    (a2 : PySem.W.findIn K (.ref C_Web) "__init__" = some (some (.ref f2)))
    (i2 : PySem.W.isFn K (.ref f2) = true)
    (l2 : K.lookup f2 = some ⟨oc2, od2, .func (PySem.W.fnOf "__init__" "Web.__init__" (defArgs s_WebD_initD) (defBody s_WebD_initD) (defScope s_WebD_initD) .none kV2 dc2 pm2 an2 cd2 ct2), sl2⟩)
    (c2 : PySem.W.codeIn K cd2 "Web.__init__" = true)
    (k2 : PySem.W.keepIn K (.ref f2) = true)
    (a3 : PySem.W.findIn K (.ref C_Web) "__len__" = some (some (.ref f3)))
    (i3 : PySem.W.isFn K (.ref f3) = true)
    (l3 : K.lookup f3 = some ⟨oc3, od3, .func (PySem.W.fnOf "__len__" "Web.__len__" (defArgs s_WebD_lenD) (defBody s_WebD_lenD) (defScope s_WebD_lenD) .none kV3 dc3 pm3 an3 cd3 ct3), sl3⟩)
    (c3 : PySem.W.codeIn K cd3 "Web.__len__" = true)
    (k3 : PySem.W.keepIn K (.ref f3) = true)
    (a4 : PySem.W.findIn K (.ref C_Web) "ties" = some (some (.ref p4)))
    (g4 : PySem.W.specialIn K (.ref p4) "__get__" = some (some (.builtin "property.__get__")))
    (t4 : PySem.W.takesIn K (.ref p4) = some true)
    (r4 : PySem.W.recIn K p4 "property" = some (.ref f4 :: rs4))
    (l4 : K.lookup f4 = some ⟨oc4, od4, .func (PySem.W.fnOf "ties" "Web.ties" (defArgs s_Web_ties) (defBody s_Web_ties) (defScope s_Web_ties) .none kV4 dc4 pm4 an4 cd4 ct4), sl4⟩)
    (c4 : PySem.W.codeIn K cd4 "Web.ties" = true)
    (k4 : PySem.W.keepIn K (.ref f4) = true)
    (a5 : PySem.W.nsIn K mainGlobals "is_hue" = some (some (.ref f5)))
    (l5 : K.lookup f5 = some ⟨oc5, od5, .func (PySem.W.fnOf "is_hue" "is_hue" (defArgs s_is_hue) (defBody s_is_hue) (defScope s_is_hue) .none kV5 dc5 pm5 an5 cd5 ct5), sl5⟩)
    (c5 : PySem.W.codeIn K cd5 "is_hue" = true)
    (k5 : PySem.W.keepIn K (.ref f5) = true)
    (a6 : PySem.W.nsIn K mainGlobals "is_hues" = some (some (.ref f6)))
    (l6 : K.lookup f6 = some ⟨oc6, od6, .func (PySem.W.fnOf "is_hues" "is_hues" (defArgs s_is_hues) (defBody s_is_hues) (defScope s_is_hues) .none kV6 dc6 pm6 an6 cd6 ct6), sl6⟩)
    (c6 : PySem.W.codeIn K cd6 "is_hues" = true)
    (k6 : PySem.W.keepIn K (.ref f6) = true)
    (a7 : PySem.W.nsIn K mainGlobals "check_lists" = some (some (.ref f7)))
    (l7 : K.lookup f7 = some ⟨oc7, od7, .func (PySem.W.fnOf "check_lists" "check_lists" (defArgs s_check_lists) (defBody s_check_lists) (defScope s_check_lists) .none kV7 dc7 pm7 an7 cd7 ct7), sl7⟩)
    (c7 : PySem.W.codeIn K cd7 "check_lists" = true)
    (k7 : PySem.W.keepIn K (.ref f7) = true)
    (a8 : PySem.W.nsIn K mainGlobals "is_colouring" = some (some (.ref f8)))
    (l8 : K.lookup f8 = some ⟨oc8, od8, .func (PySem.W.fnOf "is_colouring" "is_colouring" (defArgs s_is_colouring) (defBody s_is_colouring) (defScope s_is_colouring) .none kV8 dc8 pm8 an8 cd8 ct8), sl8⟩)
    (c8 : PySem.W.codeIn K cd8 "is_colouring" = true)
    (k8 : PySem.W.keepIn K (.ref f8) = true)
    (a9 : PySem.W.nsIn K mainGlobals "_law_urn" = some (some (.ref f9)))
    (l9 : K.lookup f9 = some ⟨oc9, od9, .func (PySem.W.fnOf "_law_urn" "_law_urn" (defArgs s_l_urn) (defBody s_l_urn) (defScope s_l_urn) .none kV9 dc9 pm9 an9 cd9 ct9), sl9⟩)
    (c9 : PySem.W.codeIn K cd9 "_law_urn" = true)
    (k9 : PySem.W.keepIn K (.ref f9) = true)
    (a10 : PySem.W.nsIn K mainGlobals "_law_pick" = some (some (.ref f10)))
    (l10 : K.lookup f10 = some ⟨oc10, od10, .func (PySem.W.fnOf "_law_pick" "_law_pick" (defArgs s_l_pick) (defBody s_l_pick) (defScope s_l_pick) .none kV10 dc10 pm10 an10 cd10 ct10), sl10⟩)
    (c10 : PySem.W.codeIn K cd10 "_law_pick" = true)
    (k10 : PySem.W.keepIn K (.ref f10) = true)
    (a11 : PySem.W.nsIn K mainGlobals "_law_shuffled" = some (some (.ref f11)))
    (l11 : K.lookup f11 = some ⟨oc11, od11, .func (PySem.W.fnOf "_law_shuffled" "_law_shuffled" (defArgs s_l_shuffled) (defBody s_l_shuffled) (defScope s_l_shuffled) .none kV11 dc11 pm11 an11 cd11 ct11), sl11⟩)
    (c11 : PySem.W.codeIn K cd11 "_law_shuffled" = true)
    (k11 : PySem.W.keepIn K (.ref f11) = true)
    (a12 : PySem.W.nsIn K mainGlobals "_law_web" = some (some (.ref f12)))
    (l12 : K.lookup f12 = some ⟨oc12, od12, .func (PySem.W.fnOf "_law_web" "_law_web" (defArgs s_l_web) (defBody s_l_web) (defScope s_l_web) .none kV12 dc12 pm12 an12 cd12 ct12), sl12⟩)
    (c12 : PySem.W.codeIn K cd12 "_law_web" = true)
    (k12 : PySem.W.keepIn K (.ref f12) = true)
    (a13 : PySem.W.nsIn K mainGlobals "_law_pool" = some (some (.ref f13)))
    (l13 : K.lookup f13 = some ⟨oc13, od13, .func (PySem.W.fnOf "_law_pool" "_law_pool" (defArgs s_l_pool) (defBody s_l_pool) (defScope s_l_pool) .none kV13 dc13 pm13 an13 cd13 ct13), sl13⟩)
    (c13 : PySem.W.codeIn K cd13 "_law_pool" = true)
    (k13 : PySem.W.keepIn K (.ref f13) = true)
    (a14 : PySem.W.nsIn K mainGlobals "_law_row" = some (some (.ref f14)))
    (l14 : K.lookup f14 = some ⟨oc14, od14, .func (PySem.W.fnOf "_law_row" "_law_row" (defArgs s_l_row) (defBody s_l_row) (defScope s_l_row) .none kV14 dc14 pm14 an14 cd14 ct14), sl14⟩)
    (c14 : PySem.W.codeIn K cd14 "_law_row" = true)
    (k14 : PySem.W.keepIn K (.ref f14) = true)
    (a15 : PySem.W.nsIn K mainGlobals "_law_lists" = some (some (.ref f15)))
    (l15 : K.lookup f15 = some ⟨oc15, od15, .func (PySem.W.fnOf "_law_lists" "_law_lists" (defArgs s_l_lists) (defBody s_l_lists) (defScope s_l_lists) .none kV15 dc15 pm15 an15 cd15 ct15), sl15⟩)
    (c15 : PySem.W.codeIn K cd15 "_law_lists" = true)
    (k15 : PySem.W.keepIn K (.ref f15) = true)
    (a16 : PySem.W.nsIn K mainGlobals "_law_copies" = some (some (.ref f16)))
    (l16 : K.lookup f16 = some ⟨oc16, od16, .func (PySem.W.fnOf "_law_copies" "_law_copies" (defArgs s_l_copies) (defBody s_l_copies) (defScope s_l_copies) .none kV16 dc16 pm16 an16 cd16 ct16), sl16⟩)
    (c16 : PySem.W.codeIn K cd16 "_law_copies" = true)
    (k16 : PySem.W.keepIn K (.ref f16) = true)
    (a17 : PySem.W.nsIn K mainGlobals "_law_refused" = some (some (.ref f17)))
    (l17 : K.lookup f17 = some ⟨oc17, od17, .func (PySem.W.fnOf "_law_refused" "_law_refused" (defArgs s_l_refused) (defBody s_l_refused) (defScope s_l_refused) .none kV17 dc17 pm17 an17 cd17 ct17), sl17⟩)
    (c17 : PySem.W.codeIn K cd17 "_law_refused" = true)
    (k17 : PySem.W.keepIn K (.ref f17) = true)
    (a18 : PySem.W.nsIn K mainGlobals "_law_right" = some (some (.ref f18)))
    (l18 : K.lookup f18 = some ⟨oc18, od18, .func (PySem.W.fnOf "_law_right" "_law_right" (defArgs s_l_right) (defBody s_l_right) (defScope s_l_right) .none kV18 dc18 pm18 an18 cd18 ct18), sl18⟩)
    (c18 : PySem.W.codeIn K cd18 "_law_right" = true)
    (k18 : PySem.W.keepIn K (.ref f18) = true)
    (a19 : PySem.W.nsIn K mainGlobals "law" = some (some (.ref f19)))
    (l19 : K.lookup f19 = some ⟨oc19, od19, .func (PySem.W.fnOf "law" "law" (defArgs s_law) (defBody s_law) (defScope s_law) .none kV19 dc19 pm19 an19 cd19 ct19), sl19⟩)
    (c19 : PySem.W.codeIn K cd19 "law" = true)
    (k19 : PySem.W.keepIn K (.ref f19) = true) :
    ∃ fd : FuncData, (∀ (s : Shared) (v : Value), BindsTo s fd ⟨[v], []⟩ [("script", v)]) ∧ ∀ base : Heap, K.In base → base.Ns mainGlobals mg → FnOk l.prog w K mg base CX0 7 fa fd ["script"] (spLaw K) := by
  have e := hfa.symm.trans (PySem.W.mg_of X G a19)
  cases e
  have O_Web : Own K mg "Web" C_Web := own_mk X G aC_Web pg_Web hd_Web po_Web sa_Web mk_Web kc_Web
  have n_Web_beside : NoAttr K C_Web "beside" := n_Web_beside
  have X_InvalidLists : Exq K mg "InvalidLists" E_InvalidLists := ⟨PySem.W.mg_of X G gE_InvalidLists, xE_InvalidLists, kE_InvalidLists, bE_InvalidLists, tE_InvalidLists, iE_InvalidLists, sE_InvalidLists⟩
  have T : Tx mg := ⟨PySem.W.mg_none_of X G z_all, PySem.W.mg_none_of X G z_bool, PySem.W.mg_none_of X G z_int, PySem.W.mg_none_of X G z_isinstance, PySem.W.mg_none_of X G z_len, PySem.W.mg_none_of X G z_list, PySem.W.mg_none_of X G z_max, PySem.W.mg_none_of X G z_min, PySem.W.mg_none_of X G z_property, PySem.W.mg_none_of X G z_range, PySem.W.mg_none_of X G z_sorted, PySem.W.mg_none_of X G z_tuple, PySem.W.mg_none_of X G z_zip⟩
  have D_is_integer : DefAt K mg "is_integer" s_is_integer ["value"] := defAt_mk X G a0 l0 c0 k0 (fun _ _ _ _ _ _ us hl => match us, hl with | [_], _ => rfl)
  have D_is_tie : DefAt K mg "is_tie" s_is_tie ["places", "value"] := defAt_mk X G a1 l1 c1 k1 (fun _ _ _ _ _ _ us hl => match us, hl with | [_, _], _ => rfl)
  have D_WebD_initD : MetAt K C_Web "__init__" "Web.__init__" s_WebD_initD ["self", "places", "ties"] := metAt_mk a2 i2 l2 c2 k2 (fun _ _ _ _ _ _ us hl => match us, hl with | [_, _, _], _ => rfl)
  have D_WebD_lenD : MetAt K C_Web "__len__" "Web.__len__" s_WebD_lenD ["self"] := metAt_mk a3 i3 l3 c3 k3 (fun _ _ _ _ _ _ us hl => match us, hl with | [_], _ => rfl)
  have D_Web_ties : PrpAt K C_Web "ties" "Web.ties" s_Web_ties := prpAt_mk a4 g4 t4 r4 l4 c4 k4 (fun _ _ _ _ _ _ us hl => match us, hl with | [_], _ => rfl)
  have D_is_hue : DefAt K mg "is_hue" s_is_hue ["value"] := defAt_mk X G a5 l5 c5 k5 (fun _ _ _ _ _ _ us hl => match us, hl with | [_], _ => rfl)
  have D_is_hues : DefAt K mg "is_hues" s_is_hues ["value"] := defAt_mk X G a6 l6 c6 k6 (fun _ _ _ _ _ _ us hl => match us, hl with | [_], _ => rfl)
  have D_check_lists : DefAt K mg "check_lists" s_check_lists ["web", "lists"] := defAt_mk X G a7 l7 c7 k7 (fun _ _ _ _ _ _ us hl => match us, hl with | [_, _], _ => rfl)
  have D_is_colouring : DefAt K mg "is_colouring" s_is_colouring ["web", "lists", "value"] := defAt_mk X G a8 l8 c8 k8 (fun _ _ _ _ _ _ us hl => match us, hl with | [_, _, _], _ => rfl)
  have D_l_urn : DefAt K mg "_law_urn" s_l_urn ["script", "k"] := defAt_mk X G a9 l9 c9 k9 (fun _ _ _ _ _ _ us hl => match us, hl with | [_, _], _ => rfl)
  have D_l_pick : DefAt K mg "_law_pick" s_l_pick ["urn", "many"] := defAt_mk X G a10 l10 c10 k10 (fun _ _ _ _ _ _ us hl => match us, hl with | [_, _], _ => rfl)
  have D_l_shuffled : DefAt K mg "_law_shuffled" s_l_shuffled ["urn", "things"] := defAt_mk X G a11 l11 c11 k11 (fun _ _ _ _ _ _ us hl => match us, hl with | [_, _], _ => rfl)
  have D_l_web : DefAt K mg "_law_web" s_l_web ["urn", "most"] := defAt_mk X G a12 l12 c12 k12 (fun _ _ _ _ _ _ us hl => match us, hl with | [_, _], _ => rfl)
  have D_l_pool : DefAt K mg "_law_pool" s_l_pool ["urn", "many"] := defAt_mk X G a13 l13 c13 k13 (fun _ _ _ _ _ _ us hl => match us, hl with | [_, _], _ => rfl)
  have D_l_row : DefAt K mg "_law_row" s_l_row ["urn", "pool", "size"] := defAt_mk X G a14 l14 c14 k14 (fun _ _ _ _ _ _ us hl => match us, hl with | [_, _, _], _ => rfl)
  have D_l_lists : DefAt K mg "_law_lists" s_l_lists ["urn", "places", "most"] := defAt_mk X G a15 l15 c15 k15 (fun _ _ _ _ _ _ us hl => match us, hl with | [_, _, _], _ => rfl)
  have D_l_copies : DefAt K mg "_law_copies" s_l_copies ["rows"] := defAt_mk X G a16 l16 c16 k16 (fun _ _ _ _ _ _ us hl => match us, hl with | [_], _ => rfl)
  have D_l_refused : DefAt K mg "_law_refused" s_l_refused ["built", "rows"] := defAt_mk X G a17 l17 c17 k17 (fun _ _ _ _ _ _ us hl => match us, hl with | [_, _], _ => rfl)
  have D_l_right : DefAt K mg "_law_right" s_l_right ["urn"] := defAt_mk X G a18 l18 c18 k18 (fun _ _ _ _ _ _ us hl => match us, hl with | [_], _ => rfl)
  refine ⟨PySem.W.fnOf "law" "law" (defArgs s_law) (defBody s_law) (defScope s_law) .none kV19 dc19 pm19 an19 cd19 ct19, fun s v => .of_eq rfl, fun base _ _ => ?_⟩
  have q1 := c_is_integer (base := base) (P := l.prog) (w := w) (K := K) T D_is_integer
  have q2 := c_is_tie (base := base) (P := l.prog) (w := w) (K := K) T D_is_tie q1
  have q3 := m_Web_init (base := base) (P := l.prog) (w := w) T O_Web n_Web_beside D_WebD_initD q1 q2
  have q4 := o_Web_len (base := base) (P := l.prog) (w := w) T O_Web n_Web_beside D_WebD_lenD
  have q5 := p_Web_ties (base := base) (P := l.prog) (w := w) T O_Web n_Web_beside D_Web_ties
  have q6 := c_l_urn (base := base) (P := l.prog) (w := w) (K := K) T D_l_urn
  have q7 := c_pick (base := base) (P := l.prog) (w := w) (K := K) T D_l_pick
  have q10 := c_l_shuffled (base := base) (P := l.prog) (w := w) (K := K) T D_l_shuffled q7
  have q11 := c_l_web (base := base) (P := l.prog) (w := w) (K := K) T D_l_web q7 q10
  have q12 := c_is_hue (base := base) (P := l.prog) (w := w) (K := K) T D_is_hue q1
  have q13 := c_is_hues (base := base) (P := l.prog) (w := w) (K := K) T D_is_hues q12
  have q14 := c_check_lists (base := base) (P := l.prog) (w := w) (K := K) (C := C_Web) T X_InvalidLists D_check_lists q13 q4
  have q15 := c_is_colouring (base := base) (P := l.prog) (w := w) (K := K) T O_Web D_is_colouring q14 q1 q4 q5
  have q16 := c_l_pool (base := base) (P := l.prog) (w := w) (K := K) T D_l_pool q7
  have q17 := c_l_row (base := base) (P := l.prog) (w := w) (K := K) T D_l_row q10
  have q18 := c_l_lists (base := base) (P := l.prog) (w := w) (K := K) T D_l_lists q7 q16 q17
  have q19 := c_l_copies (base := base) (P := l.prog) (w := w) (K := K) T D_l_copies
  have q20 := c_l_refused (base := base) (P := l.prog) (w := w) (K := K) T X_InvalidLists D_l_refused q14
  have q21 := c_l_right (base := base) (P := l.prog) (w := w) T O_Web D_l_right q7 q11 q18 q19 q20 q14 q15 q3
  exact ok_law T (fun_mk l19 c19 k19) q6 q21
end OC
open PySem PySem.W PyProof.Rows
set_option maxRecDepth 100000 in
set_option maxHeartbeats 0 in
theorem PySem.Challenge.cw_ownhues_k09_right_lists_checked_holds : PySem.Challenge.rw_ownhues_k09_right_lists_checked.Holds := by
  w_on; o_law; k_head; (case hw => w_witness2)
  k_fill
  refine L2.walk_of (l := PySem.Challenge.rw_ownhues_k09_right_lists_checked) (n := 63) (k := 7) (x := "script") (CX := fun _ => L2.CX0) (sp := fun w => OC.spLaw _) rfl (by decide) rfl ⟨rfl, by decide, by decide⟩ (fun w h Y => PySem.W.kIn_of Y) ?F (fun _ _ a ns hl _ hS => ⟨a, ns, rfl, hS, hl, fun _ => rfl⟩) (fun _ _ _ _ _ h => h)
  case F =>
    intro w mg fa h KX G hmg
    refine' OC.all_mk KX G hmg ?aC_Web ?pg_Web ?hd_Web ?po_Web ?sa_Web ?mk_Web ?kc_Web ?n_Web_beside ?gE_InvalidLists ?xE_InvalidLists ?kE_InvalidLists ?bE_InvalidLists ?tE_InvalidLists ?iE_InvalidLists ?sE_InvalidLists ?z_all ?z_bool ?z_int ?z_isinstance ?z_len ?z_list ?z_max ?z_min ?z_property ?z_range ?z_sorted ?z_tuple ?z_zip ?a0 ?l0 ?c0 ?k0 ?a1 ?l1 ?c1 ?k1 ?a2 ?i2 ?l2 ?c2 ?k2 ?a3 ?i3 ?l3 ?c3 ?k3 ?a4 ?g4 ?t4 ?r4 ?l4 ?c4 ?k4 ?a5 ?l5 ?c5 ?k5 ?a6 ?l6 ?c6 ?k6 ?a7 ?l7 ?c7 ?k7 ?a8 ?l8 ?c8 ?k8 ?a9 ?l9 ?c9 ?k9 ?a10 ?l10 ?c10 ?k10 ?a11 ?l11 ?c11 ?k11 ?a12 ?l12 ?c12 ?k12 ?a13 ?l13 ?c13 ?k13 ?a14 ?l14 ?c14 ?k14 ?a15 ?l15 ?c15 ?k15 ?a16 ?l16 ?c16 ?k16 ?a17 ?l17 ?c17 ?k17 ?a18 ?l18 ?c18 ?k18 ?a19 ?l19 ?c19 ?k19
    (case aC_Web => k_is); (case pg_Web => k_is); (case hd_Web => k_is); (case po_Web => k_is); (case sa_Web => k_is); (case mk_Web => k_is); (case kc_Web => k_is); (case n_Web_beside => k_is)
    (case gE_InvalidLists => k_is); (case xE_InvalidLists => k_exc); (case kE_InvalidLists => k_is); (case bE_InvalidLists => k_is); (case tE_InvalidLists => k_is); (case iE_InvalidLists => k_is); (case sE_InvalidLists => first | rfl | k_is); (case z_all => k_is)
    (case z_bool => k_is); (case z_int => k_is); (case z_isinstance => k_is); (case z_len => k_is); (case z_list => k_is); (case z_max => k_is); (case z_min => k_is); (case z_property => k_is)
    (case z_range => k_is); (case z_sorted => k_is); (case z_tuple => k_is); (case z_zip => k_is); (case a0 => k_is); (case l0 => k_is); (case c0 => k_is); (case k0 => k_is)
    (case a1 => k_is); (case l1 => k_is); (case c1 => k_is); (case k1 => k_is); (case a2 => k_is); (case i2 => k_is); (case l2 => k_is); (case c2 => k_is)
    (case k2 => k_is); (case a3 => k_is); (case i3 => k_is); (case l3 => k_is); (case c3 => k_is); (case k3 => k_is); (case a4 => k_is); (case g4 => k_is)
    (case t4 => k_is); (case r4 => k_is); (case l4 => k_is); (case c4 => k_is); (case k4 => k_is); (case a5 => k_is); (case l5 => k_is); (case c5 => k_is)
    (case k5 => k_is); (case a6 => k_is); (case l6 => k_is); (case c6 => k_is); (case k6 => k_is); (case a7 => k_is); (case l7 => k_is); (case c7 => k_is)
    (case k7 => k_is); (case a8 => k_is); (case l8 => k_is); (case c8 => k_is); (case k8 => k_is); (case a9 => k_is); (case l9 => k_is); (case c9 => k_is)
    (case k9 => k_is); (case a10 => k_is); (case l10 => k_is); (case c10 => k_is); (case k10 => k_is); (case a11 => k_is); (case l11 => k_is); (case c11 => k_is)
    (case k11 => k_is); (case a12 => k_is); (case l12 => k_is); (case c12 => k_is); (case k12 => k_is); (case a13 => k_is); (case l13 => k_is); (case c13 => k_is)
    (case k13 => k_is); (case a14 => k_is); (case l14 => k_is); (case c14 => k_is); (case k14 => k_is); (case a15 => k_is); (case l15 => k_is); (case c15 => k_is)
    (case k15 => k_is); (case a16 => k_is); (case l16 => k_is); (case c16 => k_is); (case k16 => k_is); (case a17 => k_is); (case l17 => k_is); (case c17 => k_is)
    (case k17 => k_is); (case a18 => k_is); (case l18 => k_is); (case c18 => k_is); (case k18 => k_is); (case a19 => k_is); (case l19 => k_is); (case c19 => k_is)
    (case k19 => k_is)
