import PyProof.Rows.All
import Wide.All
import OpenK.AllK
import Wide.FinOn
import HandS.ForMost
import HandS.ForExc
import HandS.Wide
import HandS.SortInts
import HandS.SortRule
import HandS.Conv
import HandS.IsInst
import HandS.Deep
import HandS.Property
import HandS.Evl
import HandS.Style
import HandS.More
import HandS.ExcOwn
import HandS.ExcIs
import HandS.TryOnly
import HandS.WordsExc
import HandS.Iter
import HandS.Flow
import PySem.Challenge.RW_ownhues_k19_pairs_that_short_ways_bar

set_option Elab.async false
set_option linter.all false
set_option maxRecDepth 100000
set_option maxHeartbeats 4000000
/-! OC: short steps through a reading, own lemmas. -/
namespace OC
open PySem PySem.Spec PyProof.Rows L2
abbrev St := L2.St

/-! ### heaps -/
/-- all but u is as it was -/
def Keep (u : Addr) (H H' : Hp) : Prop := ∀ a o, H a = some o → a ≠ u → H' a = some o
theorem Keep.refl {u : Addr} (H : Hp) : Keep u H H := fun _ _ h _ => h
theorem Keep.trans {u : Addr} {H H1 H2 : Hp} (a : Keep u H H1) (b : Keep u H1 H2) : Keep u H H2 := fun x o h n => b x o (a x o h n) n
theorem Keep.same {u : Addr} {H H1 H2 : Hp} (a : Keep u H H1) (b : Same H1 H2) : Keep u H H2 := fun x o h n => b x o (a x o h n)
theorem Same.keep {u : Addr} {H H1 H2 : Hp} (a : Same H H1) (b : Keep u H1 H2) : Keep u H H2 := fun x o h n => b x o (a x o h) n
theorem Same.toKeep {u : Addr} {H H1 : Hp} (a : Same H H1) : Keep u H H1 := fun x o h _ => a x o h
theorem Keep.at {u a : Addr} {H H' : Hp} {o : HO} (k : Keep u H H') (h : H a = some o) (n : a ≠ u) : H' a = some o := k a o h n
theorem sat {a : Addr} {H H' : Hp} {o : HO} (k : Same H H') (h : H a = some o) : H' a = some o := k a o h
theorem same_new {H : Hp} {p : Addr} {o : HO} (h : H p = none) : Same H (upd H p o) := fun b x e => by
  rw [upd_ne (ne_of_none e h)]
  exact e
theorem new_at {H : Hp} {p a : Addr} {o x : HO} (h : H p = none) (e : H a = some x) : upd H p o a = some x := same_new h a x e
theorem upd_at {H : Hp} {p a : Addr} {o x : HO} (n : a ≠ p) (e : H a = some x) : upd H p o a = some x := by
  rw [upd_ne n]
  exact e
theorem upd_none {H : Hp} {p a : Addr} {o : HO} (n : a ≠ p) (e : H a = none) : upd H p o a = none := by
  rw [upd_ne n]
  exact e
/-- what H does not know may change -/
theorem same_mut {H H' : Hp} {p : Addr} {o : HO} (e : Same H H') (h : H p = none) : Same H (upd H' p o) := fun a x q => by
  rw [upd_ne (ne_of_none q h)]
  exact e a x q
theorem keep_mut {u p : Addr} {H H' : Hp} {o : HO} (e : Keep u H H') (h : H p = none) : Keep u H (upd H' p o) := fun a x q n => by
  rw [upd_ne (ne_of_none q h)]
  exact e a x q n
theorem keep_self {u : Addr} {H H' : Hp} {o : HO} (e : Keep u H H') : Keep u H (upd H' u o) := fun a x q n => by
  rw [upd_ne n]
  exact e a x q n
theorem keep_new {u p : Addr} {H H' : Hp} {o : HO} (e : Keep u H H') (h : H' p = none) : Keep u H (upd H' p o) := e.same (same_new h)
theorem sq_l {K : PySem.W.Frag} {H : Hp} {a : Addr} {xs : List V} (h : H a = some (.lst xs)) : SqL K H a xs := .inl (.inl h)
theorem sq_t {K : PySem.W.Frag} {H : Hp} {a : Addr} {xs : List V} (h : H a = some (.tup xs)) : SqT K H a xs := .inl (.inl h)

/-! ### steps through a reading -/
section
variable {K : PySem.W.Frag} {σ : St} {H : Hp} {ta tb te tc : TE} {t u : TT} {ts us : TS} {Q : VK} {n r b c : St → Hp → Prop} {rt : VK} {bk ct : St → Hp → Prop}
theorem x_seq (h : ts ⟨us ⟨n, rt, bk, ct⟩, rt, bk, ct⟩ σ H) : tSeq ts us ⟨n, rt, bk, ct⟩ σ H := h
theorem x_next (h : n σ H) : tNext ⟨n, rt, bk, ct⟩ σ H := h
theorem x_break (h : bk σ H) : tBreak ⟨n, rt, bk, ct⟩ σ H := h
theorem x_cont (h : ct σ H) : tCont ⟨n, rt, bk, ct⟩ σ H := h
theorem x_asg {g : TG} (h : te σ H fun x H1 => g x σ H1 n) : tAsg te g ⟨n, rt, bk, ct⟩ σ H := h
theorem x_name {i : Nat} {v : V} {Qs : St → Hp → Prop} {σ' : St} (e : σ.set i (some v) = σ') (h : Qs σ' H) : gName i v σ H Qs := by
  subst e
  exact h
theorem x_drop (h : te σ H fun _ H1 => n σ H1) : tDrop te ⟨n, rt, bk, ct⟩ σ H := h
theorem x_ret (h : te σ H rt) : tRet te ⟨n, rt, bk, ct⟩ σ H := h
theorem x_retN (h : rt .non H) : tRetN ⟨n, rt, bk, ct⟩ σ H := h
theorem x_ifs (h : t σ H fun z H1 => if z = true then ts ⟨n, rt, bk, ct⟩ σ H1 else us ⟨n, rt, bk, ct⟩ σ H1) : tIfS t ts us ⟨n, rt, bk, ct⟩ σ H := h
theorem x_var {i : Nat} {v : V} (e : σ[i]? = some (some v)) (h : Q v H) : tVar i σ H Q := ⟨v, e, h⟩
theorem x_c {v : V} (h : Q v H) : tC v σ H Q := h
theorem x_op {r : R2} (h : ta σ H fun x H1 => tb σ H1 fun y H2 => r x y H2 Q) : tOp r ta tb σ H Q := h
theorem x_un {r : V → Hp → VK → Prop} (h : ta σ H fun x H1 => r x H1 Q) : tUn r ta σ H Q := h
theorem x_I0 {g : Int → Int → V} {i j : Int} (h : Q (g i j) H) : rI0 g (.int i) (.int j) H Q := ⟨i, j, rfl, rfl, h⟩
theorem x_I {C : Int → Int → Prop} {g : Int → Int → V} {i j : Int} (c : C i j) (h : Q (g i j) H) : rI C g (.int i) (.int j) H Q := ⟨i, j, rfl, rfl, c, h⟩
theorem x_U {g : Int → V} {i : Int} (h : Q (g i) H) : rU g (.int i) H Q := ⟨i, rfl, h⟩
theorem x_test {Qb : Bool → Hp → Prop} {f : TE} (h : f σ H fun x H1 => ∃ k, x = .bl k ∧ Qb k H1) : tTest f σ H Qb := h
theorem x_B {Qb : Bool → Hp → Prop} (h : te σ H fun x H1 => ∃ k, x = .bl k ∧ Qb k H1) : tB te σ H Qb := h
theorem x_bl {z : Bool} {P : Bool → Prop} (h : P z) : ∃ k, V.bl z = .bl k ∧ P k := ⟨z, rfl, h⟩
theorem x_not {Qb : Bool → Hp → Prop} (h : t σ H fun z H1 => Qb (!z) H1) : tNot t σ H Qb := h
theorem x_and {Qb : Bool → Hp → Prop} (h : t σ H fun z H1 => if z = true then u σ H1 Qb else Qb false H1) : tAnd t u σ H Qb := h
theorem x_or {Qb : Bool → Hp → Prop} (h : t σ H fun z H1 => if z = true then Qb true H1 else u σ H1 Qb) : tOr t u σ H Qb := h
theorem x_and' {p q : Prop} {dp : Decidable p} {dq : Decidable q} {Qb : Bool → Hp → Prop} (h1 : ∀ R : Bool → Hp → Prop, R (decide p) H → t σ H R) (h2 : p → ∀ R : Bool → Hp → Prop, R (decide q) H → u σ H R) (h : Qb (decide (p ∧ q)) H) : tAnd t u σ H Qb := by
  refine h1 _ ?_
  by_cases c : p
  · rw [decide_eq_true c]
    refine h2 c _ ?_
    have e : decide (p ∧ q) = decide q := by simp [c]
    rw [e] at h
    exact h
  · rw [decide_eq_false c]
    have e : decide (p ∧ q) = false := by simp [c]
    rw [e] at h
    exact h
theorem x_or' {p q : Prop} {dp : Decidable p} {dq : Decidable q} {Qb : Bool → Hp → Prop} (h1 : ∀ R : Bool → Hp → Prop, R (decide p) H → t σ H R) (h2 : ¬ p → ∀ R : Bool → Hp → Prop, R (decide q) H → u σ H R) (h : Qb (decide (p ∨ q)) H) : tOr t u σ H Qb := by
  refine h1 _ ?_
  by_cases c : p
  · rw [decide_eq_true c]
    have e : decide (p ∨ q) = true := by simp [c]
    rw [e] at h
    exact h
  · rw [decide_eq_false c]
    refine h2 c _ ?_
    have e : decide (p ∨ q) = decide q := by simp [c]
    rw [e] at h
    exact h
theorem x_andV (h : ta σ H fun x H1 => ∃ k, x = .bl k ∧ if k = true then tb σ H1 Q else Q (.bl false) H1) : tAndV ta tb σ H Q := h
theorem x_orV (h : ta σ H fun x H1 => ∃ k, x = .bl k ∧ if k = true then Q (.bl true) H1 else tb σ H1 Q) : tOrV ta tb σ H Q := h
theorem x_notV (h : ta σ H fun x H1 => ∃ k, x = .bl k ∧ Q (.bl (!k)) H1) : tNotV ta σ H Q := h
theorem x_if {t : TT} (h : t σ H fun z H1 => if z = true then ta σ H1 Q else tb σ H1 Q) : tIf t ta tb σ H Q := h
theorem x_eq {x y : V} (s : scal x y = true) (h : Q (.bl (decide (x = y))) H) : rEq x y H Q := ⟨s, h⟩
theorem x_ne {x y : V} (s : scal x y = true) (h : Q (.bl (!decide (x = y))) H) : rNe x y H Q := ⟨s, h⟩
theorem x_eqI {i j : Int} (h : Q (.bl (decide (i = j))) H) : rEq (.int i) (.int j) H Q := ⟨rfl, by
  have e : decide (V.int i = V.int j) = decide (i = j) := by
    by_cases q : i = j
    · subst q; simp
    · rw [decide_eq_false q, decide_eq_false fun z => q (V.int.inj z)]
  rw [e]; exact h⟩
theorem x_neI {i j : Int} (h : Q (.bl (!decide (i = j))) H) : rNe (.int i) (.int j) H Q := ⟨rfl, by
  have e : decide (V.int i = V.int j) = decide (i = j) := by
    by_cases q : i = j
    · subst q; simp
    · rw [decide_eq_false q, decide_eq_false fun z => q (V.int.inj z)]
  rw [e]; exact h⟩
theorem x_ixL {p : Addr} {xs : List V} {i : Int} {v : V} (s : H p = some (.lst xs)) (a : atI xs i = some v) (h : Q v H) : rIxL K (.ref p) (.int i) H Q := ⟨p, xs, i, v, rfl, rfl, sq_l s, a, h⟩
theorem x_ixLs {p : Addr} {xs : List V} {i : Int} {v : V} (s : SqL K H p xs) (a : atI xs i = some v) (h : Q v H) : rIxL K (.ref p) (.int i) H Q := ⟨p, xs, i, v, rfl, rfl, s, a, h⟩
theorem x_ixT {p : Addr} {xs : List V} {i : Int} {v : V} (s : H p = some (.tup xs)) (a : atI xs i = some v) (h : Q v H) : rIxT K (.ref p) (.int i) H Q := ⟨p, xs, i, v, rfl, rfl, sq_t s, a, h⟩
theorem x_nil {Qa : List V → Hp → Prop} (h : Qa [] H) : tNil σ H Qa := h
theorem x_cons {tr : TA} {Qa : List V → Hp → Prop} (h : ta σ H fun x H1 => tr σ H1 fun xs H2 => Qa (x :: xs) H2) : tCons ta tr σ H Qa := h
theorem x_cb {r : List V → Hp → VK → Prop} {tr : TA} (h : tr σ H fun vs H1 => r vs H1 Q) : tCB r tr σ H Q := h
theorem x_call {sp : Sp} {E : XK} {tr : TA} (h : tr σ H fun vs H1 => sp vs H1 Q E) : tCall sp [] E tr σ H Q := by
  have e : (fun (vs : List V) (H1 : Hp) => sp (vs ++ []) H1 Q E) = fun vs H1 => sp vs H1 Q E := by
    funext vs H1
    rw [List.append_nil]
  show tr σ H fun vs H1 => sp (vs ++ []) H1 Q E
  rw [e]
  exact h
theorem x_meth0 {C : Addr} {m : Str} {sp : Sp} {E : XK} (h : ta σ H fun x H1 => ∃ a dx fs, x = .ref a ∧ H1 a = some (.ins C dx fs) ∧ fs.lookup m = none ∧ sp [x] H1 Q E) : tMeth C m sp [] E ta tNil σ H Q := h
theorem x_meth {C : Addr} {m : Str} {sp : Sp} {E : XK} {tr : TA} (h : ta σ H fun x H1 => ∃ a dx fs, x = .ref a ∧ H1 a = some (.ins C dx fs) ∧ fs.lookup m = none ∧ tr σ H1 fun vs H2 => sp (x :: vs) H2 Q E) : tMeth C m sp [] E ta tr σ H Q := by
  have e : (fun (x : V) (vs : List V) (H1 : Hp) => sp (x :: (vs ++ [])) H1 Q E) = fun x vs H1 => sp (x :: vs) H1 Q E := by
    funext x vs H1
    rw [List.append_nil]
  show ta σ H fun x H1 => ∃ a dx fs, x = .ref a ∧ H1 a = some (.ins C dx fs) ∧ fs.lookup m = none ∧ tr σ H1 fun vs H2 => (fun (x : V) (vs : List V) (H1 : Hp) => sp (x :: (vs ++ [])) H1 Q E) x vs H2
  rw [e]
  exact h
theorem x_make {C : Addr} {sp : Sp} {E : XK} {tr : TA} (h : tr σ H fun vs H1 => ∀ x dx, H1 x = none → H1 dx = none → dx ≠ x → sp (.ref x :: vs) (upd (upd H1 dx (.own x)) x (.ins C dx [])) (fun v H2 => v = .non ∧ Q (.ref x) H2) E) : tMake C sp [] E tr σ H Q := by
  have e : (fun (vs : List V) (H1 : Hp) => ∀ x dx, H1 x = none → H1 dx = none → dx ≠ x → sp (.ref x :: (vs ++ [])) (upd (upd H1 dx (.own x)) x (.ins C dx [])) (fun v H2 => v = .non ∧ Q (.ref x) H2) E) =
      fun vs H1 => ∀ x dx, H1 x = none → H1 dx = none → dx ≠ x → sp (.ref x :: vs) (upd (upd H1 dx (.own x)) x (.ins C dx [])) (fun v H2 => v = .non ∧ Q (.ref x) H2) E := by
    funext vs H1
    rw [List.append_nil]
  show tr σ H (fun (vs : List V) (H1 : Hp) => ∀ x dx, H1 x = none → H1 dx = none → dx ≠ x → sp (.ref x :: (vs ++ [])) (upd (upd H1 dx (.own x)) x (.ins C dx [])) (fun v H2 => v = .non ∧ Q (.ref x) H2) E)
  rw [e]
  exact h
theorem x_ins {C : Addr} {m : Str} {P : Prop} {a dx : Addr} {fs : List (Str × V)} (h : H a = some (.ins C dx fs)) (l : fs.lookup m = none) (k : P) : ∃ a' dx' fs', V.ref a = .ref a' ∧ H a' = some (.ins C dx' fs') ∧ fs'.lookup m = none ∧ P := ⟨a, dx, fs, rfl, h, l, k⟩
theorem x_prop {C : Addr} {sp : Sp} {E : XK} (h : te σ H fun x H1 => ∃ a dx fs, x = .ref a ∧ H1 a = some (.ins C dx fs) ∧ sp [.ref a] H1 Q E) : tProp C sp [] E te σ H Q := h
theorem x_inp {C : Addr} {sp : Sp} {E : XK} {a dx : Addr} {fs : List (Str × V)} (h : H a = some (.ins C dx fs)) (k : sp [.ref a] H Q E) : ∃ a' dx' fs', V.ref a = .ref a' ∧ H a' = some (.ins C dx' fs') ∧ sp [.ref a'] H Q E := ⟨a, dx, fs, rfl, h, k⟩
theorem x_tup {tr : TA} (h : tr σ H fun xs H1 => xs.length ≤ sizeLine ∧ ∀ p, H1 p = none → Q (.ref p) (upd H1 p (.tup xs))) : tTup tr σ H Q := h
theorem x_lst {tr : TA} (h : tr σ H fun xs H1 => xs.length ≤ sizeLine ∧ ∀ p, H1 p = none → Q (.ref p) (upd H1 p (.lst xs))) : tLst tr σ H Q := h
theorem x_bm {T : String} {r : V → List V → Hp → VK → Prop} {tr : TA} (h : ta σ H fun x H1 => tyV K T x H1 ∧ tr σ H1 fun xs H2 => r x xs H2 Q) : tBM K T r ta tr σ H Q := h
theorem x_bm0 {T : String} {r : V → List V → Hp → VK → Prop} (h : ta σ H fun x H1 => tyV K T x H1 ∧ r x [] H1 Q) : tBM0 K T r ta σ H Q := h
theorem x_tyL {p : Addr} {xs : List V} {P : Prop} (s : H p = some (.lst xs)) (h : P) : tyV K "list" (.ref p) H ∧ P := ⟨.inl ⟨rfl, _, sq_l s⟩, h⟩
theorem x_append {p : Addr} {xs : List V} {v : V} (s : H p = some (.lst xs)) (l : xs.length < sizeLine) (h : Q .non (upd H p (.lst (xs ++ [v])))) : rAppend (.ref p) [v] H Q := ⟨p, xs, v, rfl, rfl, s, l, h⟩
theorem x_setL {p : Addr} {xs : List V} {k : Int} {v : V} {Qh : Hp → Prop} (s : H p = some (.lst xs)) (a : 0 ≤ k) (l : k < xs.length) (h : Qh (upd H p (.lst (xs.set k.toNat v)))) : rSetL (.ref p) (.int k) v H Qh :=
  ⟨p, xs, k, k.toNat, rfl, rfl, s, by unfold ixN; rw [if_pos a, if_pos l], h⟩
theorem x_sub {to ti : TE} {tset : TSet} {v : V} {Qs : St → Hp → Prop} (h : to σ H fun o H1 => ti σ H1 fun i H2 => tset o i v H2 fun H3 => Qs σ H3) : gSub to ti tset v σ H Qs := h
theorem x_gTup {nn : Nat} {g : TGs} {p : Addr} {xs : List V} {Qs : St → Hp → Prop} (s : H p = some (.tup xs)) (l : xs.length = nn) (h : g xs σ H Qs) : gTup K nn g (.ref p) σ H Qs := ⟨p, xs, rfl, sq_t s, l, h⟩
theorem x_gCons {g : TG} {gs : TGs} {v : V} {vs : List V} {Qs : St → Hp → Prop} (h : g v σ H fun σ' H' => gs vs σ' H' Qs) : gCons g gs (v :: vs) σ H Qs := ⟨v, vs, rfl, h⟩
theorem x_gNil {Qs : St → Hp → Prop} (h : Qs σ H) : gNil [] σ H Qs := ⟨rfl, h⟩
theorem x_augI {i : Nat} {f : Int → Int → Int} {a : Int} (e : σ[i]? = some (some (.int a))) (h : te σ H fun y H1 => ∃ b, y = .int b ∧ n (σ.set i (some (.int (f a b)))) H1) : tAug i te (ipI f) ⟨n, rt, bk, ct⟩ σ H := ⟨.int a, e, by
  have w : ∀ (y : V) (H1 : Hp), (∃ b, y = .int b ∧ n (σ.set i (some (.int (f a b)))) H1) → ipI f (.int a) y H1 fun z H2 => n (σ.set i (some z)) H2 := fun y H1 ⟨b, e1, q⟩ => ⟨a, b, rfl, e1, q⟩
  have e : (fun (y : V) (H1 : Hp) => ∃ b, y = .int b ∧ n (σ.set i (some (.int (f a b)))) H1) = fun y H1 => ipI f (.int a) y H1 fun z H2 => n (σ.set i (some z)) H2 := by
    funext y H1
    exact propext ⟨w y H1, fun ⟨i1, j1, e1, e2, q⟩ => ⟨j1, e2, by cases e1; exact q⟩⟩
  show te σ H fun y H1 => ipI f (.int a) y H1 fun z H2 => n (σ.set i (some z)) H2
  rw [← e]
  exact h⟩
theorem x_int {i : Int} {P : Int → Prop} (h : P i) : ∃ b, V.int i = .int b ∧ P b := ⟨i, rfl, h⟩
theorem x_it {p : Prop} {_d : Decidable p} {A B : Prop} (c : p) (h : A) : if decide p = true then A else B := by rw [decide_eq_true c]; exact h
theorem x_if0 {p : Prop} {_d : Decidable p} {A B : Prop} (c : ¬ p) (h : B) : if decide p = true then A else B := by rw [decide_eq_false c]; exact h
theorem x_ite {p : Prop} {_d : Decidable p} {A B : Prop} (h1 : p → A) (h2 : ¬ p → B) : if decide p = true then A else B := by
  by_cases q : p
  · rw [decide_eq_true q]; exact h1 q
  · rw [decide_eq_false q]; exact h2 q
theorem x_iten {p : Prop} {_d : Decidable p} {A B : Prop} (h1 : ¬ p → A) (h2 : p → B) : if (!decide p) = true then A else B := by
  by_cases q : p
  · rw [decide_eq_true q]; exact h2 q
  · rw [decide_eq_false q]; exact h1 q
theorem x_itb {z : Bool} {A B : Prop} (h1 : z = true → A) (h2 : z = false → B) : if z = true then A else B := by
  cases z
  · exact h2 rfl
  · exact h1 rfl
theorem x_itn0 {p : Prop} {_d : Decidable p} {A B : Prop} (c : p) (h : B) : if (!decide p) = true then A else B := by rw [decide_eq_true c]; exact h
theorem x_itn1 {p : Prop} {_d : Decidable p} {A B : Prop} (c : ¬ p) (h : A) : if (!decide p) = true then A else B := by rw [decide_eq_false c]; exact h
theorem x_cut (Mid : St → Hp → Prop) (h : ts ⟨Mid, rt, bk, ct⟩ σ H) (k : ∀ σ' H', Mid σ' H' → us ⟨n, rt, bk, ct⟩ σ' H') : Evl.tCut ts us ⟨n, rt, bk, ct⟩ σ H := ⟨Mid, h, k⟩
theorem x_nT {A B : Prop} (h : B) : if (!true) = true then A else B := h
theorem x_nF {A B : Prop} (h : A) : if (!false) = true then A else B := h
theorem x_T {A B : Prop} (h : A) : if true = true then A else B := h
theorem x_F {A B : Prop} (h : B) : if false = true then A else B := h
theorem x_intI {i : Int} {C : Prop} (h : Q (.int i) H) : (∃ j, [V.int i] = [.int j] ∧ Q (.int j) H) ∨ C := .inl ⟨i, rfl, h⟩
end
section
variable {σ : St} {H : Hp} {ta : TE} {Q : VK}
theorem x_tRg1 {Qr : Int → Int → Hp → Prop} (h : ta σ H fun x H1 => ∃ n, x = .int n ∧ Qr 0 n H1) : tRg1 ta σ H Qr := h
theorem x_rgN {N : Int} {Qr : Int → Prop} (h : Qr N) : ∃ n, V.int N = .int n ∧ Qr n := ⟨N, rfl, h⟩
theorem x_rgOk {N : Int} {A : Prop} (a : 0 ≤ N) (b : N ≤ 100000) (h : A) : RgOk 0 N ∧ A := ⟨RgOk.of_le (by decide) (by omega) (by decide) a, h⟩
theorem x_lstRg {te : St → Hp → (Int → Int → Hp → Prop) → Prop} (h : te σ H fun a b H1 => RgOk a b ∧ ∀ q, H1 q = none → Q (.ref q) (upd H1 q (.lst (rgV a b)))) : tLstRg te σ H Q := h
end
theorem sz_ok {n : Nat} (h : n ≤ 100000) : n ≤ sizeLine := Nat.le_trans h (by decide)
theorem sz_lt {n : Nat} (h : n < 100000) : n < sizeLine := Nat.lt_of_lt_of_le h (by decide)
theorem mul_l {i j : Int} (h1 : -(2 ^ 64) < i) (h2 : i < 2 ^ 64) : CMul i j := .inl ⟨h1, h2⟩
theorem mul_r {i j : Int} (h1 : -(2 ^ 64) < j) (h2 : j < 2 ^ 64) : CMul i j := .inr ⟨h1, h2⟩

section
variable {H : Hp} {Q : VK} {g : Int → Int → V} {i j : Int}
theorem x_div (a : 0 < j) (b : j < 1073741824) (h : Q (g i j) H) : rI CDiv g (.int i) (.int j) H Q := x_I ⟨a, b⟩ h
theorem x_mod (a : 0 < j) (h : Q (g i j) H) : rI (fun _ j => 0 < j) g (.int i) (.int j) H Q := x_I a h
theorem x_mull (a : -(2 ^ 64) < i) (b : i < 2 ^ 64) (h : Q (g i j) H) : rI CMul g (.int i) (.int j) H Q := x_I (mul_l a b) h
theorem x_mulr (a : -(2 ^ 64) < j) (b : j < 2 ^ 64) (h : Q (g i j) H) : rI CMul g (.int i) (.int j) H Q := x_I (mul_r a b) h
theorem x_pow (a : 0 ≤ j) (b : j ≤ 1000000) (c : i.natAbs < 2 ^ 64) (h : Q (g i j) H) : rI CPow g (.int i) (.int j) H Q := x_I ⟨a, b, c⟩ h
theorem x_divW (a : 0 < j) (b : j.natAbs < 2 ^ 64) (h : Q (g i j) H) : rI CDivW g (.int i) (.int j) H Q := x_I (wide_div a b (by decide) (by decide)) h
end
/-! ### built-ins, their readings by name -/
def rInt : List V → Hp → VK → Prop := fun xs H Q => (∃ i, xs = [.int i] ∧ Q (.int i) H) ∨ ∃ k, xs = [.bl k] ∧ Q (.int (if k then 1 else 0)) H
def rLen (K : PySem.W.Frag) : List V → Hp → VK → Prop := fun xs H Q => ∃ p ys, xs = [.ref p] ∧ (SqL K H p ys ∨ SqT K H p ys) ∧ Q (.int ys.length) H
def rListOf (K : PySem.W.Frag) : List V → Hp → VK → Prop := fun xs H Q => ∃ p ys, xs = [.ref p] ∧ (SqL K H p ys ∨ SqT K H p ys) ∧ ∀ l, H l = none → Q (.ref l) (upd H l (.lst ys))
def rMax2 : List V → Hp → VK → Prop := fun xs H Q => ∃ i j, xs = [.int i, .int j] ∧ Q (.int (if j > i then j else i)) H
def rMin2 : List V → Hp → VK → Prop := fun xs H Q => ∃ i j, xs = [.int i, .int j] ∧ Q (.int (if j < i then j else i)) H
section
variable {X : Cx}
theorem cl_int : CallR X (.type "int") rInt := call_int1
theorem cl_max2 (hc : X.calm = true) : CallR X (.builtin "max") rMax2 := call_max2 hc
theorem cl_min2 (hc : X.calm = true) : CallR X (.builtin "min") rMin2 := call_min2 hc
end
section
variable {K : PySem.W.Frag} {H : Hp} {Q : VK}
theorem x_int_i {i : Int} (h : Q (.int i) H) : rInt [.int i] H Q := .inl ⟨i, rfl, h⟩
theorem x_int_b {b : Bool} (h : Q (.int (if b then 1 else 0)) H) : rInt [.bl b] H Q := .inr ⟨b, rfl, h⟩
theorem x_len {p : Addr} {ys : List V} (s : H p = some (.lst ys)) (h : Q (.int ys.length) H) : rLen K [.ref p] H Q := ⟨p, ys, rfl, .inl (sq_l s), h⟩
theorem x_lenT {p : Addr} {ys : List V} (s : H p = some (.tup ys)) (h : Q (.int ys.length) H) : rLen K [.ref p] H Q := ⟨p, ys, rfl, .inr (sq_t s), h⟩
theorem x_lenS {p : Addr} {ys : List V} (s : SqL K H p ys) (h : Q (.int ys.length) H) : rLen K [.ref p] H Q := ⟨p, ys, rfl, .inl s, h⟩
theorem x_listOf {p : Addr} {ys : List V} (s : H p = some (.lst ys)) (h : ∀ l, H l = none → Q (.ref l) (upd H l (.lst ys))) : rListOf K [.ref p] H Q := ⟨p, ys, rfl, .inl (sq_l s), h⟩
theorem x_max2 {i j : Int} (h : Q (.int (if j > i then j else i)) H) : rMax2 [.int i, .int j] H Q := ⟨i, j, rfl, h⟩
theorem x_min2 {i j : Int} (h : Q (.int (if j < i then j else i)) H) : rMin2 [.int i, .int j] H Q := ⟨i, j, rfl, h⟩
theorem x_sz {n : Nat} {A : Prop} (s : n ≤ 100000) (h : A) : n ≤ sizeLine ∧ A := ⟨sz_ok s, h⟩
theorem x_isi {x c : V} {t u : Value} {b : Bool} (k : ClsV c u) (ty : TyX K H x t) (e : PySem.W.kitOne K t u = some b) (h : Q (.bl b) H) : rIsi K [x, c] H Q := ⟨x, c, t, u, b, rfl, k, ty, e, h⟩
theorem x_ext {l b : Addr} {xs zs : List V} (s : H l = some (.lst xs)) (s2 : H b = some (.lst zs)) (z : xs.length + zs.length ≤ 100000) (h : Q .non (upd H l (.lst (xs ++ zs)))) : rExtend (.ref l) [.ref b] H Q := ⟨l, b, xs, zs, rfl, rfl, s, s2, sz_ok z, h⟩
theorem x_rev {l : Addr} {xs : List V} (s : H l = some (.lst xs)) (h : Q .non (upd H l (.lst xs.reverse))) : rReverse (.ref l) [] H Q := ⟨l, xs, rfl, rfl, s, h⟩
theorem x_popAt {l : Addr} {xs : List V} {k : Int} {y : V} (s : H l = some (.lst xs)) (z : xs.length ≤ 100000) (a : 0 ≤ k) (e : xs[k.toNat]? = some y) (h : Q y (upd H l (.lst (xs.eraseIdx k.toNat)))) : rPopAt (.ref l) [.int k] H Q := by
  have hk := (List.getElem?_eq_some_iff.mp e).1
  exact ⟨l, xs, k, k.toNat, y, rfl, rfl, s, by omega, by omega, PySem.seqIndex_of a (by omega), e, h⟩
end

/-! ### rules with the written part by name (within a block, too) -/
section
variable {X : Cx} (K : PySem.W.Frag) (hK : X.K = K := by rfl)
include hK
theorem cl_len : CallR X (.builtin "len") (rLen K) := by subst hK; exact call_len_seq
theorem cl_listOf : CallR X (.type "list") (rListOf K) := by subst hK; exact call_list_of
theorem cl_isi : CallR X (.builtin "isinstance") (rIsi K) := by subst hK; exact call_isi
theorem cl_sortedI : CallR X (.builtin "sorted") (rSortedI K) := by subst hK; exact cr_sortedI
theorem cl_sortedPO : CallR X (.builtin "sorted") (rSortedPO K) := by subst hK; exact cr_sortedPO
theorem ix_l : IxR X (rIxL K) := by subst hK; exact ix_list
theorem ix_t : IxR X (rIxT K) := by subst hK; exact ix_tup
theorem k_in : OpR X (compareOp .In) (rIn K false) := by subst hK; exact op_in_seq
theorem k_nin : OpR X (compareOp .NotIn) (rIn K true) := by subst hK; exact op_notIn_seq
theorem k_sll : SlR X (rSlL K) := by subst hK; exact sl_list
theorem k_slt : SlR X (rSlT K) := by subst hK; exact sl_tup
end
section
variable {X : Cx} (K : PySem.W.Frag)
theorem cl_all (hc : X.calm = true) (hK : X.K = K := by rfl) : CallR X (.builtin "all") (rAll K) := by subst hK; exact cr_all hc
theorem cl_any (hc : X.calm = true) (hK : X.K = K := by rfl) : CallR X (.builtin "any") (rAny K) := by subst hK; exact cr_any hc
theorem cl_sum (hc : X.calm = true) (hK : X.K = K := by rfl) : CallR X (.builtin "sum") (rSum K) := by subst hK; exact cr_sum hc
theorem cl_max (hc : X.calm = true) (hK : X.K = K := by rfl) : CallR X (.builtin "max") (rMax K) := by subst hK; exact cr_max hc
theorem cl_min (hc : X.calm = true) (hK : X.K = K := by rfl) : CallR X (.builtin "min") (rMin K) := by subst hK; exact cr_min hc
theorem k_eqD (hu : X.A.units + 64 < cLine) (hK : X.K = K := by rfl) : OpR X (compareOp .Eq) (rEqD K) := by subst hK; exact op_eqD hu
theorem k_neD (hu : X.A.units + 64 < cLine) (hK : X.K = K := by rfl) : OpR X (compareOp .NotEq) (rNeD K) := by subst hK; exact op_neD hu
theorem k_inD (hu : X.A.units + 65 < cLine) (hK : X.K = K := by rfl) : OpR X (compareOp .In) (rInD K) := by subst hK; exact op_inD hu
theorem k_ninD (hu : X.A.units + 65 < cLine) (hK : X.K = K := by rfl) : OpR X (compareOp .NotIn) (rNotInD K) := by subst hK; exact op_notInD hu
variable {e o value : Expr} {f : Str} {pos pos' apos cpos : Pos} {ta tv to te : TE}
theorem k_fld (he : PE X e ta) (hb : attributeBase e f X.env (eval e X.env) = eval e X.env) (hK : X.K = K := by rfl) : PE X (.Attribute e f pos) (tFld K ta f) := by subst hK; exact pe_fld he hb
theorem k_sfld (ha : PE X o ta) (hv : PE X value tv) (hs : swapsWith value (some (.Attribute o f pos')) pos.line X.env = pure false) (hK : X.K = K := by rfl) : PS X (.Assign [.Attribute o f pos'] value pos) (sFld K ta tv f) := by subst hK; exact ps_fld ha hv hs
theorem k_tup {es : List Expr} {k : Nat} {t : TGs} {n : Nat} (hc : X.calm = true) (h : PGs X es t)
    (hn : (assignEach es X.env).length = n := by rfl) (hst : (assignEach es X.env).findIdx? (·.1) = none := by rfl) (hK : X.K = K := by rfl) : PG X (.Tuple es k pos) (gTup K n t) := by subst hK; exact pg_tup hc h hn hst
theorem k_pil {tg l : Expr} {tl : TE} (hl : PE X l tl) (hK : X.K = K := by rfl) : PI X tg l (iList K tl) := by subst hK; exact pi_list hl
theorem k_pit {tg l : Expr} {tl : TE} (hl : PE X l tl) (hK : X.K = K := by rfl) : PI X tg l (iTup K tl) := by subst hK; exact pi_tup hl
theorem k_bm {T : String} {name : Str} {id : String} {r : V → List V → Hp → VK → Prop} {es : List Expr} {t : TA} (pa : PlainAttrs T) (slot : Slot T name id) (hty : typeOf (.builtin id) = pure (.type "method_descriptor")) (hm : MtR X id r) (ho : PE X o to) (ha : PA X (e :: es) t)
    (hbase : attributeBase o name X.env (eval o X.env) = eval o X.env := by rfl)
    (hfew : ((backTo cpos (starEach (e :: es) X.env)).all (fun x => !x.1) && (backToKw cpos (keywordEach [] X.env)).all (fun x => x.1.isSome)
      && decide ((e :: es).length + ([] : List Keyword).length + (if ([] : List Keyword).isEmpty then 0 else 1) < 30)) = true := by rfl)
    (hline : (apos.endLine == cpos.line) = true := by rfl) (hs : starEach (e :: es) X.env = (false, eval e X.env) :: starEach es X.env := by rfl) (hplain : (backTo cpos (starEach es X.env)).any (·.1) = false := by rfl) (hK : X.K = K := by rfl) :
    PE X (.Call (.Attribute o name apos) (e :: es) [] cpos) (tBM K T r to t) := by subst hK; exact pe_bm pa slot hty hm ho ha hbase hfew hline hs hplain
theorem k_bm0 {T : String} {name : Str} {id : String} {r : V → List V → Hp → VK → Prop} (pa : PlainAttrs T) (slot : Slot T name id) (hty : typeOf (.builtin id) = pure (.type "method_descriptor")) (hm : MtR X id r) (ho : PE X o to)
    (hbase : attributeBase o name X.env (eval o X.env) = eval o X.env := by rfl) (hline : (apos.endLine == cpos.line) = true := by rfl) (hK : X.K = K := by rfl) : PE X (.Call (.Attribute o name apos) [] [] cpos) (tBM0 K T r to) := by subst hK; exact pe_bm0 pa slot hty hm ho hbase hline
end
theorem hu65 {k : Nat} {A : Around} (hr : Room k A) : A.units + 65 < cLine := by
  have := hr.un
  omega

/-! ### calls by name, with what may leave -/
structure Cal (P : Program) (w : World) (K : PySem.W.Frag) (mg : Str → Option Value) (base : Heap) (CX : CXT) (k : Nat) (x : Str) (sp : Sp) : Prop where
  ex : ∃ (f : Addr) (fd : FuncData) (ps : List Str), FnOk P w K mg base CX k f fd ps sp ∧ mg x = some (.ref f) ∧ PySem.W.keepIn K (.ref f) = true ∧ Binds K fd ps []
theorem pe_cal {X : Cx} {CX : CXT} {k j : Nat} {x : Str} {sp : Sp} {E : XK} {e : Expr} {es : List Expr} {t : TA} {p pos : Pos} (c : Cal X.prog X.w X.K X.mg X.base CX k x sp) (hr : Room j X.A) (hk : k ≤ j) (hg : Gl X x) (hx : Passes CX X E) (ht : PA X (e :: es) t)
    (hdb : (x == ("__debug__" : Str)) = false := by decide) (he : starEach (e :: es) X.env = (false, eval e X.env) :: starEach es X.env := by rfl) (hpl : (backTo pos (starEach es X.env)).any (·.1) = false := by rfl) :
    PE X (.Call (.Name x p) (e :: es) [] pos) (tCall sp [] E t) := by
  obtain ⟨f, fd, ps, F, hm, kp, b⟩ := c.ex
  exact pe_call F (hr.mono hk) hg hm kp b .nil hx ht hdb he hpl
/-! ### loops, comprehensions: the questions by name -/
/-- a for over what J walks -/
def FW (J : It) (g : TG) (tb : TS) (D : Ends) (σ : St) (H1 : Hp) : Prop := ∃ W : Nat → Nat → St → Hp → Prop, (∃ m, W 0 m σ H1) ∧ ∀ i m σ H, W i m σ H →
  (J.stop i H ∧ D.nx σ H) ∨ (J.go i H ∧ ∃ N : St → Hp → Prop, (∀ σ' H', N σ' H' → ∃ m', m' < m ∧ W (i + 1) m' σ' H') ∧ ∀ x H', J.yld i H x H' → g x σ H' fun σ2 H2 => tb { D with nx := N, ct := N, bk := D.nx } σ2 H2)
/-- a comprehension over what J walks, its list at D -/
def LW (J : It) (D : Addr) (g : TG) (tt : TT) (te : TE) (vs : List Nat) (σ : St) (H1 : Hp) (Q : VK) : Prop := ∃ W : Nat → Nat → Hp → Prop, (∃ m, W 0 m (upd H1 D (.lst []))) ∧ ∀ i m H, W i m H →
  (J.stop i H ∧ Q (.ref D) H) ∨ (J.go i H ∧ ∃ Nx : Hp → Prop, (∀ H', Nx H' → ∃ m', m' < m ∧ W (i + 1) m' H') ∧ ∀ x H', J.yld i H x H' → g x (wipe σ vs) H' fun σ2 H2 => wipe σ2 vs = wipe σ vs ∧ tt σ2 H2 fun b H3 =>
    if b = true then te σ2 H3 fun y H4 => ∃ acc, H4 D = some (.lst acc) ∧ acc.length < sizeLine ∧ Nx (upd H4 D (.lst (acc ++ [y]))) else Nx H3)
def Rg1 (vs : List V) (H : Hp) (R : It → Hp → Prop) : Prop := ∃ j : Int, vs = [.int j] ∧ -(2 ^ 62) ≤ j ∧ j < 2 ^ 62 ∧ R (Itr 0 j.toNat) H
def Rg2 (vs : List V) (H : Hp) (R : It → Hp → Prop) : Prop := ∃ i j : Int, vs = [.int i, .int j] ∧ (-(2 ^ 62) ≤ i ∧ i < 2 ^ 62 ∧ -(2 ^ 62) ≤ j ∧ j < 2 ^ 62) ∧ R (Itr i (j - i).toNat) H
def Il (K : PySem.W.Frag) (x : V) (H : Hp) (R : It → Hp → Prop) : Prop := ∃ a, x = .ref a ∧ (∃ xs, SqL K H a xs) ∧ R (Itl K a) H
section
variable {K : PySem.W.Frag} {σ : St} {H : Hp} {ta : TA} {te tl : TE} {tt : TT} {wi : TI} {g : TG} {tb : TS} {Q : VK} {D : Ends} {R : It → Hp → Prop} {vs : List Nat}
theorem x_for {n : St → Hp → Prop} {rt : VK} {bk ct : St → Hp → Prop} (h : wi σ H fun J H1 => FW J g tb ⟨n, rt, bk, ct⟩ σ H1) : tFor wi g tb ⟨n, rt, bk, ct⟩ σ H := h
theorem x_lc (h : wi σ H fun J H1 => ∀ D, H1 D = none → LW J D g tt te vs σ H1 Q) : tLc wi g tt te vs σ H Q := h
theorem x_rg1 (h : ta σ H fun vs H1 => Rg1 vs H1 R) : iRng1 ta σ H R := h
theorem x_rg2 (h : ta σ H fun vs H1 => Rg2 vs H1 R) : iRng2 ta σ H R := h
theorem x_il (h : tl σ H fun x H1 => Il K x H1 R) : iList K tl σ H R := h
theorem x_r1 {j : Int} (a : -(2 ^ 62) ≤ j) (b : j < 2 ^ 62) (h : R (Itr 0 j.toNat) H) : Rg1 [.int j] H R := ⟨j, rfl, a, b, h⟩
theorem x_r2 {i j : Int} (a : -(2 ^ 62) ≤ i) (a' : i < 2 ^ 62) (b : -(2 ^ 62) ≤ j) (b' : j < 2 ^ 62) (h : R (Itr i (j - i).toNat) H) : Rg2 [.int i, .int j] H R := ⟨i, j, rfl, ⟨a, a', b, b'⟩, h⟩
theorem x_ill {a : Addr} {xs : List V} (s : H a = some (.lst xs)) (h : R (Itl K a) H) : Il K (.ref a) H R := ⟨a, rfl, ⟨xs, sq_l s⟩, h⟩
theorem x_ils {a : Addr} {xs : List V} (s : SqL K H a xs) (h : R (Itl K a) H) : Il K (.ref a) H R := ⟨a, rfl, ⟨xs, s⟩, h⟩
/-- for i in range: the invariant, its start, a turn, the end -/
theorem x_fwR {lo : Int} {n : Nat} {nx : St → Hp → Prop} {rt : VK} {bk ct : St → Hp → Prop} (Pv : Nat → St → Hp → Prop) (h0 : Pv 0 σ H)
    (hs : ∀ i σ H, i < n → Pv i σ H → g (.int (lo + (i : Int))) σ H fun σ2 H2 => tb ⟨Pv (i + 1), rt, nx, Pv (i + 1)⟩ σ2 H2) (hd : ∀ σ H, Pv n σ H → nx σ H) : FW (Itr lo n) g tb ⟨nx, rt, bk, ct⟩ σ H :=
  for_range (D := ⟨nx, rt, bk, ct⟩) Pv h0 hs hd
theorem x_fwL {a : Addr} {xs : List V} {nx : St → Hp → Prop} {rt : VK} {bk ct : St → Hp → Prop} (Pv : Nat → St → Hp → Prop) (h0 : Pv 0 σ H) (hl : ∀ i σ H, i ≤ xs.length → Pv i σ H → SqL K H a xs)
    (hs : ∀ i x σ H, xs[i]? = some x → Pv i σ H → g x σ H fun σ2 H2 => tb ⟨Pv (i + 1), rt, nx, Pv (i + 1)⟩ σ2 H2) (hd : ∀ σ H, Pv xs.length σ H → nx σ H) : FW (Itl K a) g tb ⟨nx, rt, bk, ct⟩ σ H :=
  for_list (D := ⟨nx, rt, bk, ct⟩) Pv h0 hl hs hd
/-- comprehensions -/
theorem x_lwR {lo : Int} {n : Nat} {Dl : Addr} (Pv : Nat → Hp → Prop) (h0 : Pv 0 (upd H Dl (.lst [])))
    (hs : ∀ i H, i < n → Pv i H → g (.int (lo + (i : Int))) (wipe σ vs) H fun σ2 H2 => wipe σ2 vs = wipe σ vs ∧ tt σ2 H2 fun b H3 =>
      if b = true then te σ2 H3 fun y H4 => ∃ acc, H4 Dl = some (.lst acc) ∧ acc.length < sizeLine ∧ Pv (i + 1) (upd H4 Dl (.lst (acc ++ [y]))) else Pv (i + 1) H3) (hd : ∀ H, Pv n H → Q (.ref Dl) H) :
    LW (Itr lo n) Dl g tt te vs σ H Q := lc_range (Qd := fun H => Q (.ref Dl) H) Pv h0 hs hd
theorem x_lwL {a : Addr} {xs : List V} {Dl : Addr} (Pv : Nat → Hp → Prop) (h0 : Pv 0 (upd H Dl (.lst []))) (hl : ∀ i H, i ≤ xs.length → Pv i H → SqL K H a xs)
    (hs : ∀ i x H, xs[i]? = some x → Pv i H → g x (wipe σ vs) H fun σ2 H2 => wipe σ2 vs = wipe σ vs ∧ tt σ2 H2 fun b H3 =>
      if b = true then te σ2 H3 fun y H4 => ∃ acc, H4 Dl = some (.lst acc) ∧ acc.length < sizeLine ∧ Pv (i + 1) (upd H4 Dl (.lst (acc ++ [y]))) else Pv (i + 1) H3) (hd : ∀ H, Pv xs.length H → Q (.ref Dl) H) :
    LW (Itl K a) Dl g tt te vs σ H Q := lc_list (Qd := fun H => Q (.ref Dl) H) Pv h0 hl hs hd
theorem x_fwR0 {n : Nat} {nx : St → Hp → Prop} {rt : VK} {bk ct : St → Hp → Prop} (Pv : Nat → St → Hp → Prop) (h0 : Pv 0 σ H)
    (hs : ∀ i σ H, i < n → Pv i σ H → g (.int (i : Int)) σ H fun σ2 H2 => tb ⟨Pv (i + 1), rt, nx, Pv (i + 1)⟩ σ2 H2) (hd : ∀ σ H, Pv n σ H → nx σ H) : FW (Itr 0 n) g tb ⟨nx, rt, bk, ct⟩ σ H :=
  x_fwR Pv h0 (fun i σ H hi p => by rw [Int.zero_add]; exact hs i σ H hi p) hd
theorem x_lwR0 {n : Nat} {Dl : Addr} (Pv : Nat → Hp → Prop) (h0 : Pv 0 (upd H Dl (.lst [])))
    (hs : ∀ i H, i < n → Pv i H → g (.int (i : Int)) (wipe σ vs) H fun σ2 H2 => wipe σ2 vs = wipe σ vs ∧ tt σ2 H2 fun b H3 =>
      if b = true then te σ2 H3 fun y H4 => ∃ acc, H4 Dl = some (.lst acc) ∧ acc.length < sizeLine ∧ Pv (i + 1) (upd H4 Dl (.lst (acc ++ [y]))) else Pv (i + 1) H3) (hd : ∀ H, Pv n H → Q (.ref Dl) H) :
    LW (Itr 0 n) Dl g tt te vs σ H Q := x_lwR Pv h0 (fun i H hi p => by rw [Int.zero_add]; exact hs i H hi p) hd
theorem x_while {c : TT} {nx : St → Hp → Prop} {rt : VK} {bk ct : St → Hp → Prop} (W : Nat → St → Hp → Prop) (m0 : Nat) (h0 : W m0 σ H)
    (hs : ∀ m σ H, W m σ H → c σ H fun b H1 => if b = true then ∃ N : St → Hp → Prop, (∀ σ' H', N σ' H' → ∃ m', m' < m ∧ W m' σ' H') ∧ tb ⟨N, rt, nx, N⟩ σ H1 else nx σ H1) : tWhile c tb ⟨nx, rt, bk, ct⟩ σ H := ⟨W, ⟨m0, h0⟩, hs⟩
theorem x_wgo {nx : St → Hp → Prop} {rt : VK} {W : Nat → St → Hp → Prop} {m : Nat} (h : tb ⟨fun σ' H' => ∃ m', m' < m ∧ W m' σ' H', rt, nx, fun σ' H' => ∃ m', m' < m ∧ W m' σ' H'⟩ σ H) :
    ∃ N : St → Hp → Prop, (∀ σ' H', N σ' H' → ∃ m', m' < m ∧ W m' σ' H') ∧ tb ⟨N, rt, nx, N⟩ σ H := ⟨_, fun _ _ h => h, h⟩
theorem x_yes {Qb : Bool → Hp → Prop} (h : Qb true H) : tYes σ H Qb := h
theorem x_wipe {σ2 σ1 : St} {A : Prop} (e : σ2 = σ1) (h : A) : σ2 = σ1 ∧ A := ⟨e, h⟩
theorem x_acc {Dl : Addr} {acc : List V} {P : Hp → Prop} {y : V} (s : H Dl = some (.lst acc)) (z : acc.length < 100000) (h : P (upd H Dl (.lst (acc ++ [y])))) :
    ∃ acc, H Dl = some (.lst acc) ∧ acc.length < sizeLine ∧ P (upd H Dl (.lst (acc ++ [y]))) := ⟨acc, s, sz_lt z, h⟩
end

/-- a comprehension of two fors, its list at D; the inner walk -/
def LI (J1 : It) (D : Addr) (Nx : Hp → Prop) (g1 : TG) (tt1 : TT) (te : TE) (vs1 : List Nat) (σ2 : St) (H4 : Hp) : Prop := ∃ W1 : Nat → Nat → Hp → Prop, (∃ m, W1 0 m H4) ∧ ∀ j k H, W1 j k H →
      (J1.stop j H ∧ Nx H) ∨ (J1.go j H ∧ ∃ Nx1 : Hp → Prop, (∀ H', Nx1 H' → ∃ k', k' < k ∧ W1 (j + 1) k' H') ∧ ∀ x H', J1.yld j H x H' → g1 x (wipe σ2 vs1) H' fun σ3 H5 => wipe σ3 vs1 = wipe σ2 vs1 ∧ tt1 σ3 H5 fun b H6 =>
        if b = true then te σ3 H6 fun y H7 => ∃ acc, H7 D = some (.lst acc) ∧ acc.length < sizeLine ∧ Nx1 (upd H7 D (.lst (acc ++ [y]))) else Nx1 H6)
def LW2 (J : It) (D : Addr) (g : TG) (tt : TT) (wi1 : TI) (g1 : TG) (tt1 : TT) (te : TE) (vs vs1 : List Nat) (σ : St) (H1 : Hp) (Q : VK) : Prop := ∃ W : Nat → Nat → Hp → Prop, (∃ m, W 0 m (upd H1 D (.lst []))) ∧ ∀ i m H, W i m H →
  (J.stop i H ∧ Q (.ref D) H) ∨ (J.go i H ∧ ∃ Nx : Hp → Prop, (∀ H', Nx H' → ∃ m', m' < m ∧ W (i + 1) m' H') ∧ ∀ x H', J.yld i H x H' → g x (wipe σ vs) H' fun σ2 H2 => wipe σ2 vs = wipe σ vs ∧ tt σ2 H2 fun b H3 =>
    if b = true then wi1 σ2 H3 fun J1 H4 => LI J1 D Nx g1 tt1 te vs1 σ2 H4 else Nx H3)
theorem x_lc2 {σ : St} {H : Hp} {wi wi1 : TI} {g g1 : TG} {tt tt1 : TT} {te : TE} {vs vs1 : List Nat} {Q : VK} (h : wi σ H fun J H1 => ∀ D, H1 D = none → LW2 J D g tt wi1 g1 tt1 te vs vs1 σ H1 Q) : tLc2 wi g tt wi1 g1 tt1 te vs vs1 σ H Q := h
section
variable {K : PySem.W.Frag} {σ σ2 : St} {H1 H4 : Hp} {wi1 : TI} {g g1 : TG} {tt tt1 : TT} {te : TE} {vs vs1 : List Nat} {Q : VK} {D : Addr} {Nx : Hp → Prop}
theorem x_lw2R {lo : Int} {n : Nat} (Pv : Nat → Hp → Prop) (h0 : Pv 0 (upd H1 D (.lst [])))
    (hs : ∀ i H, i < n → Pv i H → g (.int (lo + (i : Int))) (wipe σ vs) H fun σ2 H2 => wipe σ2 vs = wipe σ vs ∧ tt σ2 H2 fun b H3 => if b = true then wi1 σ2 H3 fun J1 H4 => LI J1 D (Pv (i + 1)) g1 tt1 te vs1 σ2 H4 else Pv (i + 1) H3)
    (hd : ∀ H, Pv n H → Q (.ref D) H) : LW2 (Itr lo n) D g tt wi1 g1 tt1 te vs vs1 σ H1 Q := by
  refine ⟨fun i m H => m = n - i ∧ i ≤ n ∧ Pv i H, ⟨n, by simp, Nat.zero_le _, h0⟩, ?_⟩
  rintro i m H ⟨rfl, hi, p⟩
  by_cases hlt : i < n
  · refine .inr ⟨hlt, Pv (i + 1), fun H' p' => ⟨n - (i + 1), by omega, rfl, hlt, p'⟩, fun x H' y => ?_⟩
    obtain ⟨e, y⟩ := y
    subst e y
    exact hs i _ hlt p
  · have e : i = n := by omega
    subst e
    exact .inl ⟨Nat.le_refl _, hd _ p⟩
theorem x_lw2L {a : Addr} {xs : List V} (Pv : Nat → Hp → Prop) (h0 : Pv 0 (upd H1 D (.lst []))) (hl : ∀ i H, i ≤ xs.length → Pv i H → SqL K H a xs)
    (hs : ∀ i x H, xs[i]? = some x → Pv i H → g x (wipe σ vs) H fun σ2 H2 => wipe σ2 vs = wipe σ vs ∧ tt σ2 H2 fun b H3 => if b = true then wi1 σ2 H3 fun J1 H4 => LI J1 D (Pv (i + 1)) g1 tt1 te vs1 σ2 H4 else Pv (i + 1) H3)
    (hd : ∀ H, Pv xs.length H → Q (.ref D) H) : LW2 (Itl K a) D g tt wi1 g1 tt1 te vs vs1 σ H1 Q := by
  refine ⟨fun i m H => m = xs.length - i ∧ i ≤ xs.length ∧ Pv i H, ⟨xs.length, by simp, Nat.zero_le _, h0⟩, ?_⟩
  rintro i m H ⟨rfl, hi, p⟩
  have q := hl i H hi p
  by_cases hlt : i < xs.length
  · refine .inr ⟨⟨xs, xs[i], q, by simp [hlt]⟩, Pv (i + 1), fun H' p' => ⟨xs.length - (i + 1), by omega, rfl, hlt, p'⟩, fun x H' y => ?_⟩
    obtain ⟨e, y⟩ := y
    subst e
    exact hs i x _ (y xs q) p
  · have e : i = xs.length := by omega
    subst e
    exact .inl ⟨⟨xs, q, by omega⟩, hd _ p⟩
theorem x_liR {lo : Int} {n : Nat} (Pv : Nat → Hp → Prop) (h0 : Pv 0 H4)
    (hs : ∀ i H, i < n → Pv i H → g1 (.int (lo + (i : Int))) (wipe σ2 vs1) H fun σ3 H5 => wipe σ3 vs1 = wipe σ2 vs1 ∧ tt1 σ3 H5 fun b H6 =>
      if b = true then te σ3 H6 fun y H7 => ∃ acc, H7 D = some (.lst acc) ∧ acc.length < sizeLine ∧ Pv (i + 1) (upd H7 D (.lst (acc ++ [y]))) else Pv (i + 1) H6) (hd : ∀ H, Pv n H → Nx H) :
    LI (Itr lo n) D Nx g1 tt1 te vs1 σ2 H4 := by
  refine ⟨fun i m H => m = n - i ∧ i ≤ n ∧ Pv i H, ⟨n, by simp, Nat.zero_le _, h0⟩, ?_⟩
  rintro i m H ⟨rfl, hi, p⟩
  by_cases hlt : i < n
  · refine .inr ⟨hlt, Pv (i + 1), fun H' p' => ⟨n - (i + 1), by omega, rfl, hlt, p'⟩, fun x H' y => ?_⟩
    obtain ⟨e, y⟩ := y
    subst e y
    exact hs i _ hlt p
  · have e : i = n := by omega
    subst e
    exact .inl ⟨Nat.le_refl _, hd _ p⟩
theorem x_liL {a : Addr} {xs : List V} (Pv : Nat → Hp → Prop) (h0 : Pv 0 H4) (hl : ∀ i H, i ≤ xs.length → Pv i H → SqL K H a xs)
    (hs : ∀ i x H, xs[i]? = some x → Pv i H → g1 x (wipe σ2 vs1) H fun σ3 H5 => wipe σ3 vs1 = wipe σ2 vs1 ∧ tt1 σ3 H5 fun b H6 =>
      if b = true then te σ3 H6 fun y H7 => ∃ acc, H7 D = some (.lst acc) ∧ acc.length < sizeLine ∧ Pv (i + 1) (upd H7 D (.lst (acc ++ [y]))) else Pv (i + 1) H6) (hd : ∀ H, Pv xs.length H → Nx H) :
    LI (Itl K a) D Nx g1 tt1 te vs1 σ2 H4 := by
  refine ⟨fun i m H => m = xs.length - i ∧ i ≤ xs.length ∧ Pv i H, ⟨xs.length, by simp, Nat.zero_le _, h0⟩, ?_⟩
  rintro i m H ⟨rfl, hi, p⟩
  have q := hl i H hi p
  by_cases hlt : i < xs.length
  · refine .inr ⟨⟨xs, xs[i], q, by simp [hlt]⟩, Pv (i + 1), fun H' p' => ⟨xs.length - (i + 1), by omega, rfl, hlt, p'⟩, fun x H' y => ?_⟩
    obtain ⟨e, y⟩ := y
    subst e
    exact hs i x _ (y xs q) p
  · have e : i = xs.length := by omega
    subst e
    exact .inl ⟨⟨xs, q, by omega⟩, hd _ p⟩
theorem x_lw2R0 {n : Nat} (Pv : Nat → Hp → Prop) (h0 : Pv 0 (upd H1 D (.lst [])))
    (hs : ∀ i H, i < n → Pv i H → g (.int (i : Int)) (wipe σ vs) H fun σ2 H2 => wipe σ2 vs = wipe σ vs ∧ tt σ2 H2 fun b H3 => if b = true then wi1 σ2 H3 fun J1 H4 => LI J1 D (Pv (i + 1)) g1 tt1 te vs1 σ2 H4 else Pv (i + 1) H3)
    (hd : ∀ H, Pv n H → Q (.ref D) H) : LW2 (Itr 0 n) D g tt wi1 g1 tt1 te vs vs1 σ H1 Q := x_lw2R Pv h0 (fun i H hi p => by rw [Int.zero_add]; exact hs i H hi p) hd
theorem x_liR0 {n : Nat} (Pv : Nat → Hp → Prop) (h0 : Pv 0 H4)
    (hs : ∀ i H, i < n → Pv i H → g1 (.int (i : Int)) (wipe σ2 vs1) H fun σ3 H5 => wipe σ3 vs1 = wipe σ2 vs1 ∧ tt1 σ3 H5 fun b H6 =>
      if b = true then te σ3 H6 fun y H7 => ∃ acc, H7 D = some (.lst acc) ∧ acc.length < sizeLine ∧ Pv (i + 1) (upd H7 D (.lst (acc ++ [y]))) else Pv (i + 1) H6) (hd : ∀ H, Pv n H → Nx H) :
    LI (Itr 0 n) D Nx g1 tt1 te vs1 σ2 H4 := x_liR Pv h0 (fun i H hi p => by rw [Int.zero_add]; exact hs i H hi p) hd
end

/-! ### instances -/
structure Own (K : PySem.W.Frag) (mg : Str → Option Value) (nm : Str) (C : Addr) : Prop where
  cl : Cls K C
  mgC : mg nm = some (.ref C)
  makes : PySem.W.makesIn K C = true
  kp : PySem.W.keepIn K (.ref C) = true
section
variable {K : PySem.W.Frag} {σ : St} {H : Hp} {te ta : TE} {Q : VK}
theorem x_fld {a C dx : Addr} {fs : List (Str × V)} {f : Str} {v : V} {P : V → Prop} (h : H a = some (.ins C dx fs)) (c : Cls K C) (n : NoAttr K C f) (l : fs.lookup f = some v) (k : P v) :
    ∃ a' C' dx' fs' v', V.ref a = .ref a' ∧ H a' = some (.ins C' dx' fs') ∧ Cls K C' ∧ NoAttr K C' f ∧ fs'.lookup f = some v' ∧ P v' := ⟨a, C, dx, fs, v, rfl, h, c, n, l, k⟩
theorem x_tfld {f : Str} (h : te σ H fun x H1 => ∃ a C dx fs v, x = .ref a ∧ H1 a = some (.ins C dx fs) ∧ Cls K C ∧ NoAttr K C f ∧ fs.lookup f = some v ∧ Q v H1) : tFld K te f σ H Q := h
end
section
variable {K : PySem.W.Frag} {σ : St} {H : Hp} {tv ta : TE} {n : St → Hp → Prop} {rt : VK} {bk ct : St → Hp → Prop} {f : Str}
theorem x_sfld (h : tv σ H fun y H1 => ta σ H1 fun x H2 => ∃ a C dx fs, x = .ref a ∧ H2 a = some (.ins C dx fs) ∧ Cls K C ∧ NoAttr K C f ∧ fs.length < 1000 ∧ n σ (upd H2 a (.ins C dx (putF f y fs)))) : sFld K ta tv f ⟨n, rt, bk, ct⟩ σ H := h
theorem x_sfl {a C dx : Addr} {fs : List (Str × V)} {P : Addr → Addr → Addr → List (Str × V) → Prop} (h : H a = some (.ins C dx fs)) (c : Cls K C) (nA : NoAttr K C f) (l : fs.length < 1000) (k : P a C dx fs) :
    ∃ a' C' dx' fs', V.ref a = .ref a' ∧ H a' = some (.ins C' dx' fs') ∧ Cls K C' ∧ NoAttr K C' f ∧ fs'.length < 1000 ∧ P a' C' dx' fs' := ⟨a, C, dx, fs, rfl, h, c, nA, l, k⟩
theorem x_sortedI {p : Addr} {ns : List Int} {Q : VK} (h : H p = some (.lst (ns.map V.int))) (k : ∀ (ns' : List Int) (q : Addr), ns'.Perm ns → ns'.Pairwise (· ≤ ·) → H q = none → Q (.ref q) (upd H q (.lst (ns'.map V.int)))) : rSortedI K [.ref p] H Q :=
  ⟨p, ns, rfl, sq_l h, k⟩
theorem x_in {p : Addr} {x : V} {xs : List V} {Q : VK} (h : H p = some (.lst xs)) (fx : flatV x = true) (fs : xs.all flatV = true) (k : Q (.bl (inV x xs)) H) : rIn K false x (.ref p) H Q := ⟨p, xs, rfl, .inl (sq_l h), fx, fs, k⟩
theorem x_nin {p : Addr} {x : V} {xs : List V} {Q : VK} (h : H p = some (.lst xs)) (fx : flatV x = true) (fs : xs.all flatV = true) (k : Q (.bl (!inV x xs)) H) : rIn K true x (.ref p) H Q := ⟨p, xs, rfl, .inl (sq_l h), fx, fs, k⟩
end
theorem x_all {K : PySem.W.Frag} {H : Hp} {p : Addr} {bs : List Bool} {b : Bool} {Q : VK} (h : H p = some (.lst (bs.map V.bl))) (e : bs.all id = b) (k : Q (.bl b) H) : rAll K [.ref p] H Q := ⟨p, bs, rfl, sq_l h, by rw [e]; exact k⟩
theorem x_any {K : PySem.W.Frag} {H : Hp} {p : Addr} {bs : List Bool} {b : Bool} {Q : VK} (h : H p = some (.lst (bs.map V.bl))) (e : bs.any id = b) (k : Q (.bl b) H) : rAny K [.ref p] H Q := ⟨p, bs, rfl, sq_l h, by rw [e]; exact k⟩
/-! ### dicts of ints -/
section
variable {σ : St} {H : Hp} {ty td tv : TE} {Q : VK} {n : St → Hp → Prop} {rt : VK} {bk ct : St → Hp → Prop}
theorem x_dnew (h : ∀ p, H p = none → Q (.ref p) (upd H p (.dK []))) : tDNewK σ H Q := h
theorem x_din (h : ty σ H fun y H1 => td σ H1 fun x H2 => ∃ a o, x = .ref a ∧ DGet H2 a y o ∧ Q (.bl o.isSome) H2) : tDIn ty td σ H Q := h
theorem x_dnin (h : ty σ H fun y H1 => td σ H1 fun x H2 => ∃ a o, x = .ref a ∧ DGet H2 a y o ∧ Q (.bl (!o.isSome)) H2) : tDNotIn ty td σ H Q := h
theorem x_dput (h : tv σ H fun v H1 => td σ H1 fun x H2 => ty σ H2 fun y H3 => ∃ a H4, x = .ref a ∧ DPut H3 a y v H4 ∧ n σ H4) : sDPut td ty tv ⟨n, rt, bk, ct⟩ σ H := h
/-- the dict of the ints of S, each with the value f gives -/
def sD (S : List (Int × V)) : List (Key × V) := S.map fun p => (Sum.inl p.1, p.2)
theorem sD_val (S : List (Int × V)) (k : Int) : valV (sD S) (Sum.inl k : Key) = (S.find? fun p => decide (p.1 = k)).map (·.2) := by
  induction S with
  | nil => rfl
  | cons p r ih =>
    show valV ((Sum.inl p.1, p.2) :: sD r) (Sum.inl k) = _
    by_cases e : p.1 = k
    · rw [valV_pos (by rw [e]), List.find?_cons_of_pos (by simpa using e)]
      rfl
    · rw [valV_neg (fun z => e (Sum.inl.inj z)), List.find?_cons_of_neg (by simpa using e), ih]
theorem x_dgetI {d : Addr} {k : Int} {kvs : List (Key × V)} {P : Option V → Prop} (h : H d = some (.dK kvs)) (p : P (valV kvs (Sum.inl k : Key))) : ∃ a o, V.ref d = .ref a ∧ DGet H a (.int k) o ∧ P o := ⟨d, _, rfl, DGet.k (k := Sum.inl k) h, p⟩
theorem x_dputI {d : Addr} {k : Int} {kvs : List (Key × V)} {v : V} {P : Hp → Prop} (h : H d = some (.dK kvs)) (z : kvs.length < 100000) (p : P (upd H d (.dK (putK kvs (Sum.inl k : Key) v)))) : ∃ a H4, V.ref d = .ref a ∧ DPut H a (.int k) v H4 ∧ P H4 :=
  ⟨d, _, rfl, DPut.k (k := Sum.inl k) h (sz_lt z), p⟩
end
/-- a method -/
structure MetAt (K : PySem.W.Frag) (C : Addr) (m qual : Str) (st : Stmt) (ps : List Str) : Prop where
  ex : ∃ (f : Addr) (fd : FuncData), Fun K m qual st f fd ∧ PySem.W.findIn K (.ref C) m = some (some (.ref f)) ∧ PySem.W.isFn K (.ref f) = true ∧ Binds K fd ps []
structure Met (P : Program) (w : World) (K : PySem.W.Frag) (mg : Str → Option Value) (base : Heap) (CX : CXT) (k : Nat) (C : Addr) (m : Str) (sp : Sp) : Prop where
  ex : ∃ (f : Addr) (fd : FuncData) (ps : List Str), FnOk P w K mg base CX k f fd ps sp ∧ PySem.W.findIn K (.ref C) m = some (some (.ref f)) ∧ PySem.W.isFn K (.ref f) = true ∧ PySem.W.keepIn K (.ref f) = true ∧ Binds K fd ps []
/-- a property's getter -/
structure PrpAt (K : PySem.W.Frag) (C : Addr) (m qual : Str) (st : Stmt) : Prop where
  ex : ∃ (p f : Addr) (fd : FuncData), Fun K m qual st f fd ∧ PropOf K C m p f ∧ Binds K fd ["self"] []
structure Prp (P : Program) (w : World) (K : PySem.W.Frag) (mg : Str → Option Value) (base : Heap) (CX : CXT) (k : Nat) (C : Addr) (m : Str) (sp : Sp) : Prop where
  ex : ∃ (p f : Addr) (fd : FuncData) (ps : List Str), FnOk P w K mg base CX k f fd ps sp ∧ PropOf K C m p f ∧ Binds K fd ps []
section
variable {P : Program} {w : World} {K : PySem.W.Frag} {mg : Str → Option Value} {base : Heap}
/-- a def under its name -/
structure DefAt (K : PySem.W.Frag) (mg : Str → Option Value) (x : Str) (st : Stmt) (ps : List Str) : Prop where
  ex : ∃ (f : Addr) (fd : FuncData), Fun K x x st f fd ∧ mg x = some (.ref f) ∧ Binds K fd ps []
abbrev Bdy (P : Program) (w : World) (K : PySem.W.Frag) (mg : Str → Option Value) (base : Heap) (N : List Str) (qual : Str) (st : Stmt) (k : Nat) (sp : Sp) : Prop :=
  ∀ (f : Addr) (cdv : Value) (A : Around) (outer : List Env) (s : Shared) (H : Hp) (vs : List V) (Q : VK) (E : XK), Room k (A.deeper (envOfC qual (defScope st) s.heap.objs.size f cdv)) → sp vs H Q E →
      ∃ t, PSs (cxOf CX0 P w K mg base N qual (defScope st) f cdv A outer s H E).nox (defBody st) t ∧ t { nx := fun _ H' => Q .non H', rt := Q } (start N vs) H
/-- its promise, by its body; nothing leaves it but by return -/
theorem DefAt.cal {x : Str} {st : Stmt} {N ps : List Str} {k : Nat} {sp : Sp} (F : DefAt K mg x st ps) (S : FnScope N ps (defScope st)) (len : ∀ vs H Q E, sp vs H Q E → vs.length = ps.length)
    (hbody : Bdy P w K mg base N x st k sp) : Cal P w K mg base CX0 (k + 1) x sp := by
  obtain ⟨f, fd, F, m, b⟩ := F.ex
  exact ⟨f, fd, ps, F.ok S len (fun cdv A outer s H vs Q E hr h => hbody f cdv A outer s H vs Q E hr h), m, F.kp, b⟩
theorem MetAt.met {C : Addr} {m qual : Str} {st : Stmt} {N ps : List Str} {k : Nat} {sp : Sp} (F : MetAt K C m qual st ps) (S : FnScope N ps (defScope st)) (len : ∀ vs H Q E, sp vs H Q E → vs.length = ps.length)
    (hbody : Bdy P w K mg base N qual st k sp) : Met P w K mg base CX0 (k + 1) C m sp := by
  obtain ⟨f, fd, F, m1, m2, b⟩ := F.ex
  exact ⟨f, fd, ps, F.ok S len (fun cdv A outer s H vs Q E hr h => hbody f cdv A outer s H vs Q E hr h), m1, m2, F.kp, b⟩
theorem PrpAt.prp {C : Addr} {m qual : Str} {st : Stmt} {N : List Str} {k : Nat} {sp : Sp} (F : PrpAt K C m qual st) (S : FnScope N ["self"] (defScope st)) (len : ∀ vs H Q E, sp vs H Q E → vs.length = 1)
    (hbody : Bdy P w K mg base N qual st k sp) : Prp P w K mg base CX0 (k + 1) C m sp := by
  obtain ⟨p, f, fd, F, m1, b⟩ := F.ex
  exact ⟨p, f, fd, ["self"], F.ok S len (fun cdv A outer s H vs Q E hr h => hbody f cdv A outer s H vs Q E hr h), m1, b⟩
end
section
variable {X : Cx} {CX : CXT} {k j : Nat} {C : Addr} {m : Str} {sp : Sp} {E : XK} {o e : Expr} {es : List Expr} {pos apos : Pos} {ta : TE} {t : TA}
theorem pe_prp (p : Prp X.prog X.w X.K X.mg X.base CX k C m sp) (c : Cls X.K C) (hr : Room j X.A) (hk : k + 1 ≤ j) (hx : Passes CX X.nox E) (he : PE X e ta) (hab : attributeBase e m X.env (eval e X.env) = eval e X.env) : PE X (.Attribute e m pos) (tProp C sp [] E ta) := by
  obtain ⟨p, f, fd, ps, F, m1, b⟩ := p.ex
  exact pe_prop he c m1 F (hr.mono hk) b .nil hx hab
theorem pe_mak {x : Str} {p : Pos} (M : Met X.prog X.w X.K X.mg X.base CX k C "__init__" sp) (O : Own X.K X.mg x C) (hr : Room j X.A) (hk : k + 1 ≤ j) (hg : Gl X x) (hx : Passes CX X E) (ha : PA X (e :: es) t)
    (hdb : (x == ("__debug__" : Str)) = false := by decide) (he : starEach (e :: es) X.env = (false, eval e X.env) :: starEach es X.env := by rfl) (hpl : (backTo pos (starEach es X.env)).any (·.1) = false := by rfl) :
    PE X (.Call (.Name x p) (e :: es) [] pos) (tMake C sp [] E t) := by
  obtain ⟨f, fd, ps, F, m1, m2, m3, b⟩ := M.ex
  exact pe_make ⟨O.makes, m1, m2, O.kp⟩ F (hr.mono hk) hg O.mgC b .nil hx ha hdb he hpl
/-- len of an instance by its own __len__ -/
def rLenO (C : Addr) (sp : Sp) (E : XK) : List V → Hp → VK → Prop := fun xs H Q => ∃ a dx fs, xs = [.ref a] ∧ H a = some (.ins C dx fs) ∧ sp [.ref a] H (fun v H' => ∃ n : Int, v = .int n ∧ 0 ≤ n ∧ n < 2 ^ 63 ∧ Q (.int n) H') E
theorem call_lenO (M : Met X.prog X.w X.K X.mg X.base CX k C "__len__" sp) (hr : Room j X.A) (hk : k + 1 ≤ j) (hx : Passes CX X E) : CallR X (.builtin "len") (rLenO C sp E) := by
  intro pins s σ H xs us Q I r h
  obtain ⟨a, dx, fs, rfl, ha, hsp⟩ := h
  obtain ⟨u, rfl, ru⟩ := vals1 r
  obtain rfl : u = Value.ref a := ru
  obtain ⟨f, fd, ps, F, m1, m2, m3, b⟩ := M.ex
  obtain ⟨mA, J, _⟩ := ins_get I.hok ha
  obtain ⟨od, J, _⟩ := J.look
  obtain ⟨mm, hF⟩ := I.fr
  refine PySem.W.len_K hF I.ok.mod.kin J m1 m2 ?_
  have hl := F.len _ _ _ _ hsp
  have r2 : Vals [V.ref a] [Value.ref a] := .cons rfl .nil
  refine wpAny_call (codeAny_mono (F.run X.A.in1 X.stack s H ⟨[.ref a], []⟩ [.ref a] [.ref a] _ E (hr.mono hk).in1 I.env0.in1 (by
    have := b s [.ref a] I.kIn (by simpa using hl)
    simpa using this) r2 hsp) fun r s' hq => ?_)
  cases r with
  | error e => exact hx pins σ H s e s' I hq
  | ok fl =>
    cases fl with
    | ret w =>
      obtain ⟨z, H', I', rz, n, rfl, n0, n1, q⟩ := I.after hq
      obtain ⟨t', rfl⟩ := rz
      exact ⟨⟨n0, n1⟩, ⟨.int n, H', I'.tok _, ⟨_, rfl⟩, q⟩⟩
    | next => exact False.elim hq
    | brk => exact False.elim hq
    | cont => exact False.elim hq
end

/-! ### kinds of values -/
def kinds : List String := ["NoneType", "bool", "int", "str", "list", "tuple", "dict"]
/-- x is a value of the built-in kind T -/
structure Knd (K : PySem.W.Frag) (H : Hp) (x : V) (T : String) : Prop where
  ty : TyX K H x (.type T)
  mem : T ∈ kinds
theorem knd_int {K : PySem.W.Frag} {H : Hp} (i : Int) : Knd K H (.int i) "int" := ⟨.base (.int i), by decide⟩
theorem knd_bl {K : PySem.W.Frag} {H : Hp} (i : Bool) : Knd K H (.bl i) "bool" := ⟨.base (.bl i), by decide⟩
theorem knd_non {K : PySem.W.Frag} {H : Hp} : Knd K H .non "NoneType" := ⟨.base .non, by decide⟩
theorem knd_str {K : PySem.W.Frag} {H : Hp} (z : Str) : Knd K H (.str z) "str" := ⟨.base (.str z), by decide⟩
theorem knd_lst {K : PySem.W.Frag} {H : Hp} {a : Addr} {xs : List V} (h : H a = some (.lst xs)) : Knd K H (.ref a) "list" := ⟨.base (.lst h), by decide⟩
theorem knd_tup {K : PySem.W.Frag} {H : Hp} {a : Addr} {xs : List V} (h : H a = some (.tup xs)) : Knd K H (.ref a) "tuple" := ⟨.base (.tup h), by decide⟩
theorem knd_dK {K : PySem.W.Frag} {H : Hp} {a : Addr} {xs : List (Key × V)} (h : H a = some (.dK xs)) : Knd K H (.ref a) "dict" := ⟨.base (.dK h), by decide⟩
theorem kit_int {T : String} (h : T ∈ kinds) : kitB T "int" = some (T == "int" || T == "bool") := by
  simp only [kinds, List.mem_cons, List.not_mem_nil, or_false] at h
  rcases h with rfl | rfl | rfl | rfl | rfl | rfl | rfl <;> decide +kernel
theorem kit_bool {T : String} (h : T ∈ kinds) : kitB T "bool" = some (T == "bool") := by
  simp only [kinds, List.mem_cons, List.not_mem_nil, or_false] at h
  rcases h with rfl | rfl | rfl | rfl | rfl | rfl | rfl <;> decide +kernel
theorem kit_list {T : String} (h : T ∈ kinds) : kitB T "list" = some (T == "list") := by
  simp only [kinds, List.mem_cons, List.not_mem_nil, or_false] at h
  rcases h with rfl | rfl | rfl | rfl | rfl | rfl | rfl <;> decide +kernel
theorem kit_tuple {T : String} (h : T ∈ kinds) : kitB T "tuple" = some (T == "tuple") := by
  simp only [kinds, List.mem_cons, List.not_mem_nil, or_false] at h
  rcases h with rfl | rfl | rfl | rfl | rfl | rfl | rfl <;> decide +kernel
section
variable {K : PySem.W.Frag} {H : Hp} {Q : VK} {x : V} {T : String}
theorem y_isInt {b : Bool} (k : Knd K H x T) (e : (T == "int" || T == "bool") = b) (h : Q (.bl b) H) : rIsi K [x, .ty "int"] H Q := x_isi (.ty _) k.ty (kit_ty (e ▸ kit_int k.mem)) h
theorem x_isInt (k : Knd K H x T) (h : Q (.bl (T == "int" || T == "bool")) H) : rIsi K [x, .ty "int"] H Q := x_isi (.ty _) k.ty (kit_ty (kit_int k.mem)) h
theorem y_isBool {b : Bool} (k : Knd K H x T) (e : (T == "bool") = b) (h : Q (.bl b) H) : rIsi K [x, .ty "bool"] H Q := x_isi (.ty _) k.ty (kit_ty (e ▸ kit_bool k.mem)) h
theorem x_isBool (k : Knd K H x T) (h : Q (.bl (T == "bool")) H) : rIsi K [x, .ty "bool"] H Q := x_isi (.ty _) k.ty (kit_ty (kit_bool k.mem)) h
theorem y_isList {b : Bool} (k : Knd K H x T) (e : (T == "list") = b) (h : Q (.bl b) H) : rIsi K [x, .ty "list"] H Q := x_isi (.ty _) k.ty (kit_ty (e ▸ kit_list k.mem)) h
theorem x_isList (k : Knd K H x T) (h : Q (.bl (T == "list")) H) : rIsi K [x, .ty "list"] H Q := x_isi (.ty _) k.ty (kit_ty (kit_list k.mem)) h
theorem y_isTuple {b : Bool} (k : Knd K H x T) (e : (T == "tuple") = b) (h : Q (.bl b) H) : rIsi K [x, .ty "tuple"] H Q := x_isi (.ty _) k.ty (kit_ty (e ▸ kit_tuple k.mem)) h
theorem x_isTuple (k : Knd K H x T) (h : Q (.bl (T == "tuple")) H) : rIsi K [x, .ty "tuple"] H Q := x_isi (.ty _) k.ty (kit_ty (kit_tuple k.mem)) h
end

/-! ### what the top has written -/
section
variable {K : PySem.W.Frag} {h : Heap} {mg : Str → Option Value}
theorem defAt_mk {x : Str} {st : Stmt} {ps : List Str} {f : Addr} {oc : Value} {od an : Option Addr} {osl : Array (Option Value)} {kV doc pm cdv ct : Value} (X : K.In h) (G : h.Ns mainGlobals mg)
    (a : PySem.W.nsIn K mainGlobals x = some (some (.ref f))) (l : K.lookup f = some ⟨oc, od, .func (PySem.W.fnOf x x (defArgs st) (defBody st) (defScope st) .none kV doc pm an cdv ct), osl⟩) (c : PySem.W.codeIn K cdv x = true) (k : PySem.W.keepIn K (.ref f) = true)
    (b : ∀ (kV doc pm : Value) (an : Option Addr) (cdv ct : Value) (us : List Value), us.length = ps.length → bindArgs (PySem.W.fnOf x x (defArgs st) (defBody st) (defScope st) .none kV doc pm an cdv ct) ⟨us, []⟩ = pure (ps.zip us)) : DefAt K mg x st ps :=
  ⟨f, _, fun_mk l c k, PySem.W.mg_of X G a, (fun_mk l c k).binds b⟩
theorem metAt_mk {m qual : Str} {st : Stmt} {ps : List Str} {f C : Addr} {oc : Value} {od an : Option Addr} {osl : Array (Option Value)} {kV doc pm cdv ct : Value}
    (a : PySem.W.findIn K (.ref C) m = some (some (.ref f))) (i : PySem.W.isFn K (.ref f) = true) (l : K.lookup f = some ⟨oc, od, .func (PySem.W.fnOf m qual (defArgs st) (defBody st) (defScope st) .none kV doc pm an cdv ct), osl⟩) (c : PySem.W.codeIn K cdv qual = true) (k : PySem.W.keepIn K (.ref f) = true)
    (b : ∀ (kV doc pm : Value) (an : Option Addr) (cdv ct : Value) (us : List Value), us.length = ps.length → bindArgs (PySem.W.fnOf m qual (defArgs st) (defBody st) (defScope st) .none kV doc pm an cdv ct) ⟨us, []⟩ = pure (ps.zip us)) : MetAt K C m qual st ps :=
  ⟨f, _, fun_mk l c k, a, i, (fun_mk l c k).binds b⟩
theorem prpAt_mk {m qual : Str} {st : Stmt} {p f C : Addr} {oc : Value} {od an : Option Addr} {osl : Array (Option Value)} {kV doc pm cdv ct : Value} {rest : List Value}
    (a : PySem.W.findIn K (.ref C) m = some (some (.ref p))) (g : PySem.W.specialIn K (.ref p) "__get__" = some (some (.builtin "property.__get__"))) (t : PySem.W.takesIn K (.ref p) = some true) (r : PySem.W.recIn K p "property" = some (.ref f :: rest))
    (l : K.lookup f = some ⟨oc, od, .func (PySem.W.fnOf m qual (defArgs st) (defBody st) (defScope st) .none kV doc pm an cdv ct), osl⟩) (c : PySem.W.codeIn K cdv qual = true) (k : PySem.W.keepIn K (.ref f) = true)
    (b : ∀ (kV doc pm : Value) (an : Option Addr) (cdv ct : Value) (us : List Value), us.length = (["self"] : List Str).length → bindArgs (PySem.W.fnOf m qual (defArgs st) (defBody st) (defScope st) .none kV doc pm an cdv ct) ⟨us, []⟩ = pure ((["self"] : List Str).zip us)) : PrpAt K C m qual st :=
  ⟨p, f, _, fun_mk l c k, ⟨a, g, t, _, r⟩, (fun_mk l c k).binds b⟩
theorem own_mk {nm : Str} {C : Addr} (X : K.In h) (G : h.Ns mainGlobals mg) (a : PySem.W.nsIn K mainGlobals nm = some (some (.ref C))) (pg : PySem.W.plainGet K C Str.empty = true) (hd : PySem.W.hasDictIn K C = true) (po : PySem.W.plainOver K C = true)
    (sa : PySem.W.findIn K (.ref C) "__setattr__" = some (some (.builtin "object.__setattr__"))) (mk : PySem.W.makesIn K C = true) (kp : PySem.W.keepIn K (.ref C) = true) : Own K mg nm C := ⟨⟨pg, hd, po, sa⟩, PySem.W.mg_of X G a, mk, kp⟩
end
def spLaw (K : PySem.W.Frag) : Sp := fun vs H Q _ => ∃ (a : Addr) (ns : List Int), vs = [.ref a] ∧ SqL K H a (ns.map V.int) ∧ ns.length ≤ 63 ∧ ∀ H', Q (.bl true) H'
theorem same_keep {H H1 H2 : Hp} {p : Addr} (s : Same H H1) (k : Keep p H1 H2) (p0 : H p = none) : Same H H2 := fun a o h => k a o (s a o h) (ne_of_none h p0)
end OC

namespace OC
open PySem PySem.Spec PyProof.Rows L2
/-! ### the steps -/
local macro_rules | `(tactic| walk_at "look") => `(tactic| first
  | assumption
  | exact upd_same
  | (refine new_at (by assumption) ?_; walk_at "look")
  | (refine upd_at (by walk_at "ne") ?_; walk_at "look")
  | (refine Keep.at (by assumption) ?_ (by walk_at "ne"); walk_at "look")
  | (refine sat (by assumption) ?_; walk_at "look"))
local macro_rules | `(tactic| walk_at "knd") => `(tactic| first
  | exact knd_int _
  | exact knd_lst (by walk_at "look")
  | exact knd_tup (by walk_at "look")
  | exact knd_bl _
  | exact knd_non
  | exact knd_str _
  | exact knd_dK (by walk_at "look"))
local macro_rules | `(tactic| walk_at "ne") => `(tactic| first
  | assumption
  | exact Ne.symm (by assumption))
local macro_rules | `(tactic| walk_at "ar") => `(tactic| first
  | omega
  | assumption
  | (simp only [List.length_cons, List.length_nil, List.length_append, List.length_map]; omega)
  | rfl
  | decide)
local macro_rules | `(tactic| walk_at "s1") => `(tactic| first
  | with_reducible refine x_seq ?_
  | ((with_reducible refine' x_var ?k0 ?_); (case k0 => with_unfolding_all rfl))
  | with_reducible refine x_c ?_
  | with_reducible refine x_op ?_
  | with_reducible refine x_I0 ?_
  | with_reducible refine x_asg ?_
  | ((with_reducible refine' x_name ?k0 ?_); (case k0 => with_unfolding_all rfl))
  | with_reducible refine x_next ?_
  | with_reducible refine x_ret ?_
  | with_reducible refine x_drop ?_
  | with_reducible refine x_ifs ?_
  | with_reducible refine x_test ?_
  | with_reducible refine x_B ?_
  | with_reducible refine x_bl ?_
  | with_reducible refine x_cons ?_
  | with_reducible refine x_nil ?_
  | with_reducible refine x_cb ?_
  | with_reducible refine x_call ?_
  | with_reducible refine x_tup ?_
  | with_reducible refine x_lst ?_
  | with_reducible refine x_bm ?_
  | with_reducible refine x_bm0 ?_
  | with_reducible refine x_un ?_
  | with_reducible refine x_U ?_
  | with_reducible refine x_not ?_
  | with_reducible refine x_and ?_
  | with_reducible refine x_or ?_
  | with_reducible refine x_andV ?_
  | with_reducible refine x_orV ?_
  | with_reducible refine x_notV ?_
  | with_reducible refine x_if ?_
  | with_reducible refine x_sub ?_
  | with_reducible refine x_gCons ?_
  | with_reducible refine x_gNil ?_
  | with_reducible refine x_retN ?_
  | with_reducible refine x_break ?_
  | with_reducible refine x_cont ?_
  | with_reducible refine x_T ?_
  | with_reducible refine x_nT ?_
  | with_reducible refine x_nF ?_
  | with_reducible refine x_meth0 ?_
  | with_reducible refine x_meth ?_
  | with_reducible refine x_prop ?_
  | with_reducible refine x_F ?_
  | with_reducible refine x_int_i ?_
  | with_reducible refine x_int_b ?_
  | with_reducible refine x_max2 ?_
  | with_reducible refine x_min2 ?_
  | with_reducible refine x_for ?_
  | with_reducible refine x_lc ?_
  | with_reducible refine x_lc2 ?_
  | with_reducible refine x_rg1 ?_
  | with_reducible refine x_rg2 ?_
  | with_reducible refine x_il ?_
  | with_reducible refine x_yes ?_
  | with_reducible refine x_tfld ?_
  | with_reducible refine x_din ?_
  | with_reducible refine x_dnin ?_
  | with_reducible refine x_dput ?_
  | with_reducible refine x_lstRg ?_
  | with_reducible refine x_tRg1 ?_
  | with_reducible refine x_rgN ?_
  | with_reducible refine x_sfld ?_
  | with_reducible refine x_make ?_
  | with_reducible refine x_eqI ?_
  | with_reducible refine x_neI ?_)
local macro_rules | `(tactic| walk_at "s2") => `(tactic| first
  | ((with_reducible refine' x_ixL ?k0 ?k1 ?_); (case k0 => walk_at "look"); (case k1 => first | assumption | with_unfolding_all rfl))
  | ((with_reducible refine' x_ixT ?k0 ?k1 ?_); (case k0 => walk_at "look"); (case k1 => first | assumption | with_unfolding_all rfl))
  | ((with_reducible refine' x_mod ?k0 ?_); (case k0 => walk_at "ar"))
  | ((with_reducible refine' x_div ?k0 ?k1 ?_); (case k0 => walk_at "ar"); (case k1 => walk_at "ar"))
  | ((with_reducible refine' x_mull ?k0 ?k1 ?_); (case k0 => omega); (case k1 => omega))
  | ((with_reducible refine' x_mulr ?k0 ?k1 ?_); (case k0 => omega); (case k1 => omega))
  | ((with_reducible refine' x_pow ?k0 ?k1 ?k2 ?_); (case k0 => decide); (case k1 => decide); (case k2 => decide))
  | ((with_reducible refine' x_divW ?k0 ?k1 ?_); (case k0 => decide); (case k1 => decide))
  | ((with_reducible refine' x_tyL ?k0 ?_); (case k0 => walk_at "look"))
  | ((with_reducible refine' x_append ?k0 ?k1 ?_); (case k0 => walk_at "look"); (case k1 => exact sz_lt (by walk_at "ar")))
  | ((with_reducible refine' x_setL ?k0 ?k1 ?k2 ?_); (case k0 => walk_at "look"); (case k1 => walk_at "ar"); (case k2 => walk_at "ar"))
  | ((with_reducible refine' x_gTup ?k0 ?k1 ?_); (case k0 => walk_at "look"); (case k1 => with_unfolding_all rfl))
  | ((with_reducible refine' x_it ?k0 ?_); (case k0 => walk_at "ar"))
  | ((with_reducible refine' x_if0 ?k0 ?_); (case k0 => walk_at "ar"))
  | ((with_reducible refine' x_itn0 ?k0 ?_); (case k0 => walk_at "ar"))
  | ((with_reducible refine' x_itn1 ?k0 ?_); (case k0 => walk_at "ar"))
  | ((with_reducible refine' x_r1 ?k0 ?k1 ?_); (case k0 => walk_at "ar"); (case k1 => walk_at "ar"))
  | ((with_reducible refine' x_r2 ?k0 ?k1 ?k2 ?k3 ?_); (case k0 => walk_at "ar"); (case k1 => walk_at "ar"); (case k2 => walk_at "ar"); (case k3 => walk_at "ar"))
  | ((with_reducible refine' x_rgOk ?k0 ?k1 ?_); (case k0 => walk_at "ar"); (case k1 => walk_at "ar"))
  | ((with_reducible refine' x_ill ?k0 ?_); (case k0 => walk_at "look"))
  | ((with_reducible refine' x_wipe ?k0 ?_); (case k0 => with_unfolding_all rfl))
  | ((with_reducible refine' x_fld ?k0 ?k1 ?k2 ?k3 ?_); (case k0 => walk_at "look"); (case k1 => assumption); (case k2 => assumption); (case k3 => assumption))
  | ((with_reducible refine' y_isInt (b := true) ?k0 ?k1 ?_); (case k0 => walk_at "knd"); (case k1 => decide))
  | ((with_reducible refine' y_isInt (b := false) ?k0 ?k1 ?_); (case k0 => walk_at "knd"); (case k1 => decide))
  | ((with_reducible refine' y_isBool (b := true) ?k0 ?k1 ?_); (case k0 => walk_at "knd"); (case k1 => decide))
  | ((with_reducible refine' y_isBool (b := false) ?k0 ?k1 ?_); (case k0 => walk_at "knd"); (case k1 => decide))
  | ((with_reducible refine' y_isList (b := true) ?k0 ?k1 ?_); (case k0 => walk_at "knd"); (case k1 => decide))
  | ((with_reducible refine' y_isList (b := false) ?k0 ?k1 ?_); (case k0 => walk_at "knd"); (case k1 => decide))
  | ((with_reducible refine' y_isTuple (b := true) ?k0 ?k1 ?_); (case k0 => walk_at "knd"); (case k1 => decide))
  | ((with_reducible refine' y_isTuple (b := false) ?k0 ?k1 ?_); (case k0 => walk_at "knd"); (case k1 => decide))
  | ((with_reducible refine' x_inp ?k0 ?_); (case k0 => walk_at "look"))
  | ((with_reducible refine' x_len ?k0 ?_); (case k0 => walk_at "look"))
  | ((with_reducible refine' x_lenT ?k0 ?_); (case k0 => walk_at "look"))
  | ((with_reducible refine' x_rev ?k0 ?_); (case k0 => walk_at "look")))
local macro_rules | `(tactic| walk_at "go") => `(tactic| repeat (first | walk_at "s1" | walk_at "s2"))
def topS (i : Nat) : Stmt := PySem.Challenge.pw_ownhues_k19_pairs_that_short_ways_bar.main.body.getD i (.Pass ⟨0, 0, 0, 0⟩)
/-- what the top has left alone -/
structure Tx (mg : Str → Option Value) : Prop where
  z_all : mg "all" = none
  z_bool : mg "bool" = none
  z_int : mg "int" = none
  z_isinstance : mg "isinstance" = none
  z_len : mg "len" = none
  z_list : mg "list" = none
  z_max : mg "max" = none
  z_min : mg "min" = none
  z_property : mg "property" = none
  z_range : mg "range" = none
  z_sorted : mg "sorted" = none
  z_tuple : mg "tuple" = none
  z_zip : mg "zip" = none
/-! ### the urn: three numbers that drawing changes -/
def UrnZ (H : Hp) (u : Addr) (n : Nat) : Prop := ∃ x y z : Int, H u = some (.lst [.int x, .int y, .int z]) ∧ 0 ≤ x ∧ 0 ≤ y ∧ y < 2 ^ 104 ∧ 0 ≤ z ∧ z + n ≤ 2 ^ 40
theorem UrnZ.mono {H : Hp} {u : Addr} {m n : Nat} (h : UrnZ H u n) (q : m ≤ n) : UrnZ H u m := by
  obtain ⟨x, y, z, h1, h2, h3, h4, h5, h6⟩ := h
  exact ⟨x, y, z, h1, h2, h3, h4, h5, by omega⟩
def spPick : Sp := fun vs H Q _ => ∃ u m n, vs = [.ref u, .int m] ∧ 0 < m ∧ m < 2 ^ 30 ∧ UrnZ H u (n + 1) ∧ ∀ r H', 0 ≤ r → r < m → Keep u H H' → UrnZ H' u n → Q (.int r) H'
theorem x_pick {H : Hp} {Q : VK} {E : XK} {u : Addr} {m : Int} (n : Nat) (m0 : 0 < m) (m1 : m < 2 ^ 30) (hu : UrnZ H u (n + 1)) (h : ∀ r H', 0 ≤ r → r < m → Keep u H H' → UrnZ H' u n → Q (.int r) H') : spPick [.ref u, .int m] H Q E := ⟨u, m, n, rfl, m0, m1, hu, h⟩
theorem UrnZ.keep {H H' : Hp} {u p : Addr} {n : Nat} (h : UrnZ H u n) (k : Keep p H H') (ne : u ≠ p) : UrnZ H' u n := by
  obtain ⟨x, y, z, h1, h2⟩ := h
  exact ⟨x, y, z, k _ _ h1 ne, h2⟩
theorem UrnZ.same {H H' : Hp} {u : Addr} {n : Nat} (h : UrnZ H u n) (k : Same H H') : UrnZ H' u n := by
  obtain ⟨x, y, z, h1, h2⟩ := h
  exact ⟨x, y, z, k _ _ h1, h2⟩
theorem UrnZ.upd {H : Hp} {u p : Addr} {n : Nat} {o : HO} (h : UrnZ H u n) (ne : u ≠ p) : UrnZ (upd H p o) u n := by
  obtain ⟨x, y, z, h1, h2⟩ := h
  exact ⟨x, y, z, upd_at ne h1, h2⟩
theorem UrnZ.ne {H : Hp} {u p : Addr} {n : Nat} (h : UrnZ H u n) (hp : H p = none) : u ≠ p := by
  obtain ⟨x, y, z, h1, h2⟩ := h
  exact ne_of_none h1 hp
theorem UrnZ.some {H : Hp} {u : Addr} {n : Nat} (h : UrnZ H u n) : ∃ xs, H u = some (.lst xs) := by
  obtain ⟨x, y, z, h1, h2⟩ := h
  exact ⟨_, h1⟩
theorem Keep.free {H H' : Hp} {u p : Addr} {n : Nat} (k : Keep u H H') (h : UrnZ H' u n) (hp : H' p = none) : H p = none := by
  cases e : H p with
  | none => rfl
  | some o =>
    by_cases q : p = u
    · subst q
      obtain ⟨_, _, _, h1, _⟩ := h
      rw [hp] at h1
      cases h1
    · have := k _ _ e q
      rw [hp] at this
      cases this
theorem erase_perm {α : Type} : ∀ {l : List α} {j : Nat} {y : α}, l[j]? = some y → (y :: l.eraseIdx j).Perm l
  | [], _, _, h => by simp at h
  | a :: r, 0, y, h => by
    have e : a = y := Option.some.inj h
    subst e
    exact List.Perm.refl _
  | a :: r, j + 1, y, h => by
    have ih := erase_perm (l := r) (j := j) (y := y) h
    exact (List.Perm.swap a y (r.eraseIdx j)).trans (ih.cons a)
theorem perm_erase {fs ls xs : List V} {j : Nat} {y : V} (h : (fs ++ ls).Perm xs) (e : ls[j]? = some y) : (fs ++ [y] ++ ls.eraseIdx j).Perm xs := by
  refine List.Perm.trans ?_ h
  rw [List.append_assoc]
  exact List.Perm.append_left fs (erase_perm e)
abbrev s_l_pick : Stmt := topS 19
theorem sc_l_pick : FnScope ["urn", "many", "found", "turn", "mixed"] ["urn", "many"] (defScope s_l_pick) := ⟨rfl, rfl, rfl, by decide +kernel, rfl, by decide +kernel, by decide +kernel⟩
section
variable {P : Program} {w : World} {K : PySem.W.Frag} {mg : Str → Option Value} {base : Heap}
theorem c_pick (T : Tx mg) (F : DefAt K mg "_law_pick" s_l_pick ["urn", "many"]) : Cal P w K mg base CX0 1 "_law_pick" spPick := by
  refine F.cal sc_l_pick (fun vs H Q E h => ?_) (fun f cdv A outer s H vs Q E hr h => ?_)
  · obtain ⟨u, m, n, rfl, _⟩ := h
    rfl
  · obtain ⟨u, m, n, rfl, m0, m1, ⟨x, y, z, hu, x0, y0, y1, z0, z1⟩, k⟩ := h
    refine ⟨_, (pss_cons (ps_if (pt_cmpR op_gt (pe_ix (ix_l K) (pv 0) pe_int (fun _ _ => rfl)) pe_int (nomark _))
        (pss_cons (ps_set (i := 2) sc_l_pick.nd rfl (Or.inl rfl) (pe_op op_mod (pe_callTy cl_int (by rfl) T.z_int (by decide +kernel) (pa_cons (pe_ix (ix_l K) (pv 0) pe_int (fun _ _ => rfl)) pa_nil)) (pv 1)))
      (pss_cons (ps_asg (pe_op op_fdiv (pe_ix (ix_l K) (pv 0) pe_int (fun _ _ => rfl)) (pv 1)) (pg_sub (pv 0) pe_int set_list))
      (pss_one (ps_ret (pv 2))))) pss_nil)
      (pss_cons (ps_asg (pe_op op_add (pe_ix (ix_l K) (pv 0) pe_int (fun _ _ => rfl)) pe_int) (pg_sub (pv 0) pe_int set_list))
      (pss_cons (ps_set (i := 3) sc_l_pick.nd rfl (Or.inl rfl) (pe_ix (ix_l K) (pv 0) pe_int (fun _ _ => rfl)))
      (pss_cons (ps_set (i := 4) sc_l_pick.nd rfl (Or.inl rfl) (pe_op op_mod (pe_callTy cl_int (by rfl) T.z_int (by decide +kernel) (pa_cons (pe_op op_add (pe_op op_add (pe_ix (ix_l K) (pv 0) pe_int (fun _ _ => rfl)) (pe_op op_mul (pv 3) pe_int)) (pe_op op_mul (pe_op op_mul (pv 3) (pv 3)) pe_int)) pa_nil)) pe_int))
      (pss_cons (ps_set (i := 4) sc_l_pick.nd rfl (Or.inl rfl) (pe_op op_mod (pe_callTy cl_int (by rfl) T.z_int (by decide +kernel) (pa_cons (pe_op op_add (pe_op op_add (pe_op op_mul (pv 4) (pv 4)) (pe_op op_fdivW (pe_ix (ix_l K) (pv 0) pe_int (fun _ _ => rfl)) pe_int)) (pe_op op_mul pe_int (pv 3))) pa_nil)) pe_int))
      (pss_cons (ps_set (i := 4) sc_l_pick.nd rfl (Or.inl rfl) (pe_op op_mod (pe_callTy cl_int (by rfl) T.z_int (by decide +kernel) (pa_cons (pe_op op_add (pe_op op_mul (pe_op op_mul (pv 4) (pv 4)) pe_int) (pv 4)) pa_nil)) (pe_ix (ix_l K) (pe_lst (pa_cons pe_int (pa_cons pe_int (pa_cons pe_int (pa_cons pe_int pa_nil))))) (pe_op op_mod (pe_callTy cl_int (by rfl) T.z_int (by decide +kernel) (pa_cons (pv 3) pa_nil)) pe_int) (fun _ _ => rfl))))
      (pss_one (ps_ret (pe_op op_mod (pe_callTy cl_int (by rfl) T.z_int (by decide +kernel) (pa_cons (pe_op op_fdiv (pv 4) pe_int) pa_nil)) (pv 1)))))))))), ?_⟩
    walk_at "go"
    refine x_ite (fun c => ?_) (fun c => ?_)
    · walk_at "go"
      exact k _ _ (Int.emod_nonneg _ (by omega)) (Int.emod_lt_of_pos _ m0) (keep_self (Keep.refl H)) ⟨x / m, y, z, upd_same, Int.ediv_nonneg x0 (by omega), y0, y1, z0, by omega⟩
    · walk_at "go"
      refine x_sz (by decide) fun p hp => ?_
      obtain ⟨q, a, q0, q1⟩ : ∃ q, atI [V.int 2147483579, V.int 2147483563, V.int 2147483549, V.int 2147483543] ((z + 1) % 4) = some (V.int q) ∧ 0 < q ∧ q < 2 ^ 32 := by
        have h4 : (z + 1) % 4 = 0 ∨ (z + 1) % 4 = 1 ∨ (z + 1) % 4 = 2 ∨ (z + 1) % 4 = 3 := by omega
        rcases h4 with e | e | e | e <;> rw [e] <;> exact ⟨_, rfl, by decide, by decide⟩
      walk_at "go"
      have nu : u ≠ p := ne_of_none upd_same hp
      exact k _ _ (Int.emod_nonneg _ (by omega)) (Int.emod_lt_of_pos _ m0) (keep_new (keep_self (Keep.refl H)) hp) ⟨x, y, z + 1, upd_at nu upd_same, x0, y0, y1, by omega, by omega⟩
end
/-! ### whether a value is an integer -/
def spIsInt (K : PySem.W.Frag) : Sp := fun vs H Q _ => ∃ x T, vs = [x] ∧ Knd K H x T ∧ Q (.bl (T == "int")) H
theorem isint_val {T : String} (h : T ∈ kinds) : (T == "int" || T == "bool") = true → (!(T == "bool")) = (T == "int") := by
  simp only [kinds, List.mem_cons, List.not_mem_nil, or_false] at h
  rcases h with rfl | rfl | rfl | rfl | rfl | rfl | rfl <;> decide
theorem isint_no {T : String} (h : (T == "int" || T == "bool") = false) : (T == "int") = false := (Bool.or_eq_false_iff.mp h).1
theorem x_spInt {K : PySem.W.Frag} {H : Hp} {Q : VK} {E : XK} {i : Int} (h : Q (.bl true) H) : spIsInt K [.int i] H Q E := ⟨.int i, "int", rfl, knd_int i, h⟩
abbrev s_is_integer : Stmt := topS 7
theorem sc_is_integer : FnScope ["value"] ["value"] (defScope s_is_integer) := ⟨rfl, rfl, rfl, by decide +kernel, rfl, by decide +kernel, by decide +kernel⟩
section
variable {P : Program} {w : World} {K : PySem.W.Frag} {mg : Str → Option Value} {base : Heap}
theorem c_is_integer (T : Tx mg) (F : DefAt K mg "is_integer" s_is_integer ["value"]) : Cal P w K mg base CX0 1 "is_integer" (spIsInt K) := by
  refine F.cal sc_is_integer (fun vs H Q E h => ?_) (fun f cdv A outer s H vs Q E hr h => ?_)
  · obtain ⟨x, T, rfl, _⟩ := h
    rfl
  · obtain ⟨x, Ty, rfl, k, q⟩ := h
    refine ⟨_, (pss_one (ps_ret (pe_and (pe_callB (cl_isi K) (by rfl) T.z_isinstance (by decide +kernel) (pa_cons (pv 0) (pa_cons (pe_bltn (v := .ty "int") (by rfl) T.z_int (by decide +kernel) rfl) pa_nil))) (pe_one (pe_not (pe_callB (cl_isi K) (by rfl) T.z_isinstance (by decide +kernel) (pa_cons (pv 0) (pa_cons (pe_bltn (v := .ty "bool") (by rfl) T.z_bool (by decide +kernel) rfl) pa_nil)))))))), ?_⟩
    walk_at "go"
    refine x_isInt k ?_
    walk_at "go"
    refine x_itb (fun c => ?_) (fun c => ?_)
    · walk_at "go"
      refine x_isBool k ?_
      walk_at "go"
      rw [isint_val k.mem c]
      exact q
    · rw [isint_no c] at q
      exact q
end
abbrev s_l_whole : Stmt := topS 20
theorem sc_l_whole : FnScope ["value"] ["value"] (defScope s_l_whole) := ⟨rfl, rfl, rfl, by decide +kernel, rfl, by decide +kernel, by decide +kernel⟩
section
variable {P : Program} {w : World} {K : PySem.W.Frag} {mg : Str → Option Value} {base : Heap}
theorem c_l_whole (T : Tx mg) (F : DefAt K mg "_law_whole" s_l_whole ["value"]) : Cal P w K mg base CX0 1 "_law_whole" (spIsInt K) := by
  refine F.cal sc_l_whole (fun vs H Q E h => ?_) (fun f cdv A outer s H vs Q E hr h => ?_)
  · obtain ⟨x, T, rfl, _⟩ := h
    rfl
  · obtain ⟨x, Ty, rfl, k, q⟩ := h
    refine ⟨_, (pss_one (ps_ret (pe_and (pe_callB (cl_isi K) (by rfl) T.z_isinstance (by decide +kernel) (pa_cons (pv 0) (pa_cons (pe_bltn (v := .ty "int") (by rfl) T.z_int (by decide +kernel) rfl) pa_nil))) (pe_one (pe_not (pe_callB (cl_isi K) (by rfl) T.z_isinstance (by decide +kernel) (pa_cons (pv 0) (pa_cons (pe_bltn (v := .ty "bool") (by rfl) T.z_bool (by decide +kernel) rfl) pa_nil)))))))), ?_⟩
    walk_at "go"
    refine x_isInt k ?_
    walk_at "go"
    refine x_itb (fun c => ?_) (fun c => ?_)
    · walk_at "go"
      refine x_isBool k ?_
      walk_at "go"
      rw [isint_val k.mem c]
      exact q
    · rw [isint_no c] at q
      exact q
end
abbrev s_is_tie : Stmt := topS 8
theorem sc_is_tie : FnScope ["places", "value"] ["places", "value"] (defScope s_is_tie) := ⟨rfl, rfl, rfl, by decide +kernel, rfl, by decide +kernel, by decide +kernel⟩
def spTie : Sp := fun vs H Q _ => ∃ (n : Int) (t : Addr) (a b : Int), vs = [.int n, .ref t] ∧ H t = some (.tup [.int a, .int b]) ∧ Q (.bl (decide (0 ≤ a ∧ a < b ∧ b < n))) H
section
variable {P : Program} {w : World} {K : PySem.W.Frag} {mg : Str → Option Value} {base : Heap}
theorem c_is_tie (T : Tx mg) (F : DefAt K mg "is_tie" s_is_tie ["places", "value"]) (c_is_integer : Cal P w K mg base CX0 1 "is_integer" (spIsInt K)) : Cal P w K mg base CX0 2 "is_tie" spTie := by
  refine F.cal sc_is_tie (fun vs H Q E h => ?_) (fun f cdv A outer s H vs Q E hr h => ?_)
  · obtain ⟨n, t, a, b, rfl, _⟩ := h
    rfl
  · obtain ⟨n, t, a, b, rfl, ht, q⟩ := h
    refine ⟨_, (pss_cons (ps_if (PW.pt (pw_or (pt_not (pt_val (pe_callB (cl_isi K) (by rfl) T.z_isinstance (by decide +kernel) (pa_cons (pv 1) (pa_cons (pe_bltn (v := .ty "tuple") (by rfl) T.z_tuple (by decide +kernel) rfl) pa_nil))))) (pw_or1 (pt_cmpR op_ne (pe_callB (cl_len K) (by rfl) T.z_len PySem.boot_len (pa_cons (pv 1) pa_nil)) pe_int (nomark _)))))
        (pss_one (ps_ret pe_bl)) pss_nil)
      (pss_cons (ps_if (PW.pt (pw_or (pt_not (pt_val (pe_cal c_is_integer hr (by decide) rfl pass0 (pa_cons (pe_ix (ix_t K) (pv 1) pe_int (fun _ _ => rfl)) pa_nil)))) (pw_or1 (pt_not (pt_val (pe_cal c_is_integer hr (by decide) rfl pass0 (pa_cons (pe_ix (ix_t K) (pv 1) pe_int (fun _ _ => rfl)) pa_nil)))))))
        (pss_one (ps_ret pe_bl)) pss_nil)
      (pss_one (ps_ret (pe_and (pe_cmpR op_le pe_int (pe_ix (ix_t K) (pv 1) pe_int (fun _ _ => rfl)) (nomark _)) (pe_and (pe_cmpR op_lt (pe_ix (ix_t K) (pv 1) pe_int (fun _ _ => rfl)) (pe_ix (ix_t K) (pv 1) pe_int (fun _ _ => rfl)) (nomark _)) (pe_one (pe_cmpR op_lt (pe_ix (ix_t K) (pv 1) pe_int (fun _ _ => rfl)) (pv 0) (nomark _))))))))), ?_⟩
    walk_at "go"
    refine x_spInt ?_
    walk_at "go"
    refine x_spInt ?_
    walk_at "go"
    refine x_ite (fun c1 => ?_) (fun c1 => ?_)
    · walk_at "go"
      refine x_ite (fun c2 => ?_) (fun c2 => ?_)
      · walk_at "go"
        have e : decide (b < n) = decide (0 ≤ a ∧ a < b ∧ b < n) := by simp [c1, c2]
        rw [e]
        exact q
      · rw [decide_eq_false (by omega)] at q
        exact q
    · rw [decide_eq_false (by omega)] at q
      exact q
end
abbrev s_l_urn : Stmt := topS 18
theorem sc_l_urn : FnScope ["script", "k", "cell"] ["script", "k"] (defScope s_l_urn) := ⟨rfl, rfl, rfl, by decide +kernel, rfl, by decide +kernel, by decide +kernel⟩
def spUrn (K : PySem.W.Frag) : Sp := fun vs H Q _ => ∃ (s : Addr) (ns : List Int) (k : Int), vs = [.ref s, .int k] ∧ SqL K H s (ns.map V.int) ∧ 0 ≤ k ∧ k ≤ 100 ∧ ∀ p H', H p = none → Same H H' → UrnZ H' p (2 ^ 40) → Q (.ref p) H'
section
variable {P : Program} {w : World} {K : PySem.W.Frag} {mg : Str → Option Value} {base : Heap}
theorem urn_end {H : Hp} {Q : VK} {cell k : Int} (k0 : 0 ≤ k) (k1 : k ≤ 100) (q : ∀ p H', H p = none → Same H H' → UrnZ H' p (2 ^ 40) → Q (.ref p) H') (p : Addr) (hp : H p = none) :
    Q (.ref p) (upd H p (.lst [.int (if cell - 10 ^ (18 : Int).toNat > 0 then cell - 10 ^ (18 : Int).toNat else 0), .int (cell % (10 ^ (30 : Int).toNat + 57) + k), .int 0])) := by
  refine q p _ hp (same_new hp) ⟨_, _, _, upd_same, ?_, ?_, ?_, by decide, by decide⟩
  · split <;> omega
  · have h : (0 : Int) ≤ cell % (10 ^ (30 : Int).toNat + 57) := Int.emod_nonneg _ (by decide)
    omega
  · have h : cell % (10 ^ (30 : Int).toNat + 57) < 10 ^ (30 : Int).toNat + 57 := Int.emod_lt_of_pos _ (by decide)
    have e : (10 : Int) ^ (30 : Int).toNat + 57 < 2 ^ 103 := by decide
    omega
theorem c_l_urn (T : Tx mg) (F : DefAt K mg "_law_urn" s_l_urn ["script", "k"]) : Cal P w K mg base CX0 1 "_law_urn" (spUrn K) := by
  refine F.cal sc_l_urn (fun vs H Q E h => ?_) (fun f cdv A outer s H vs Q E hr h => ?_)
  · obtain ⟨s, ns, k, rfl, _⟩ := h
    rfl
  · obtain ⟨t, ns, k, rfl, hs, k0, k1, q⟩ := h
    refine ⟨_, (pss_cons (ps_set (i := 2) sc_l_urn.nd rfl (Or.inl rfl) (pe_op op_add (pe_op op_mul pe_int (pv 1)) pe_int))
      (pss_cons (ps_if (pt_cmpR op_lt (pv 1) (pe_callB (cl_len K) (by rfl) T.z_len PySem.boot_len (pa_cons (pv 0) pa_nil)) (nomark _))
        (pss_one (ps_set (i := 2) sc_l_urn.nd rfl (Or.inl rfl) (pe_ix (ix_l K) (pv 0) (pv 1) (fun _ _ => rfl)))) pss_nil)
      (pss_one (ps_ret (pe_lst (pa_cons (pe_callB (cl_max2 rfl) (by rfl) T.z_max (by decide +kernel) (pa_cons pe_int (pa_cons (pe_op op_sub (pv 2) (pe_op op_pow pe_int pe_int)) pa_nil))) (pa_cons (pe_op op_add (pe_op op_mod (pe_callTy cl_int (by rfl) T.z_int (by decide +kernel) (pa_cons (pv 2) pa_nil)) (pe_op op_add (pe_op op_pow pe_int pe_int) pe_int)) (pv 1)) (pa_cons pe_int pa_nil)))))))), ?_⟩
    walk_at "go"
    refine x_lenS hs ?_
    walk_at "go"
    refine x_ite (fun c => ?_) (fun c => ?_)
    · obtain ⟨j, rfl⟩ := Int.eq_ofNat_of_zero_le k0
      rw [List.length_map] at c
      have a : atI (ns.map V.int) (j : Int) = some (.int (ns.getD j 0)) := by
        refine atI_nat ?_
        rw [List.getElem?_map, List.getD_eq_getElem?_getD, List.getElem?_eq_getElem (by omega)]
        rfl
      walk_at "go"
      refine x_ixLs hs a ?_
      walk_at "go"
      refine x_sz (by show 3 ≤ 100000; decide) fun p hp => ?_
      exact urn_end k0 k1 q p hp
    · walk_at "go"
      refine x_sz (by show 3 ≤ 100000; decide) fun p hp => ?_
      exact urn_end k0 k1 q p hp
end
abbrev s_l_shuffled : Stmt := topS 22
theorem sc_l_shuffled : FnScope ["urn", "things", "left", "found", "k"] ["urn", "things"] (defScope s_l_shuffled) := ⟨rfl, rfl, rfl, by decide +kernel, rfl, by decide +kernel, by decide +kernel⟩
def spShuf : Sp := fun vs H Q _ => ∃ (u t : Addr) (xs : List V) (n : Nat), vs = [.ref u, .ref t] ∧ H t = some (.lst xs) ∧ t ≠ u ∧ xs.length ≤ 50000 ∧ UrnZ H u (n + xs.length) ∧ ∀ p H' ys, H p = none → Keep u H H' → UrnZ H' u n → H' p = some (.lst ys) → ys.Perm xs → Q (.ref p) H'
section
variable {P : Program} {w : World} {K : PySem.W.Frag} {mg : Str → Option Value} {base : Heap}
theorem c_l_shuffled (T : Tx mg) (F : DefAt K mg "_law_shuffled" s_l_shuffled ["urn", "things"]) (c_l_pick : Cal P w K mg base CX0 1 "_law_pick" spPick) : Cal P w K mg base CX0 2 "_law_shuffled" spShuf := by
  refine F.cal sc_l_shuffled (fun vs H Q E h => ?_) (fun f cdv A outer s H vs Q E hr h => ?_)
  · obtain ⟨u, t, xs, n, rfl, _⟩ := h
    rfl
  · obtain ⟨u, t, xs, n, rfl, ht, tu, hz, hu, q⟩ := h
    refine ⟨_, (pss_cons (ps_set (i := 2) sc_l_shuffled.nd rfl (Or.inl rfl) (pe_callTy (cl_listOf K) (by rfl) T.z_list (by decide +kernel) (pa_cons (pv 1) pa_nil)))
      (pss_cons (ps_set (i := 3) sc_l_shuffled.nd rfl (Or.inl rfl) (pe_lst pa_nil))
      (pss_cons (ps_for PassesOwn.never rfl (pi_range1 rfl T.z_range (pa_cons (pe_callB (cl_len K) (by rfl) T.z_len PySem.boot_len (pa_cons (pv 1) pa_nil)) pa_nil)) (pg_name (i := 4) sc_l_shuffled.nd rfl (Or.inl rfl))
        (pss_one (ps_expr (k_bm K PySem.F.plainAttrs_list PySem.F.slot_list_append PySem.F.type_list_append mt_append (pv 3) (pa_cons (k_bm K PySem.F.plainAttrs_list PySem.F.slot_list_pop PySem.F.type_list_pop mt_popAt (pv 2) (pa_cons (pe_cal c_l_pick hr (by decide) rfl pass0 (pa_cons (pv 0) (pa_cons (pe_callB (cl_len K) (by rfl) T.z_len PySem.boot_len (pa_cons (pv 2) pa_nil)) pa_nil))) pa_nil)) pa_nil)))))
      (pss_one (ps_ret (pv 3)))))), ?_⟩
    walk_at "go"
    refine x_listOf ht fun l hl => ?_
    walk_at "go"
    refine x_sz (by decide) fun p hp => ?_
    have ul : u ≠ l := hu.ne hl
    have lp : l ≠ p := ne_of_none upd_same hp
    have p0 : H p = none := by
      rw [upd_ne lp.symm] at hp
      exact hp
    have up : u ≠ p := hu.ne p0
    walk_at "go"
    refine x_fwR (fun i σ H1 => ∃ y fs ls, σ = [some (.ref u), some (.ref t), some (.ref l), some (.ref p), y] ∧ i + ls.length = xs.length ∧ Keep u H H1 ∧ UrnZ H1 u (n + ls.length) ∧ H1 l = some (.lst ls) ∧ H1 p = some (.lst fs) ∧ fs.length = i ∧ (fs ++ ls).Perm xs)
      ⟨none, [], xs, rfl, by omega, keep_new (keep_new (Keep.refl H) hl) hp, (hu.upd ul).upd up, upd_at lp upd_same, upd_same, rfl, List.Perm.refl _⟩ ?_ ?_
    · rintro i σ H1 hi ⟨y, fs, ls, rfl, e1, k1, u1, hl1, hp1, e2, pm⟩
      walk_at "go"
      obtain ⟨m, em⟩ : ∃ m, ls.length = m + 1 := ⟨ls.length - 1, by omega⟩
      rw [em, ← Nat.add_assoc] at u1
      refine x_pick (n + m) (by omega) (by omega) u1 fun r H2 r0 r1 k2 u2 => ?_
      have hr : r.toNat < ls.length := by omega
      walk_at "go"
      refine x_popAt (k2.at hl1 ul.symm) (by omega) r0 (List.getElem?_eq_getElem hr) ?_
      walk_at "go"
      refine ⟨_, _, _, rfl, ?_, keep_mut (keep_mut (k1.trans k2) hl) p0, ?_, upd_at lp upd_same, upd_same, ?_, perm_erase pm (List.getElem?_eq_getElem hr)⟩
      · rw [List.length_eraseIdx_of_lt hr]; omega
      · rw [List.length_eraseIdx_of_lt hr, em]
        exact (u2.upd ul).upd up
      · rw [List.length_append, e2]; rfl
    · rintro σ H1 ⟨y, fs, ls, rfl, e1, k1, u1, hl1, hp1, e2, pm⟩
      walk_at "go"
      have e3 : ls = [] := List.eq_nil_of_length_eq_zero (by omega)
      subst e3
      rw [List.append_nil] at pm
      exact q p H1 fs p0 k1 u1 hp1 pm
end
/-! ### webs in plain Lean: a number of places, a relation -/
abbrev Rel := Nat → Nat → Bool
/-- a web of n places -/
structure Gr (n : Nat) (e : Rel) : Prop where
  sym : ∀ u v, e u v = e v u
  irr : ∀ u, e u u = false
  lt : ∀ u v, e u v = true → u < n
theorem Gr.lt2 {n : Nat} {e : Rel} (g : Gr n e) {u v : Nat} (h : e u v = true) : v < n := g.lt v u (by rw [g.sym]; exact h)
/-- the neighbours of a place, ascending -/
def nb (n : Nat) (e : Rel) (u : Nat) : List Nat := (List.range n).filter (e u)
theorem mem_nb {n : Nat} {e : Rel} {u v : Nat} : v ∈ nb n e u ↔ v < n ∧ e u v = true := by
  unfold nb
  rw [List.mem_filter, List.mem_range]
theorem nb_pw (n : Nat) (e : Rel) (u : Nat) : (nb n e u).Pairwise (· < ·) := List.Pairwise.filter _ List.pairwise_lt_range
theorem nodup_of_lt {l : List Nat} (h : l.Pairwise (· < ·)) : l.Nodup := h.imp fun h => Nat.ne_of_lt h
theorem nb_len (n : Nat) (e : Rel) (u : Nat) : (nb n e u).length ≤ n := by
  have h := List.length_filter_le (e u) (List.range n)
  rw [List.length_range] at h
  exact h
/-- two ascending lists of the same numbers are one -/
theorem asc_eq {l m : List Nat} (hl : l.Pairwise (· < ·)) (hm : m.Pairwise (· < ·)) (h : ∀ x, x ∈ l ↔ x ∈ m) : l = m := by
  have p : l.Perm m := (List.perm_ext_iff_of_nodup (nodup_of_lt hl) (nodup_of_lt hm)).mpr h
  exact List.Perm.eq_of_pairwise (fun a b _ _ h1 h2 => absurd (Nat.lt_trans h1 h2) (Nat.lt_irrefl _)) hl hm p
abbrev Tie := Nat × Nat
/-- the relation of a list of ties -/
def eOf (ps : List Tie) : Rel := fun u v => ps.contains (u, v) || ps.contains (v, u)
theorem eOf_iff {ps : List Tie} {u v : Nat} : eOf ps u v = true ↔ (u, v) ∈ ps ∨ (v, u) ∈ ps := by
  unfold eOf
  rw [Bool.or_eq_true, List.contains_iff_mem, List.contains_iff_mem]
/-- ties of a web of n places -/
structure TOk (n : Nat) (ps : List Tie) : Prop where
  nd : ps.Nodup
  ok : ∀ p ∈ ps, p.1 < p.2 ∧ p.2 < n
theorem TOk.gr {n : Nat} {ps : List Tie} (t : TOk n ps) : Gr n (eOf ps) where
  sym := fun u v => by unfold eOf; rw [Bool.or_comm]
  irr := fun u => by
    cases h : eOf ps u u
    · rfl
    · rcases eOf_iff.mp h with h | h <;> exact absurd (t.ok _ h).1 (Nat.lt_irrefl _)
  lt := fun u v h => by
    rcases eOf_iff.mp h with h | h
    · have := t.ok _ h
      exact Nat.lt_trans this.1 this.2
    · exact (t.ok _ h).2
theorem TOk.perm {n : Nat} {ps qs : List Tie} (t : TOk n ps) (p : qs.Perm ps) : TOk n qs := ⟨p.nodup_iff.mpr t.nd, fun x hx => t.ok x (p.mem_iff.mp hx)⟩
theorem eOf_perm {ps qs : List Tie} (p : qs.Perm ps) : eOf qs = eOf ps := by
  funext u v
  have h : eOf qs u v = true ↔ eOf ps u v = true := by rw [eOf_iff, eOf_iff, p.mem_iff, p.mem_iff]
  cases a : eOf qs u v <;> cases b : eOf ps u v <;> simp_all
/-- the other ends at j, in the order of the ties -/
def ends (j : Nat) (p : Tie) : Option Nat := if p.1 = j then some p.2 else if p.2 = j then some p.1 else none
def nbr (ps : List Tie) (j : Nat) : List Nat := ps.filterMap (ends j)
theorem nbr_snoc (ps : List Tie) (p : Tie) (j : Nat) : nbr (ps ++ [p]) j = nbr ps j ++ (ends j p).toList := by
  unfold nbr
  rw [List.filterMap_append]
  cases h : ends j p <;> simp [List.filterMap_cons, h]
theorem mem_nbr {n : Nat} {ps : List Tie} (t : TOk n ps) {j v : Nat} : v ∈ nbr ps j ↔ eOf ps j v = true := by
  unfold nbr
  rw [List.mem_filterMap, eOf_iff]
  constructor
  · rintro ⟨⟨a, b⟩, h, e⟩
    unfold ends at e
    simp only at e
    split at e
    · rename_i q
      cases e
      subst q
      exact .inl h
    · split at e
      · rename_i q
        cases e
        subst q
        exact .inr h
      · cases e
  · rintro (h | h)
    · exact ⟨_, h, by simp [ends]⟩
    · refine ⟨_, h, ?_⟩
      have := t.ok _ h
      simp only at this
      unfold ends
      simp only
      rw [if_neg (by omega)]
      simp
theorem nbr_nodup {n : Nat} : ∀ {ps : List Tie}, TOk n ps → ∀ j, (nbr ps j).Nodup
  | [], _, _ => List.nodup_nil
  | p :: r, t, j => by
    have t' : TOk n r := ⟨(List.nodup_cons.mp t.nd).2, fun x hx => t.ok x (List.mem_cons_of_mem _ hx)⟩
    have ih := nbr_nodup t' j
    show (List.filterMap (ends j) (p :: r)).Nodup
    rw [List.filterMap_cons]
    cases e : ends j p with
    | none => exact ih
    | some v =>
      refine List.nodup_cons.mpr ⟨fun hm => ?_, ih⟩
      have h1 := (mem_nbr t').mp hm
      have np := (List.nodup_cons.mp t.nd).1
      have op := t.ok p (List.mem_cons_self ..)
      obtain ⟨a, b⟩ := p
      simp only at op
      unfold ends at e
      simp only at e
      split at e
      · rename_i q
        cases e
        subst q
        rcases eOf_iff.mp h1 with h | h
        · exact np h
        · have := t'.ok _ h
          simp only at this
          omega
      · split at e
        · rename_i q
          cases e
          subst q
          rcases eOf_iff.mp h1 with h | h
          · have := t'.ok _ h
            simp only at this
            omega
          · exact np h
        · cases e
/-- in order, these are the neighbours -/
theorem nbr_sorted {n : Nat} {ps : List Tie} (t : TOk n ps) {j : Nat} {l : List Int} (p : l.Perm ((nbr ps j).map fun (v : Nat) => (v : Int))) (s : l.Pairwise (· ≤ ·)) : l = (nb n (eOf ps) j).map fun (v : Nat) => (v : Int) := by
  have q : (nb n (eOf ps) j).Perm (nbr ps j) := by
    refine (List.perm_ext_iff_of_nodup (nodup_of_lt (nb_pw _ _ _)) (nbr_nodup t j)).mpr fun v => ?_
    rw [mem_nb, mem_nbr t]
    exact ⟨fun h => h.2, fun h => ⟨t.gr.lt2 h, h⟩⟩
  refine List.Perm.eq_of_pairwise (le := (· ≤ ·)) (fun a b _ _ h1 h2 => Int.le_antisymm h1 h2) s ?_ (p.trans (q.map _).symm)
  refine List.pairwise_map.mpr ((nb_pw _ _ _).imp fun h => ?_)
  omega
/-- all ties of a web, ascending -/
def tiesOf (n : Nat) (e : Rel) : List Tie := (List.range n).flatMap fun u => ((nb n e u).filter fun v => decide (u < v)).map fun v => (u, v)
theorem mem_tiesOf {n : Nat} {e : Rel} {p : Tie} : p ∈ tiesOf n e ↔ p.1 < n ∧ p.2 < n ∧ p.1 < p.2 ∧ e p.1 p.2 = true := by
  obtain ⟨a, b⟩ := p
  unfold tiesOf
  rw [List.mem_flatMap]
  simp only [List.mem_map, List.mem_filter, mem_nb, List.mem_range, decide_eq_true_eq, Prod.mk.injEq]
  constructor
  · rintro ⟨u, hu, v, ⟨⟨h1, h2⟩, h3⟩, rfl, rfl⟩
    exact ⟨hu, h1, h3, h2⟩
  · rintro ⟨h1, h2, h3, h4⟩
    exact ⟨a, h1, b, ⟨⟨h2, h4⟩, h3⟩, rfl, rfl⟩
def ltT (p q : Tie) : Prop := p.1 < q.1 ∨ p.1 = q.1 ∧ p.2 < q.2
theorem ltT_asymm {p q : Tie} (h : ltT p q) (k : ltT q p) : False := by
  unfold ltT at h k
  omega
theorem tiesOf_pw (n : Nat) (e : Rel) : (tiesOf n e).Pairwise ltT := by
  unfold tiesOf
  rw [List.pairwise_flatMap]
  constructor
  · intro u _
    refine List.pairwise_map.mpr (List.Pairwise.filter _ ((nb_pw n e u).imp fun h => ?_))
    exact .inr ⟨rfl, h⟩
  · refine List.pairwise_lt_range.imp fun h => ?_
    intro x hx y hy
    obtain ⟨v, _, rfl⟩ := List.mem_map.mp hx
    obtain ⟨w, _, rfl⟩ := List.mem_map.mp hy
    exact .inl h
theorem ascT_eq {l m : List Tie} (hl : l.Pairwise ltT) (hm : m.Pairwise ltT) (h : ∀ x, x ∈ l ↔ x ∈ m) : l = m := by
  have nd : ∀ {k : List Tie}, k.Pairwise ltT → k.Nodup := fun hk => hk.imp fun h e => by
    subst e
    exact ltT_asymm h h
  have p : l.Perm m := (List.perm_ext_iff_of_nodup (nd hl) (nd hm)).mpr h
  exact List.Perm.eq_of_pairwise (fun a b _ _ h1 h2 => (ltT_asymm h1 h2).elim) hl hm p
theorem nodupT {k : List Tie} (hk : k.Pairwise ltT) : k.Nodup := hk.imp fun h e => by
  subst e
  exact ltT_asymm h h
/-- the ties in order are all ties of their web -/
theorem ties_eq {n : Nat} {ps : List Tie} (t : TOk n ps) (s : ps.Pairwise ltT) : tiesOf n (eOf ps) = ps := by
  refine ascT_eq (tiesOf_pw _ _) s fun p => ?_
  rw [mem_tiesOf]
  obtain ⟨a, b⟩ := p
  constructor
  · rintro ⟨h1, h2, h3, h4⟩
    rcases eOf_iff.mp h4 with h | h
    · exact h
    · have := t.ok _ h
      simp only at this h3
      omega
  · intro h
    have := t.ok _ h
    simp only at this ⊢
    exact ⟨by omega, by omega, by omega, eOf_iff.mpr (.inl h)⟩
theorem nodup_le {n : Nat} {l : List Nat} (nd : l.Nodup) (h : ∀ x ∈ l, x < n) : l.length ≤ n := by
  have s := nd.length_le_of_subset (l₂ := List.range n) fun x hx => List.mem_range.mpr (h x hx)
  rw [List.length_range] at s
  exact s
/-! ### a web in the heap -/
def nv (l : List Nat) : List V := l.map fun (v : Nat) => V.int (v : Int)
theorem nv_len (l : List Nat) : (nv l).length = l.length := by unfold nv; rw [List.length_map]
theorem nv_app (l m : List Nat) : nv (l ++ m) = nv l ++ nv m := by unfold nv; rw [List.map_append]
theorem nv_flat (l : List Nat) : (nv l).all flatV = true := by
  unfold nv
  rw [List.all_map, List.all_eq_true]
  exact fun _ _ => rfl
theorem nv_ints (l : List Nat) : nv l = (l.map fun (v : Nat) => (v : Int)).map V.int := by
  unfold nv
  rw [List.map_map]
  rfl
theorem nv_at {l : List Nat} {i v : Nat} (h : l[i]? = some v) : (nv l)[i]? = some (.int (v : Int)) := by
  unfold nv
  rw [List.getElem?_map, h]
  rfl
theorem of_nv {l : List Nat} {i : Nat} {x : V} (h : (nv l)[i]? = some x) : ∃ v : Nat, x = .int (v : Int) ∧ l[i]? = some v := by
  unfold nv at h
  rw [List.getElem?_map] at h
  cases e : l[i]? with
  | none => rw [e] at h; cases h
  | some a => rw [e] at h; exact ⟨a, (Option.some.inj h).symm, rfl⟩
theorem refs_at {l : List Addr} {i : Nat} {a : Addr} (h : l[i]? = some a) : (l.map V.ref)[i]? = some (.ref a) := by
  rw [List.getElem?_map, h]
  rfl
theorem of_refs {l : List Addr} {i : Nat} {x : V} (h : (l.map V.ref)[i]? = some x) : ∃ a, x = .ref a ∧ l[i]? = some a := by
  rw [List.getElem?_map] at h
  cases e : l[i]? with
  | none => rw [e] at h; cases h
  | some a => rw [e] at h; exact ⟨a, (Option.some.inj h).symm, rfl⟩
theorem nv_in {v : Nat} {l : List Nat} : inV (.int (v : Int)) (nv l) = decide (v ∈ l) := by
  unfold inV nv
  rw [List.any_map, Bool.eq_iff_iff, List.any_eq_true, decide_eq_true_eq]
  constructor
  · rintro ⟨a, ha, e⟩
    have e2 : (a : Int) = (v : Int) := by simpa [eqV] using e
    have : a = v := by omega
    rw [← this]; exact ha
  · intro h
    exact ⟨v, h, by simp [eqV]⟩
theorem x_inN {K : PySem.W.Frag} {H : Hp} {p : Addr} {v : Nat} {l : List Nat} {Q : VK} (h : H p = some (.lst (nv l))) (k : Q (.bl (decide (v ∈ l))) H) : rIn K false (.int (v : Int)) (.ref p) H Q := by
  refine x_in h rfl (nv_flat l) ?_
  rw [nv_in]
  exact k
theorem x_ninN {K : PySem.W.Frag} {H : Hp} {p : Addr} {v : Nat} {l : List Nat} {Q : VK} (h : H p = some (.lst (nv l))) (k : Q (.bl (!decide (v ∈ l))) H) : rIn K true (.int (v : Int)) (.ref p) H Q := by
  refine x_nin h rfl (nv_flat l) ?_
  rw [nv_in]
  exact k
/-- without u -/
def Hd (u : Addr) (H : Hp) : Hp := fun a => if a = u then none else H a
theorem hd_at {u a : Addr} {H : Hp} {o : HO} (h : H a = some o) (n : a ≠ u) : Hd u H a = some o := by unfold Hd; rw [if_neg n]; exact h
theorem hd_of {u a : Addr} {H : Hp} {o : HO} (h : Hd u H a = some o) : H a = some o ∧ a ≠ u := by
  unfold Hd at h
  split at h
  · cases h
  · rename_i n
    exact ⟨h, n⟩
theorem hd_same {u : Addr} {H : Hp} : Same (Hd u H) H := fun _ _ h => (hd_of h).1
theorem Keep.hd {u : Addr} {H H' : Hp} (k : Keep u H H') : Same (Hd u H) (Hd u H') := fun a o h => hd_at (k a o (hd_of h).1 (hd_of h).2) (hd_of h).2
theorem Same.hd {u : Addr} {H H' : Hp} (k : Same H H') : Same (Hd u H) (Hd u H') := fun a o h => hd_at (k a o (hd_of h).1) (hd_of h).2
/-- what is new, and x -/
def Nw (x : Addr) (H H' : Hp) : Hp := fun a => if a = x ∨ H a = none then H' a else none
theorem nw_at {x a : Addr} {H H' : Hp} {o : HO} (h : H' a = some o) (n : a = x ∨ H a = none) : Nw x H H' a = some o := by unfold Nw; rw [if_pos n]; exact h
theorem nw_of {x a : Addr} {H H' : Hp} {o : HO} (h : Nw x H H' a = some o) : H' a = some o ∧ (a = x ∨ H a = none) := by
  unfold Nw at h
  split at h
  · rename_i n
    exact ⟨h, n⟩
  · cases h
theorem nw_same {x : Addr} {H H' : Hp} : Same (Nw x H H') H' := fun _ _ h => (nw_of h).1
theorem nw_none {x a : Addr} {H H' : Hp} {o : HO} (h : H a = some o) (n : a ≠ x) : Nw x H H' a = none := by
  unfold Nw
  rw [if_neg]
  rintro (e | e)
  · exact n e
  · rw [h] at e; cases e
def fB (d : Addr) : List (Str × V) := putF "beside" (.ref d) []
theorem fB_beside (d : Addr) : (fB d).lookup ("beside" : Str) = some (.ref d) := by
  unfold fB
  rw [lookup_putF, if_pos rfl]
theorem fB_no (d : Addr) {m : Str} (h : ¬ m = "beside") : (fB d).lookup m = none := by
  unfold fB
  rw [lookup_putF, if_neg h]
  all_goals rfl
structure WebAt (C : Addr) (H : Hp) (x : Addr) (n : Nat) (e : Rel) : Prop where
  ex : ∃ (dx d : Addr) (rows : List Addr), H x = some (.ins C dx (fB d)) ∧ H d = some (.lst (rows.map V.ref)) ∧ rows.length = n ∧ ∀ (i : Nat) (a : Addr), rows[i]? = some a → H a = some (.lst (nv (nb n e i)))
theorem WebAt.same {C x : Addr} {H H' : Hp} {n : Nat} {e : Rel} (w : WebAt C H x n e) (k : Same H H') : WebAt C H' x n e := by
  obtain ⟨dx, d, rows, h1, h2, h3, h4⟩ := w.ex
  exact ⟨dx, d, rows, k _ _ h1, k _ _ h2, h3, fun i a h => k _ _ (h4 i a h)⟩
/-- the tuple of a tie -/
def TieV (H : Hp) (v : V) (p : Tie) : Prop := ∃ t, v = .ref t ∧ H t = some (.tup [.int (p.1 : Int), .int (p.2 : Int)])
/-- item by item -/
inductive A2 {α β : Type} (R : α → β → Prop) : List α → List β → Prop where
  | nil : A2 R [] []
  | cons {a : α} {b : β} {as : List α} {bs : List β} : R a b → A2 R as bs → A2 R (a :: as) (b :: bs)
section
variable {α β : Type} {R S : α → β → Prop}
theorem A2.len {as : List α} {bs : List β} (h : A2 R as bs) : as.length = bs.length := by
  induction h with
  | nil => rfl
  | cons _ _ ih => rw [List.length_cons, List.length_cons, ih]
theorem A2.imp {as : List α} {bs : List β} (h : A2 R as bs) (f : ∀ a b, R a b → S a b) : A2 S as bs := by
  induction h with
  | nil => exact .nil
  | cons r _ ih => exact .cons (f _ _ r) ih
theorem A2.get {as : List α} {bs : List β} (h : A2 R as bs) : ∀ {i : Nat} {a : α}, as[i]? = some a → ∃ b, bs[i]? = some b ∧ R a b := by
  induction h with
  | nil => intro i a e; simp at e
  | cons r _ ih =>
    intro i a e
    cases i with
    | zero => cases e; exact ⟨_, rfl, r⟩
    | succ i => exact ih (by simpa using e)
theorem A2.app {as cs : List α} {bs ds : List β} (h : A2 R as bs) (k : A2 R cs ds) : A2 R (as ++ cs) (bs ++ ds) := by
  induction h with
  | nil => exact k
  | cons r _ ih => exact .cons r ih
theorem A2.snoc {as : List α} {bs : List β} {a : α} {b : β} (h : A2 R as bs) (r : R a b) : A2 R (as ++ [a]) (bs ++ [b]) := h.app (.cons r .nil)
theorem A2.perm {as cs : List α} (p : cs.Perm as) : ∀ {bs : List β}, A2 R as bs → ∃ ds, ds.Perm bs ∧ A2 R cs ds := by
  induction p with
  | nil => intro bs h; exact ⟨bs, List.Perm.refl _, h⟩
  | cons x _ ih =>
    intro bs h
    cases h with
    | cons r t =>
      obtain ⟨ds, p, k⟩ := ih t
      exact ⟨_ :: ds, p.cons _, .cons r k⟩
  | swap x y l =>
    intro bs h
    cases h with
    | cons r t =>
      cases t with
      | cons r' t' => exact ⟨_, List.Perm.swap _ _ _, .cons r' (.cons r t')⟩
  | trans _ _ ih1 ih2 =>
    intro bs h
    obtain ⟨ds, p, k⟩ := ih2 h
    obtain ⟨es, q, k'⟩ := ih1 k
    exact ⟨es, q.trans p, k'⟩
end
abbrev TieL (H : Hp) (vs : List V) (ps : List Tie) : Prop := A2 (TieV H) vs ps
theorem TieV.same {H H' : Hp} {v : V} {p : Tie} (k : Same H H') (h : TieV H v p) : TieV H' v p := by
  obtain ⟨t, e, h⟩ := h
  exact ⟨t, e, k _ _ h⟩
theorem TieL.same {H H' : Hp} {vs : List V} {ps : List Tie} (k : Same H H') (h : TieL H vs ps) : TieL H' vs ps := h.imp fun _ _ => TieV.same k
theorem TieV.keep {u : Addr} {H H' : Hp} {us : List V} {v : V} {p : Tie} (k : Keep u H H') (hu : H u = some (.lst us)) (h : TieV H v p) : TieV H' v p := by
  obtain ⟨t, e, h⟩ := h
  exact ⟨t, e, k _ _ h (ne_of h hu (fun z => nomatch z))⟩
theorem TieL.keep {u : Addr} {H H' : Hp} {us : List V} {vs : List V} {ps : List Tie} (k : Keep u H H') (hu : H u = some (.lst us)) (h : TieL H vs ps) : TieL H' vs ps := h.imp fun _ _ => TieV.keep k hu
theorem TieL.upd {u : Addr} {H : Hp} {us vs : List V} {ps : List Tie} {o : HO} (hu : H u = some (.lst us)) (h : TieL H vs ps) : TieL (upd H u o) vs ps := h.keep (keep_self (Keep.refl H)) hu
/-! ### Web(places, ties) -/
/-- the rows that __init__ fills -/
structure Bs (H H1 : Hp) (D : Addr) (rows : List Addr) (f : Nat → List Nat) : Prop where
  sm : Same H H1
  nD : H D = none
  hD : H1 D = some (.lst (rows.map V.ref))
  nd : rows.Nodup
  out : D ∉ rows
  rw : ∀ (i : Nat) (a : Addr), rows[i]? = some a → H a = none ∧ H1 a = some (.lst (nv (f i)))
theorem Bs.push {H H1 : Hp} {D p : Addr} {rows : List Addr} (b : Bs H H1 D rows fun _ => []) (hp : H1 p = none) : Bs H (upd (upd H1 p (.lst [])) D (.lst (rows.map V.ref ++ [V.ref p]))) D (rows ++ [p]) fun _ => [] := by
  have nDp : D ≠ p := ne_of_none b.hD hp
  have np : p ∉ rows := fun h => by
    obtain ⟨i, e⟩ := List.mem_iff_getElem?.mp h
    have := (b.rw i p e).2
    rw [hp] at this
    cases this
  refine ⟨same_mut (b.sm.trans (same_new hp)) b.nD, b.nD, ?_, ?_, ?_, fun i a e => ?_⟩
  · rw [upd_same, List.map_append]
    rfl
  · exact List.nodup_append.mpr ⟨b.nd, by simp, fun x hx y hy => by simp only [List.mem_singleton] at hy; subst hy; exact fun z => np (z ▸ hx)⟩
  · intro h
    rcases List.mem_append.mp h with h | h
    · exact b.out h
    · exact nDp (List.mem_singleton.mp h)
  · by_cases hi : i < rows.length
    · rw [List.getElem?_append_left hi] at e
      have q := b.rw i a e
      have nDa : a ≠ D := fun z => b.out (z ▸ List.mem_of_getElem? e)
      exact ⟨q.1, upd_at nDa (new_at hp q.2)⟩
    · rw [List.getElem?_append_right (by omega)] at e
      have h0 : i - rows.length = 0 := by
        by_cases z : i - rows.length = 0
        · exact z
        · rw [List.getElem?_eq_none (by simp only [List.length_cons, List.length_nil]; omega)] at e
          cases e
      rw [h0] at e
      have ea : p = a := Option.some.inj e
      subst ea
      exact ⟨b.sm.free hp, upd_at nDp.symm upd_same⟩
theorem Bs.app {H H1 : Hp} {D a : Addr} {rows : List Addr} {f g : Nat → List Nat} {i v : Nat} (b : Bs H H1 D rows f) (e : rows[i]? = some a) (hg : g i = f i ++ [v]) (ho : ∀ j, j ≠ i → g j = f j) : Bs H (upd H1 a (.lst (nv (f i) ++ [.int (v : Int)]))) D rows g := by
  have q := b.rw i a e
  have nDa : D ≠ a := fun z => b.out (z ▸ List.mem_of_getElem? e)
  refine ⟨same_mut b.sm q.1, b.nD, upd_at nDa b.hD, b.nd, b.out, fun j c hc => ?_⟩
  by_cases hj : j = i
  · subst hj
    rw [e] at hc
    cases hc
    refine ⟨q.1, ?_⟩
    rw [upd_same, hg, nv_app]
    rfl
  · have q' := b.rw j c hc
    have nca : c ≠ a := fun z => by
      subst z
      exact hj (nd_ix b.nd hc e)
    rw [ho j hj]
    exact ⟨q'.1, upd_at nca q'.2⟩
def spInitW (C : Addr) : Sp := fun vs H Q _ => ∃ (x dx t : Addr) (n : Nat) (vs' : List V) (ps : List Tie), vs = [.ref x, .int (n : Int), .ref t] ∧ H x = some (.ins C dx []) ∧ H t = some (.lst vs') ∧ TieL H vs' ps ∧ TOk n ps ∧ n ≤ 100 ∧ ps.length ≤ 50000 ∧
  ∀ H', Keep x H H' → WebAt C (Nw x H H') x n (eOf ps) → Q .non H'
theorem x_spTie {H : Hp} {Q : VK} {E : XK} {n : Int} {t : Addr} {a b : Int} (h : H t = some (.tup [.int a, .int b])) (q : Q (.bl (decide (0 ≤ a ∧ a < b ∧ b < n))) H) : spTie [.int n, .ref t] H Q E := ⟨n, t, a, b, rfl, h, q⟩
abbrev s_WebD_initD : Stmt := inClass (topS 9) 0
theorem sc_WebD_initD : FnScope ["self", "places", "ties", "beside", "tie", "u", "v", "place", "row"] ["self", "places", "ties"] (defScope s_WebD_initD) := ⟨rfl, rfl, rfl, by decide +kernel, rfl, by decide +kernel, by decide +kernel⟩
section
variable {P : Program} {w : World} {K : PySem.W.Frag} {mg : Str → Option Value} {base : Heap}
theorem m_Web_init {C : Addr} (T : Tx mg) (O_Web : Own K mg "Web" C) (nB : NoAttr K C "beside") (F : MetAt K C "__init__" "Web.__init__" s_WebD_initD ["self", "places", "ties"]) (c_is_integer : Cal P w K mg base CX0 1 "is_integer" (spIsInt K)) (c_is_tie : Cal P w K mg base CX0 2 "is_tie" spTie) :
    Met P w K mg base CX0 3 C "__init__" (spInitW C) := by
  refine F.met sc_WebD_initD (fun vs H Q E h => ?_) (fun f cdv A outer s H vs Q E hr h => ?_)
  · obtain ⟨x, dx, t, n, vs', ps, rfl, _⟩ := h
    rfl
  · obtain ⟨x, dx, t, n, vs', ps, rfl, hx, ht, hT, tok, hn, hl, q⟩ := h
    refine ⟨_, (pss_cons (ps_if (PW.pt (pw_or (pt_not (pt_val (pe_cal c_is_integer hr (by decide) rfl pass0 (pa_cons (pv 1) pa_nil)))) (pw_or1 (pt_cmpR op_lt (pv 1) pe_int (nomark _)))))
        (pss_one ps_never) pss_nil)
      (pss_cons (ps_if (pt_not (pt_val (pe_callB (cl_isi K) (by rfl) T.z_isinstance (by decide +kernel) (pa_cons (pv 2) (pa_cons (pe_bltn (v := .ty "list") (by rfl) T.z_list (by decide +kernel) rfl) pa_nil)))))
        (pss_one ps_never) pss_nil)
      (pss_cons (ps_setLc (i := 3) (own := [("place", 7)]) (g := gName 7) rfl sc_WebD_initD.nd rfl rfl (sw_true rfl rfl rfl (by decide +kernel)) (pi_range1 rfl T.z_range (pa_cons (pv 1) pa_nil)) (blkOk_by (own := [("place", 7)]) (N := ["self", "places", "ties", "beside", "tie", "u", "v", "place", "row"]) (sc := defScope s_WebD_initD) (by decide +kernel)) (fun _ _ _ _ _ => (pg_name (i := 7) sc_WebD_initD.nd rfl (Or.inl rfl))) (fun _ _ _ _ _ => pts_nil) (fun _ _ _ _ _ => (pe_lst pa_nil)))
      (pss_cons (ps_for PassesOwn.never rfl (k_pil K (pv 2)) (pg_name (i := 4) sc_WebD_initD.nd rfl (Or.inl rfl))
        (pss_cons (ps_if (pt_not (pt_val (pe_cal c_is_tie hr (by decide) rfl pass0 (pa_cons (pv 1) (pa_cons (pv 4) pa_nil)))))
        (pss_one ps_never) pss_nil)
      (pss_cons (ps_asg (pv 4) (k_tup (n := 2) K rfl (pgs_cons (pg_name (i := 5) sc_WebD_initD.nd rfl (Or.inl rfl)) (pgs_cons (pg_name (i := 6) sc_WebD_initD.nd rfl (Or.inl rfl)) pgs_nil))))
      (pss_cons (ps_if (pt_cmpR (k_in K) (pv 6) (pe_ix (ix_l K) (pv 3) (pv 5) (fun _ _ => rfl)) (by first | exact nomark _ | rfl))
        (pss_one ps_never) pss_nil)
      (pss_cons (ps_expr (k_bm K PySem.F.plainAttrs_list PySem.F.slot_list_append PySem.F.type_list_append mt_append (pe_ix (ix_l K) (pv 3) (pv 5) (fun _ _ => rfl)) (pa_cons (pv 6) pa_nil)))
      (pss_one (ps_expr (k_bm K PySem.F.plainAttrs_list PySem.F.slot_list_append PySem.F.type_list_append mt_append (pe_ix (ix_l K) (pv 3) (pv 6) (fun _ _ => rfl)) (pa_cons (pv 5) pa_nil)))))))))
      (pss_one (k_sfld K (pv 0) (pe_lc (own := [("row", 8)]) (g := gName 8) rfl sc_WebD_initD.nd (k_pil K (pv 3)) (blkOk_by (own := [("row", 8)]) (N := ["self", "places", "ties", "beside", "tie", "u", "v", "place", "row"]) (sc := defScope s_WebD_initD) (by decide +kernel)) (fun _ _ _ _ _ => (pg_name (i := 8) sc_WebD_initD.nd rfl (Or.inl rfl))) (fun _ _ _ _ _ => pts_nil) (fun _ _ _ _ _ => (pe_callB (cl_sortedI K) (by rfl) T.z_sorted (by decide +kernel) (pa_cons (pv 8) pa_nil)))) rfl)))))), ?_⟩
    walk_at "go"
    refine x_spInt ?_
    walk_at "go"
    intro D hD
    -- beside: a new row for each place
    refine x_lwR (fun i H1 => ∃ rows, rows.length = i ∧ Bs H H1 D rows fun _ => []) ⟨[], rfl, same_new hD, hD, upd_same, List.nodup_nil, by simp, fun i a e => by simp at e⟩ ?_ ?_
    · rintro i H1 hi ⟨rows, rfl, b⟩
      walk_at "go"
      refine x_sz (by decide) fun p hp => ?_
      have nDp : D ≠ p := ne_of_none b.hD hp
      refine ⟨_, upd_at nDp b.hD, sz_lt (by rw [List.length_map]; omega), ?_⟩
      exact ⟨rows ++ [p], by simp, b.push hp⟩
    rintro H1 ⟨rows, hlen, b⟩
    have s1 := b.sm
    walk_at "go"
    -- the ties, one by one
    refine x_fwL (xs := vs') (fun i σ H2 => ∃ y4 y5 y6, σ = [some (.ref x), some (.int (n : Int)), some (.ref t), some (.ref D), y4, y5, y6, none, none] ∧ Bs H H2 D rows (nbr (ps.take i)))
      ⟨none, none, none, rfl, b⟩ ?_ ?_ ?_
    · rintro i σ H2 hi ⟨y4, y5, y6, rfl, b⟩
      exact sq_l (b.sm _ _ ht)
    · rintro i y σ H2 hi ⟨y4, y5, y6, rfl, b⟩
      obtain ⟨p, hp, tp, rfl, htp⟩ := hT.get hi
      have htp2 : H2 tp = some (.tup [.int (p.1 : Int), .int (p.2 : Int)]) := b.sm _ _ htp
      have hok := tok.ok p (List.mem_of_getElem? hp)
      have htk : ps.take (i + 1) = ps.take i ++ [p] := by rw [List.take_add_one, hp]; rfl
      walk_at "go"
      refine x_spTie htp2 ?_
      rw [decide_eq_true (show (0 : Int) ≤ (p.1 : Int) ∧ (p.1 : Int) < (p.2 : Int) ∧ (p.2 : Int) < (n : Int) by omega)]
      have r1 : p.1 < rows.length := by omega
      have r2 : p.2 < rows.length := by omega
      have e1 : rows[p.1]? = some rows[p.1] := List.getElem?_eq_getElem r1
      have e2 : rows[p.2]? = some rows[p.2] := List.getElem?_eq_getElem r2
      have g1 : atI (rows.map V.ref) (p.1 : Int) = some (.ref rows[p.1]) := atI_nat (refs_at e1)
      have g2 : atI (rows.map V.ref) (p.2 : Int) = some (.ref rows[p.2]) := atI_nat (refs_at e2)
      have hD2 := b.hD
      walk_at "go"
      refine x_inN (b.rw _ _ e1).2 ?_
      have tk : TOk n (ps.take i) := ⟨tok.nd.sublist (List.take_sublist _ _), fun z hz => tok.ok z (List.mem_of_mem_take hz)⟩
      have nm : ¬ p.2 ∈ nbr (ps.take i) p.1 := fun h => by
        rcases eOf_iff.mp ((mem_nbr tk).mp h) with h | h
        · have nd := tok.nd
          rw [← List.take_append_drop i ps] at nd
          have hd : p ∈ ps.drop i := by
            refine List.mem_of_getElem? (i := 0) ?_
            rw [List.getElem?_drop]
            exact hp
          exact (List.nodup_append.mp nd).2.2 _ h _ hd rfl
        · have := (tk.ok _ h).1
          simp only at this
          omega
      have q1 := (b.rw _ _ e1).2
      have z1 : (nv (nbr (ps.take i) p.1)).length < 100000 := by
        rw [nv_len]
        have := List.length_filterMap_le (ends p.1) (ps.take i)
        rw [List.length_take] at this
        unfold nbr
        omega
      let f1 : Nat → List Nat := fun j => if j = p.1 then nbr (ps.take i) j ++ [p.2] else nbr (ps.take i) j
      have b1 := b.app (g := f1) (v := p.2) e1 (if_pos rfl) (fun j hj => if_neg hj)
      have hD3 := b1.hD
      have q2 := (b1.rw _ _ e2).2
      have z2 : (nv (f1 p.2)).length < 100000 := by
        rw [nv_len]
        show (if p.2 = p.1 then _ else _ : List Nat).length < _
        rw [if_neg (by omega)]
        have := List.length_filterMap_le (ends p.2) (ps.take i)
        rw [List.length_take] at this
        unfold nbr
        omega
      walk_at "go"
      have b2 := b1.app (g := nbr (ps.take (i + 1))) (v := p.1) e2 (by
        show _ = (if p.2 = p.1 then _ else _ : List Nat) ++ [p.1]
        rw [if_neg (by omega), htk, nbr_snoc]
        unfold ends
        rw [if_neg (by omega), if_pos rfl]
        rfl) (fun j hj => by
        show _ = (if j = p.1 then _ else _ : List Nat)
        rw [htk, nbr_snoc]
        unfold ends
        split
        · rename_i h
          rw [if_pos h.symm]
          rfl
        · rename_i h
          rw [if_neg (fun z => hj z.symm), if_neg (fun z => h z.symm)]
          simp)
      exact ⟨_, _, _, rfl, b2⟩
    · rintro σ H2 ⟨y4, y5, y6, rfl, b⟩
      have hps : ps.take vs'.length = ps := by rw [hT.len, List.take_length]
      rw [hps] at b
      have hD2 := b.hD
      walk_at "go"
      -- the rows, in order
      intro D2 hD2n
      refine x_lwL (xs := rows.map V.ref) (fun i H3 => ∃ outs : List Addr, outs.length = i ∧ Same H2 H3 ∧ H3 D2 = some (.lst (outs.map V.ref)) ∧ ∀ (j : Nat) (a : Addr), outs[j]? = some a → H a = none ∧ a ≠ D2 ∧ H3 a = some (.lst (nv (nb n (eOf ps) j))))
        ⟨[], rfl, same_new hD2n, upd_same, fun j a e => by simp at e⟩ (fun i H3 hi ⟨outs, h1, h2, _⟩ => sq_l (h2 _ _ hD2)) ?_ ?_
      · rintro i y H3 hi ⟨outs, h1, h2, h3, h4⟩
        obtain ⟨a, rfl, ha⟩ := of_refs hi
        have hrow := h2 _ _ (b.rw _ _ ha).2
        walk_at "go"
        rw [nv_ints] at hrow
        refine x_sortedI hrow fun ns' p pm srt hp => ?_
        have e := nbr_sorted tok pm srt
        rw [e, ← nv_ints]
        walk_at "go"
        have npD : D2 ≠ p := ne_of_none h3 hp
        refine ⟨_, upd_at npD h3, sz_lt (by rw [List.length_map]; have := (List.getElem?_eq_some_iff.mp ha).1; omega), ?_⟩
        refine ⟨outs ++ [p], by simp [h1], same_mut (h2.trans (same_new hp)) hD2n, by rw [upd_same, List.map_append]; rfl, fun j c hc => ?_⟩
        by_cases hj : j < outs.length
        · rw [List.getElem?_append_left hj] at hc
          obtain ⟨q1, q2, q3⟩ := h4 j c hc
          exact ⟨q1, q2, upd_at q2 (new_at hp q3)⟩
        · rw [List.getElem?_append_right (by omega)] at hc
          have h0 : j - outs.length = 0 := by
            by_cases z : j - outs.length = 0
            · exact z
            · rw [List.getElem?_eq_none (by simp only [List.length_cons, List.length_nil]; omega)] at hc
              cases hc
          rw [h0] at hc
          cases hc
          have ej : j = i := by omega
          subst ej
          exact ⟨b.sm.free (h2.free hp), npD.symm, upd_at npD.symm upd_same⟩
      · rintro H3 ⟨outs, h1, h2, h3, h4⟩
        walk_at "go"
        have hx3 : H3 x = some (.ins C dx []) := h2 _ _ (b.sm _ _ hx)
        refine x_sfl hx3 O_Web.cl nB (by decide) ?_
        refine q _ ?_ ⟨dx, D2, outs, nw_at upd_same (.inl rfl), nw_at (upd_at (ne_of h3 hx3 (fun z => nomatch z)) h3) (.inr (b.sm.free hD2n)), by rw [h1, List.length_map, hlen]; rfl, fun i a ha => ?_⟩
        · exact keep_self (Same.toKeep (b.sm.trans h2))
        · obtain ⟨q1, q2, q3⟩ := h4 i a ha
          exact nw_at (upd_at (ne_of q3 hx3 (fun z => nomatch z)) q3) (.inr q1)
end
abbrev s_WebD_lenD : Stmt := inClass (topS 9) 1
theorem sc_WebD_lenD : FnScope ["self"] ["self"] (defScope s_WebD_lenD) := ⟨rfl, rfl, rfl, by decide +kernel, rfl, by decide +kernel, by decide +kernel⟩
def spLenW (C : Addr) : Sp := fun vs H Q _ => ∃ (x : Addr) (n : Nat) (e : Rel), vs = [.ref x] ∧ WebAt C H x n e ∧ Q (.int (n : Int)) H
abbrev s_Web_ties : Stmt := inClass (topS 9) 3
theorem sc_Web_ties : FnScope ["self", "u", "v"] ["self"] (defScope s_Web_ties) := ⟨rfl, rfl, rfl, by decide +kernel, rfl, by decide +kernel, by decide +kernel⟩
def spTiesW (C : Addr) : Sp := fun vs H Q _ => ∃ (x : Addr) (n : Nat) (e : Rel), vs = [.ref x] ∧ WebAt C H x n e ∧ n ≤ 100 ∧ ∀ p H' vs', H p = none → Same H H' → H' p = some (.lst vs') → TieL H' vs' (tiesOf n e) → Q (.ref p) H'
theorem x_spLenW {C : Addr} {H : Hp} {Q : VK} {E : XK} {x : Addr} {n : Nat} {e : Rel} (w : WebAt C H x n e) (q : Q (.int (n : Int)) H) : spLenW C [.ref x] H Q E := ⟨x, n, e, rfl, w, q⟩
theorem tiesOf_step {m : Nat} {n : Nat} {e : Rel} : (List.range (m + 1)).flatMap (fun u => ((nb n e u).filter fun v => decide (u < v)).map fun v => ((u, v) : Tie)) =
    (List.range m).flatMap (fun u => ((nb n e u).filter fun v => decide (u < v)).map fun v => ((u, v) : Tie)) ++ ((nb n e m).filter fun v => decide (m < v)).map fun v => ((m, v) : Tie) := by
  rw [List.range_succ, List.flatMap_append, List.flatMap_cons, List.flatMap_nil, List.append_nil]
section
variable {P : Program} {w : World} {K : PySem.W.Frag} {mg : Str → Option Value} {base : Heap}
theorem o_Web_len {C : Addr} (T : Tx mg) (O_Web : Own K mg "Web" C) (nB : NoAttr K C "beside") (F : MetAt K C "__len__" "Web.__len__" s_WebD_lenD ["self"]) : Met P w K mg base CX0 1 C "__len__" (spLenW C) := by
  refine F.met sc_WebD_lenD (fun vs H Q E h => ?_) (fun f cdv A outer s H vs Q E hr h => ?_)
  · obtain ⟨x, n, e, rfl, _⟩ := h
    rfl
  · obtain ⟨x, n, e, rfl, ⟨dx, d, rows, h1, h2, h3, h4⟩, q⟩ := h
    refine ⟨_, (pss_one (ps_ret (pe_callB (cl_len K) (by rfl) T.z_len PySem.boot_len (pa_cons (k_fld K (pv 0) rfl) pa_nil)))), ?_⟩
    have cl := O_Web.cl
    have hb := fB_beside d
    walk_at "go"
    rw [List.length_map, h3]
    exact q
theorem p_Web_ties {C : Addr} (T : Tx mg) (O_Web : Own K mg "Web" C) (nB : NoAttr K C "beside") (F : PrpAt K C "ties" "Web.ties" s_Web_ties) : Prp P w K mg base CX0 1 C "ties" (spTiesW C) := by
  refine F.prp sc_Web_ties (fun vs H Q E h => ?_) (fun f cdv A outer s H vs Q E hr h => ?_)
  · obtain ⟨x, n, e, rfl, _⟩ := h
    rfl
  · obtain ⟨x, n, e, rfl, ⟨dx, d, rows, h1, h2, h3, h4⟩, hn, q⟩ := h
    refine ⟨_, (pss_one (ps_ret (pe_lc2 (own := [("u", 1), ("v", 2)]) (g := gName 1) (g1 := gName 2) (vs1 := [2]) rfl sc_Web_ties.nd (pi_range1 rfl T.z_range (pa_cons (pe_callB (cl_len K) (by rfl) T.z_len PySem.boot_len (pa_cons (k_fld K (pv 0) rfl) pa_nil)) pa_nil)) (blkOk_by (own := [("u", 1), ("v", 2)]) (N := ["self", "u", "v"]) (sc := defScope s_Web_ties) (by decide +kernel)) (by decide) (fun _ _ _ _ _ => (pg_name (i := 1) sc_Web_ties.nd rfl (Or.inl rfl))) (fun _ _ _ _ _ => pts_nil) (fun _ _ _ _ _ => (k_pil K (pe_ix (ix_l K) (k_fld K (pv 0) rfl) (pv 1) (fun _ _ => rfl)))) (fun _ _ _ _ _ => (pg_name (i := 2) sc_Web_ties.nd rfl (Or.inl rfl))) (fun _ _ _ _ _ => pts_one (pt_cmpR op_lt (pv 1) (pv 2) (nomark _))) (fun _ _ _ _ _ => (pe_tup (pa_cons (pv 1) (pa_cons (pv 2) pa_nil))))))), ?_⟩
    have cl := O_Web.cl
    have hb := fB_beside d
    walk_at "go"
    intro D hD
    -- for u in range(n)
    refine x_lw2R0 (fun i H1 => ∃ vs', Same H H1 ∧ H1 D = some (.lst vs') ∧ TieL H1 vs' ((List.range i).flatMap fun u => ((nb n e u).filter fun v => decide (u < v)).map fun v => ((u, v) : Tie)) ∧ vs'.length ≤ i * 100)
      ⟨[], same_new hD, upd_same, .nil, Nat.le_refl _⟩ ?_ ?_
    · rintro i H1 hi ⟨vs', s1, hD1, hT, hz⟩
      rw [List.length_map, h3] at hi
      have hin : i < n := by omega
      have hx1 := s1 _ _ h1
      have hd1 := s1 _ _ h2
      have ei : rows[i]? = some rows[i] := List.getElem?_eq_getElem (by omega)
      have hr1 := s1 _ _ (h4 i _ ei)
      have g1 : atI (rows.map V.ref) (i : Int) = some (.ref rows[i]) := atI_nat (refs_at ei)
      walk_at "go"
      -- for v in self.beside[u] if u < v
      have hnl := nb_len n e i
      refine x_liL (xs := nv (nb n e i)) (fun j H2 => ∃ vs2, Same H H2 ∧ H2 D = some (.lst vs2) ∧ TieL H2 vs2 (((List.range i).flatMap fun u => ((nb n e u).filter fun v => decide (u < v)).map fun v => ((u, v) : Tie)) ++ (((nb n e i).take j).filter fun v => decide (i < v)).map fun v => ((i, v) : Tie)) ∧ vs2.length ≤ i * 100 + j)
        ⟨vs', s1, hD1, by simpa using hT, by omega⟩ (fun j H2 hj ⟨vs2, s2, _⟩ => sq_l (s2 _ _ (h4 i _ ei))) ?_ ?_
      · rintro j y H2 hj ⟨vs2, s2, hD2, hT2, hz2⟩
        obtain ⟨v, rfl, hv⟩ := of_nv hj
        have hjl := (List.getElem?_eq_some_iff.mp hv).1
        have etk : (nb n e i).take (j + 1) = (nb n e i).take j ++ [v] := by rw [List.take_add_one, hv]; rfl
        walk_at "go"
        refine x_ite (fun c => ?_) (fun c => ?_)
        · walk_at "go"
          refine x_sz (by show 2 ≤ 100000; decide) fun p hp => ?_
          have nDp : D ≠ p := ne_of_none hD2 hp
          refine ⟨_, upd_at nDp hD2, sz_lt (by have : i * 100 ≤ 100 * 100 := Nat.mul_le_mul_right 100 (by omega); omega), ?_⟩
          refine ⟨_, same_mut (s2.trans (same_new hp)) hD, upd_same, ?_, by rw [List.length_append]; show vs2.length + 1 ≤ _; omega⟩
          rw [etk, List.filter_append, List.map_append, ← List.append_assoc, List.filter_cons_of_pos (by simp; omega)]
          refine A2.snoc ((hT2.same (same_new hp)).upd (new_at hp hD2)) ⟨p, rfl, upd_at nDp.symm upd_same⟩
        · refine ⟨vs2, s2, hD2, ?_, by omega⟩
          rw [etk, List.filter_append, List.filter_cons_of_neg (by simp; omega), List.filter_nil, List.append_nil]
          exact hT2
      · rintro H2 ⟨vs2, s2, hD2, hT2, hz2⟩
        refine ⟨vs2, s2, hD2, ?_, by rw [nv_len] at hz2; omega⟩
        rw [tiesOf_step]
        rw [nv_len, List.take_length] at hT2
        exact hT2
    · rintro H1 ⟨vs', s1, hD1, hT, hz⟩
      rw [List.length_map, h3] at hT
      exact q D H1 vs' hD s1 hD1 hT
end
/-! ### ties as data -/
def dT (p : Tie) : PyData := .tuple [.int (p.1 : Int), .int (p.2 : Int)]
section
variable {K : PySem.W.Frag} {H : Hp}
theorem dp_tie {v : V} {p : Tie} (h : TieV H v p) : Dp K H v (dT p) := by
  obtain ⟨t, rfl, h⟩ := h
  exact .tup (sq_t h) (.cons (.int _) (.cons (.int _) .nil))
theorem dp_ties {vs : List V} {ps : List Tie} (h : TieL H vs ps) : DpAll K H vs (ps.map dT) := by
  induction h with
  | nil => exact .nil
  | cons r _ ih => exact .cons (dp_tie r) ih
theorem dp_tieL {a : Addr} {vs : List V} {ps : List Tie} (ha : H a = some (.lst vs)) (h : TieL H vs ps) : Dp K H (.ref a) (.list (ps.map dT)) := .lst (sq_l ha) (dp_ties h)
end
theorem eqv_tie (p q : Tie) : PyData.eqv (dT p) (dT q) = decide (p = q) := by
  obtain ⟨a, b⟩ := p
  obtain ⟨c, d⟩ := q
  unfold dT
  simp only [PyData.eqv, PyData.eqvAll, Bool.and_true]
  rw [Bool.eq_iff_iff, Bool.and_eq_true, beq_iff_eq, beq_iff_eq, decide_eq_true_eq, Prod.mk.injEq]
  omega
theorem eqv_ties : ∀ ps qs : List Tie, PyData.eqvAll (ps.map dT) (qs.map dT) = decide (ps = qs)
  | [], [] => rfl
  | [], _ :: _ => rfl
  | _ :: _, [] => rfl
  | p :: ps, q :: qs => by
    show (PyData.eqv (dT p) (dT q) && PyData.eqvAll (ps.map dT) (qs.map dT)) = _
    rw [eqv_tie, eqv_ties ps qs, Bool.eq_iff_iff, Bool.and_eq_true, decide_eq_true_eq, decide_eq_true_eq, decide_eq_true_eq, List.cons.injEq]
theorem eqv_tieL (ps qs : List Tie) : PyData.eqv (.list (ps.map dT)) (.list (qs.map dT)) = decide (ps = qs) := by
  simp only [PyData.eqv]
  exact eqv_ties ps qs
theorem lay_ties : ∀ ps : List Tie, PyData.canLayAll0 (ps.map dT) = true
  | [] => rfl
  | p :: ps => by
    show (PyData.canLay0 (dT p) && PyData.canLayAll0 (ps.map dT)) = true
    rw [lay_ties ps]
    rfl
theorem depth_ties : ∀ ps : List Tie, PyData.depthAll (ps.map dT) ≤ 1
  | [] => by simp [PyData.depthAll]
  | p :: ps => by
    have ih := depth_ties ps
    show max (PyData.depth (dT p)) (PyData.depthAll (ps.map dT)) ≤ 1
    have e : PyData.depth (dT p) = 1 := rfl
    omega
theorem shaped_tie (p : Tie) : SeqAt.shaped (dT p) = true := rfl
theorem shaped_ties (ps : List Tie) : SeqAt.shaped (.list (ps.map dT)) = true := by
  unfold SeqAt.shaped
  rw [Bool.and_eq_true, decide_eq_true_eq]
  refine ⟨?_, ?_⟩
  · show PyData.canLayAll0 (ps.map dT) = true
    exact lay_ties ps
  · show PyData.depthAll (ps.map dT) + 1 ≤ 64
    have := depth_ties ps
    omega
theorem any_tie (p : Tie) (ps : List Tie) : ((ps.map dT).any fun z => PyData.eqv z (dT p)) = decide (p ∈ ps) := by
  rw [List.any_map, Bool.eq_iff_iff, List.any_eq_true, decide_eq_true_eq]
  constructor
  · rintro ⟨q, hq, e⟩
    have e2 : PyData.eqv (dT q) (dT p) = true := e
    rw [eqv_tie, decide_eq_true_eq] at e2
    exact e2 ▸ hq
  · intro h
    exact ⟨p, h, by show PyData.eqv (dT p) (dT p) = true; rw [eqv_tie, decide_eq_true rfl]⟩
section
variable {K : PySem.W.Frag} {H : Hp} {Q : VK}
/-- tie not in ties -/
theorem x_ninT {v : V} {p : Tie} {a : Addr} {vs : List V} {ps : List Tie} (hv : TieV H v p) (ha : H a = some (.lst vs)) (h : TieL H vs ps) (k : Q (.bl (!decide (p ∈ ps))) H) : rNotInD K v (.ref a) H Q := by
  refine ⟨dT p, ps.map dT, dp_tie hv, dp_tieL ha h, shaped_tie p, shaped_ties ps, ?_⟩
  rw [any_tie]
  exact k
theorem x_inT {v : V} {p : Tie} {a : Addr} {vs : List V} {ps : List Tie} (hv : TieV H v p) (ha : H a = some (.lst vs)) (h : TieL H vs ps) (k : Q (.bl (decide (p ∈ ps))) H) : rInD K v (.ref a) H Q := by
  refine ⟨dT p, ps.map dT, dp_tie hv, dp_tieL ha h, shaped_tie p, shaped_ties ps, ?_⟩
  rw [any_tie]
  exact k
/-- two lists of ties -/
theorem x_neT {a b : Addr} {vs ws : List V} {ps qs : List Tie} (ha : H a = some (.lst vs)) (h : TieL H vs ps) (hb : H b = some (.lst ws)) (h' : TieL H ws qs) (k : Q (.bl (!decide (ps = qs))) H) : rNeD K (.ref a) (.ref b) H Q := by
  refine ⟨_, _, dp_tieL ha h, dp_tieL hb h', shaped_ties ps, shaped_ties qs, ?_⟩
  rw [eqv_tieL]
  exact k
theorem x_eqT {a b : Addr} {vs ws : List V} {ps qs : List Tie} (ha : H a = some (.lst vs)) (h : TieL H vs ps) (hb : H b = some (.lst ws)) (h' : TieL H ws qs) (k : Q (.bl (decide (ps = qs))) H) : rEqD K (.ref a) (.ref b) H Q := by
  refine ⟨_, _, dp_tieL ha h, dp_tieL hb h', shaped_ties ps, shaped_ties qs, ?_⟩
  rw [eqv_tieL]
  exact k
/-- sorted(ties), all different -/
def keyT (H : Hp) (x : V) : Int × Int := match x with
  | .ref t => match H t with
    | some (.tup [.int a, .int b]) => (a, b)
    | _ => (0, 0)
  | _ => (0, 0)
theorem keyT_of {v : V} {p : Tie} (h : TieV H v p) : keyT H v = ((p.1 : Int), (p.2 : Int)) := by
  obtain ⟨t, rfl, h⟩ := h
  unfold keyT
  simp only [h]
theorem TieL.sorted {ys : List V} {qs : List Tie} (h : TieL H ys qs) (s : SrtO.Srtd (ltP (keyT H)) ys) (nd : qs.Nodup) : qs.Pairwise ltT := by
  induction h with
  | nil => exact List.Pairwise.nil
  | @cons v p vs ps r t ih =>
    refine List.pairwise_cons.mpr ⟨fun q hq => ?_, ih (List.pairwise_cons.mp s).2 (List.nodup_cons.mp nd).2⟩
    obtain ⟨i, e⟩ := List.mem_iff_getElem?.mp hq
    have hi : i < vs.length := by rw [t.len]; exact (List.getElem?_eq_some_iff.mp e).1
    obtain ⟨q', e', r'⟩ := t.get (List.getElem?_eq_getElem hi)
    rw [e] at e'
    cases e'
    have h1 := (List.pairwise_cons.mp s).1 _ (List.getElem_mem hi)
    have h2 := SrtO.lexB_no.mp h1
    rw [keyT_of r, keyT_of r'] at h2
    simp only at h2
    have h3 : p ≠ q := fun z => (List.nodup_cons.mp nd).1 (z ▸ hq)
    unfold ltT
    obtain ⟨a, b⟩ := p
    obtain ⟨c, d⟩ := q
    simp only at h2 h3 ⊢
    have h4 : ¬ (a = c ∧ b = d) := fun ⟨x, y⟩ => h3 (by rw [x, y])
    omega
theorem x_sortedT {a : Addr} {vs : List V} {ps : List Tie} (ha : H a = some (.lst vs)) (h : TieL H vs ps) (nd : ps.Nodup) (k : ∀ ys qs p, qs.Perm ps → TieL H ys qs → qs.Pairwise ltT → H p = none → Q (.ref p) (upd H p (.lst ys))) : rSortedPO K [.ref a] H Q := by
  refine ⟨a, vs, keyT H, rfl, sq_l ha, fun x hx => ?_, fun ys p s st hp => ?_⟩
  · obtain ⟨i, e⟩ := List.mem_iff_getElem?.mp hx
    obtain ⟨q, _, r⟩ := h.get e
    have e2 := keyT_of r
    obtain ⟨t, rfl, r⟩ := r
    exact ⟨t, rfl, by rw [e2]; exact r⟩
  · obtain ⟨qs, pm, h2⟩ := A2.perm st.perm h
    exact k ys qs p pm h2 (TieL.sorted h2 s (pm.nodup_iff.mpr nd)) hp
end
/-! ### orders of places -/
theorem a2_nv (l : List Nat) : A2 (fun (v : V) (k : Nat) => v = .int (k : Int)) (nv l) l := by
  induction l with
  | nil => exact .nil
  | cons x r ih => exact .cons rfl ih
theorem nv_a2 {vs : List V} {l : List Nat} (h : A2 (fun (v : V) (k : Nat) => v = .int (k : Int)) vs l) : vs = nv l := by
  induction h with
  | nil => rfl
  | cons r _ ih => subst r; rw [ih]; rfl
theorem perm_nv {vs : List V} {l : List Nat} (p : vs.Perm (nv l)) : ∃ m, m.Perm l ∧ vs = nv m := by
  obtain ⟨m, q, h⟩ := A2.perm p (a2_nv l)
  exact ⟨m, q, nv_a2 h⟩
theorem rg_nv (N : Nat) : rgV 0 (N : Int) = nv (List.range N) := by
  unfold rgV nv
  rw [show ((N : Int) - 0).toNat = N by omega]
  refine List.map_congr_left fun i _ => ?_
  rw [Int.zero_add]
abbrev s_l_pairs : Stmt := topS 21
theorem sc_l_pairs : FnScope ["value", "one"] ["value"] (defScope s_l_pairs) := ⟨rfl, rfl, rfl, by decide +kernel, rfl, by decide +kernel, by decide +kernel⟩
def spPairs : Sp := fun vs H Q _ => ∃ (a : Addr) (vs' : List V) (ps : List Tie), vs = [.ref a] ∧ H a = some (.lst vs') ∧ TieL H vs' ps ∧ vs'.length ≤ 50000 ∧ ∀ H', Same H H' → Q (.bl true) H'
theorem rep_snoc (i : Nat) : (List.replicate i true).map V.bl ++ [V.bl true] = (List.replicate (i + 1) true).map V.bl := by
  rw [List.replicate_succ', List.map_append]
  rfl
theorem rep_all (i : Nat) : (List.replicate i true).all id = true := by
  rw [List.all_eq_true]
  intro x hx
  exact (List.mem_replicate.mp hx).2
section
variable {P : Program} {w : World} {K : PySem.W.Frag} {mg : Str → Option Value} {base : Heap}
theorem c_l_pairs (T : Tx mg) (F : DefAt K mg "_law_pairs" s_l_pairs ["value"]) (c_l_whole : Cal P w K mg base CX0 1 "_law_whole" (spIsInt K)) : Cal P w K mg base CX0 2 "_law_pairs" spPairs := by
  refine F.cal sc_l_pairs (fun vs H Q E h => ?_) (fun f cdv A outer s H vs Q E hr h => ?_)
  · obtain ⟨a, vs', ps, rfl, _⟩ := h
    rfl
  · obtain ⟨a, vs', ps, rfl, ha, hT, hz, q⟩ := h
    refine ⟨_, (pss_cons (ps_if (PW.pt (pw_or (pt_not (pt_val (pe_callB (cl_isi K) (by rfl) T.z_isinstance (by decide +kernel) (pa_cons (pv 0) (pa_cons (pe_bltn (v := .ty "list") (by rfl) T.z_list (by decide +kernel) rfl) pa_nil))))) (pw_or1 (pt_not (pt_val (pe_callB (cl_all K rfl) (by rfl) T.z_all (by decide +kernel) (pa_cons (pe_lc (own := [("one", 1)]) (g := gName 1) rfl sc_l_pairs.nd (k_pil K (pv 0)) (blkOk_by (own := [("one", 1)]) (N := ["value", "one"]) (sc := defScope s_l_pairs) (by decide +kernel)) (fun _ _ _ _ _ => (pg_name (i := 1) sc_l_pairs.nd rfl (Or.inl rfl))) (fun _ _ _ _ _ => pts_nil) (fun _ _ _ _ _ => (pe_and (pe_callB (cl_isi K) (by rfl) T.z_isinstance (by decide +kernel) (pa_cons (pv 1) (pa_cons (pe_bltn (v := .ty "tuple") (by rfl) T.z_tuple (by decide +kernel) rfl) pa_nil))) (pe_one (pe_cmpR op_eq (pe_callB (cl_len K) (by rfl) T.z_len PySem.boot_len (pa_cons (pv 1) pa_nil)) pe_int (nomark _)))))) pa_nil)))))))
        (pss_one (ps_ret pe_bl)) pss_nil)
      (pss_one (ps_ret (pe_callB (cl_all K rfl) (by rfl) T.z_all (by decide +kernel) (pa_cons (pe_lc (own := [("one", 1)]) (g := gName 1) rfl sc_l_pairs.nd (k_pil K (pv 0)) (blkOk_by (own := [("one", 1)]) (N := ["value", "one"]) (sc := defScope s_l_pairs) (by decide +kernel)) (fun _ _ _ _ _ => (pg_name (i := 1) sc_l_pairs.nd rfl (Or.inl rfl))) (fun _ _ _ _ _ => pts_nil) (fun _ _ _ _ _ => (pe_and (pe_cal c_l_whole hr (by decide) rfl pass0 (pa_cons (pe_ix (ix_t K) (pv 1) pe_int (fun _ _ => rfl)) pa_nil)) (pe_one (pe_cal c_l_whole hr (by decide) rfl pass0 (pa_cons (pe_ix (ix_t K) (pv 1) pe_int (fun _ _ => rfl)) pa_nil)))))) pa_nil))))), ?_⟩
    walk_at "go"
    intro D hD
    refine x_lwL (xs := vs') (fun i H1 => Same H H1 ∧ H1 D = some (.lst ((List.replicate i true).map V.bl))) ⟨same_new hD, upd_same⟩ (fun i H1 _ h => sq_l (h.1 _ _ ha)) ?_ ?_
    · rintro i y H1 hi ⟨s1, hD1⟩
      obtain ⟨p, hp, t, rfl, ht⟩ := hT.get hi
      have hl := (List.getElem?_eq_some_iff.mp hi).1
      walk_at "go"
      refine ⟨_, hD1, sz_lt (by rw [List.length_map, List.length_replicate]; omega), same_mut s1 hD, ?_⟩
      rw [upd_same]
      exact congrArg (fun l => some (HO.lst l)) (rep_snoc i)
    · rintro H1 ⟨s1, hD1⟩
      walk_at "go"
      refine x_all hD1 (rep_all _) ?_
      walk_at "go"
      intro D2 hD2
      refine x_lwL (xs := vs') (fun i H2 => Same H1 H2 ∧ H2 D2 = some (.lst ((List.replicate i true).map V.bl))) ⟨same_new hD2, upd_same⟩ (fun i H2 _ h => sq_l (h.1 _ _ (s1 _ _ ha))) ?_ ?_
      · rintro i y H2 hi ⟨s2, hD3⟩
        obtain ⟨p, hp, t, rfl, ht⟩ := hT.get hi
        have hl := (List.getElem?_eq_some_iff.mp hi).1
        have ht2 := s2 _ _ (s1 _ _ ht)
        walk_at "go"
        refine x_spInt ?_
        walk_at "go"
        refine x_spInt ?_
        refine ⟨_, hD3, sz_lt (by rw [List.length_map, List.length_replicate]; omega), same_mut s2 hD2, ?_⟩
        rw [upd_same]
        exact congrArg (fun l => some (HO.lst l)) (rep_snoc i)
      · rintro H2 ⟨s2, hD3⟩
        walk_at "go"
        refine x_all hD3 (rep_all _) ?_
        exact q _ (s1.trans s2)
end
/-! ### more steps -/
theorem k_revL {X : Cx} (K : PySem.W.Frag) {e : Expr} {te : TE} {k : Nat} {p1 p2 p3 pos : Pos} (he : PE X e te) (hK : X.K = K := by rfl) : PE X (.Subscript e (.Slice none none (some (.UnaryOp .USub (.Constant (.int 1) k p1) p2)) p3) pos) (tRevL K te) := by subst hK; exact pe_revL he
section
variable {X : Cx} {CX : CXT} {k j : Nat} {C : Addr} {m : Str} {sp : Sp} {E : XK} {o e : Expr} {es : List Expr} {ta : TE} {t : TA} {pos apos : Pos}
theorem pe_mth {x : Str} {pl : Sem Bool} (c : Met X.prog X.w X.K X.mg X.base CX k C m sp) (O : Own X.K X.mg x C) (hr : Room j X.A) (hk : k ≤ j) (hx : Passes CX X E) (he : PE X o ta) (ha : PA X (e :: es) t)
    (hst : starEach (e :: es) X.env = (false, eval e X.env) :: starEach es X.env := by rfl) (hpl : (backTo pos (starEach es X.env)).any (·.1) = false := by rfl)
    (ht : eval (.Call (.Attribute o m apos) (e :: es) [] pos) X.env = (do
      let ov ← eval o X.env
      standAt apos.atName
      let (f, first) ← holding [ov] (getMethod ov m pl)
      callWith pos f first (backTo pos (starEach (e :: es) X.env)) (backToKw pos (keywordEach [] X.env))) := by rfl) :
    PE X (.Call (.Attribute o m apos) (e :: es) [] pos) (tMeth C m sp [] E ta t) := by
  obtain ⟨f, fd, ps, F, m1, m2, m3, b⟩ := c.ex
  exact pe_meth (pl := pl) he O.cl ⟨m1, m2, m3⟩ F (hr.mono hk) b .nil hx ha hst hpl ht
theorem pe_mth0 {x : Str} {pl : Sem Bool} (c : Met X.prog X.w X.K X.mg X.base CX k C m sp) (O : Own X.K X.mg x C) (hr : Room j X.A) (hk : k ≤ j) (hx : Passes CX X E) (he : PE X o ta)
    (ht : eval (.Call (.Attribute o m apos) [] [] pos) X.env = (do
      let ov ← eval o X.env
      standAt apos.atName
      let (f, first) ← holding [ov] (getMethod ov m pl)
      callWith pos f first (backTo pos (starEach [] X.env)) (backToKw pos (keywordEach [] X.env))) := by rfl) :
    PE X (.Call (.Attribute o m apos) [] [] pos) (tMeth C m sp [] E ta tNil) := by
  obtain ⟨f, fd, ps, F, m1, m2, m3, b⟩ := c.ex
  exact pe_meth0 (pl := pl) he O.cl ⟨m1, m2, m3⟩ F (hr.mono hk) b .nil hx ht
end
section
variable {H : Hp} {σ : St} {Q : VK} {l b : Addr} {xs zs : List V}
theorem x_clear (s : H l = some (.lst xs)) (h : Q .non (upd H l (.lst []))) : rClear (.ref l) [] H Q := ⟨l, xs, rfl, rfl, s, h⟩
theorem x_cat (s : H l = some (.lst xs)) (s2 : H b = some (.lst zs)) (z : xs.length + zs.length ≤ 100000) (h : ∀ p, H p = none → Q (.ref p) (upd H p (.lst (xs ++ zs)))) : rCat (.ref l) (.ref b) H Q :=
  ⟨l, b, xs, zs, rfl, rfl, s, s2, Nat.le_trans z (by decide), h⟩
theorem x_revT {K : PySem.W.Frag} {te : TE} (h : te σ H fun x H1 => ∃ a xs, x = .ref a ∧ SqL K H1 a xs ∧ ∀ p, H1 p = none → Q (.ref p) (upd H1 p (.lst xs.reverse))) : tRevL K te σ H Q := h
end
section
variable {σ : St} {H : Hp} {Q : VK}
theorem x_chain {r r' : R2} {ta tb tc : TE} (h : ta σ H fun x H1 => tb σ H1 fun y H2 => r x y H2 fun z H3 => ∃ k, z = .bl k ∧ (if k = true then tc σ H3 fun w' H4 => r' y w' H4 Q else Q (.bl false) H3)) : tChain r r' ta tb tc σ H Q := h
theorem x_sl {r : V → Option Int → Option Int → Hp → VK → Prop} {te : TE} {tl th : TO} (h : te σ H fun x H1 => tl σ H1 fun l H2 => th σ H2 fun u H3 => r x l u H3 Q) : tSl r te tl th σ H Q := h
theorem x_part {t : TE} {R : Option Int → Hp → Prop} (h : t σ H fun x H1 => ∃ i, x = .int i ∧ R (some i) H1) : tPart t σ H R := h
end
section
variable {K : PySem.W.Frag} {σ : St} {H : Hp} {Q : VK}
theorem x_noPart {R : Option Int → Hp → Prop} (h : R none H) : tNoPart σ H R := h
/-- the first k items -/
theorem x_slTake {a : Addr} {xs : List V} {k : Nat} (s : H a = some (.lst xs)) (hk : k ≤ xs.length) (h : ∀ p, H p = none → Q (.ref p) (upd H p (.lst (xs.take k)))) : rSlL K (.ref a) none (some (k : Int)) H Q := by
  refine ⟨a, xs, rfl, sq_l s, fun p hp => ?_⟩
  have e : cutV xs none (some (k : Int)) = xs.take k := by
    have h0 : HT.sIx xs.length 0 none = 0 := rfl
    unfold cutV
    rw [h0, HT.sIx_nat, List.drop_zero, Nat.min_eq_left hk, Nat.sub_zero]
  rw [e]
  exact h p hp
theorem x_slN {a : Addr} {l : List Nat} {k : Nat} (s : H a = some (.lst (nv l))) (hk : k ≤ l.length) (h : ∀ p, H p = none → Q (.ref p) (upd H p (.lst (nv (l.take k))))) : rSlL K (.ref a) none (some (k : Int)) H Q := by
  refine x_slTake s (by rw [nv_len]; exact hk) fun p hp => ?_
  have e : (nv l).take k = nv (l.take k) := by
    unfold nv
    rw [List.map_take]
  rw [e]
  exact h p hp
end
/-! ### lists of lists of places -/
def RowV (H : Hp) (v : V) (r : List Nat) : Prop := ∃ a, v = .ref a ∧ H a = some (.lst (nv r))
abbrev RowL (H : Hp) (vs : List V) (rss : List (List Nat)) : Prop := A2 (RowV H) vs rss
theorem RowV.same {H H' : Hp} {v : V} {r : List Nat} (k : Same H H') (h : RowV H v r) : RowV H' v r := by
  obtain ⟨a, e, h⟩ := h
  exact ⟨a, e, k _ _ h⟩
theorem RowL.same {H H' : Hp} {vs : List V} {rss : List (List Nat)} (k : Same H H') (h : RowL H vs rss) : RowL H' vs rss := h.imp fun _ _ => RowV.same k
/-- rows that are new behind H, each one of its own, in a list at D -/
structure LL (H H1 : Hp) (D : Addr) (rows : List Addr) (rss : List (List Nat)) : Prop where
  sm : Same H H1
  nD : H D = none
  hD : H1 D = some (.lst (rows.map V.ref))
  nd : rows.Nodup
  out : D ∉ rows
  len : rows.length = rss.length
  rw : ∀ (i : Nat) (a : Addr) (r : List Nat), rows[i]? = some a → rss[i]? = some r → H a = none ∧ H1 a = some (.lst (nv r))
section
variable {H H1 H2 : Hp} {D p a : Addr} {rows : List Addr} {rss : List (List Nat)} {l r : List Nat} {i : Nat}
theorem LL.nil (hD : H D = none) : LL H (upd H D (.lst [])) D [] [] := ⟨same_new hD, hD, upd_same, List.nodup_nil, by simp, rfl, fun i a r e => by simp at e⟩
theorem LL.same (b : LL H H1 D rows rss) (s : Same H1 H2) : LL H H2 D rows rss := ⟨b.sm.trans s, b.nD, s _ _ b.hD, b.nd, b.out, b.len, fun i a r h1 h2 => ⟨(b.rw i a r h1 h2).1, s _ _ (b.rw i a r h1 h2).2⟩⟩
theorem LL.get (b : LL H H1 D rows rss) (h : rows[i]? = some a) : ∃ r, rss[i]? = some r ∧ H a = none ∧ H1 a = some (.lst (nv r)) := by
  have hi : i < rss.length := by rw [← b.len]; exact (List.getElem?_eq_some_iff.mp h).1
  exact ⟨_, List.getElem?_eq_getElem hi, b.rw i a _ h (List.getElem?_eq_getElem hi)⟩
theorem LL.mem (b : LL H H1 D rows rss) (h : a ∈ rows) : H a = none ∧ ∃ r, H1 a = some (.lst (nv r)) := by
  obtain ⟨i, e⟩ := List.mem_iff_getElem?.mp h
  obtain ⟨r, _, q1, q2⟩ := b.get e
  exact ⟨q1, r, q2⟩
/-- a new row, put at the end -/
theorem LL.push (b : LL H H1 D rows rss) (h0 : H p = none) (hp : p ≠ D) (np : p ∉ rows) (h1 : H1 p = some (.lst (nv l))) : LL H (upd H1 D (.lst (rows.map V.ref ++ [V.ref p]))) D (rows ++ [p]) (rss ++ [l]) := by
  refine ⟨same_mut b.sm b.nD, b.nD, ?_, ?_, ?_, by rw [List.length_append, List.length_append, b.len]; rfl, fun i a r e e2 => ?_⟩
  · rw [upd_same, List.map_append]
    rfl
  · exact List.nodup_append.mpr ⟨b.nd, by simp, fun x hx y hy => by rw [List.mem_singleton.mp hy]; exact fun z => np (z ▸ hx)⟩
  · intro h
    rcases List.mem_append.mp h with h | h
    · exact b.out h
    · exact hp (List.mem_singleton.mp h).symm
  · by_cases hi : i < rows.length
    · rw [List.getElem?_append_left hi] at e
      rw [List.getElem?_append_left (by rw [← b.len]; exact hi)] at e2
      have q := b.rw i a r e e2
      have nDa : a ≠ D := fun z => b.out (z ▸ List.mem_of_getElem? e)
      exact ⟨q.1, upd_at nDa q.2⟩
    · rw [List.getElem?_append_right (by omega)] at e
      rw [List.getElem?_append_right (by rw [← b.len]; omega), ← b.len] at e2
      have h0' : i - rows.length = 0 := by
        by_cases z : i - rows.length = 0
        · exact z
        · rw [List.getElem?_eq_none (by simp only [List.length_cons, List.length_nil]; omega)] at e
          cases e
      rw [h0'] at e e2
      cases e
      cases e2
      exact ⟨h0, upd_at hp h1⟩
/-- a row that is made at once -/
theorem LL.new (b : LL H H1 D rows rss) (hp : H1 p = none) : LL H (upd (upd H1 p (.lst (nv l))) D (.lst (rows.map V.ref ++ [V.ref p]))) D (rows ++ [p]) (rss ++ [l]) := by
  have nDp : D ≠ p := ne_of_none b.hD hp
  refine (b.same (same_new hp)).push (b.sm.free hp) nDp.symm (fun h => ?_) upd_same
  obtain ⟨_, r, e⟩ := b.mem h
  rw [hp] at e
  cases e
/-- a row is changed -/
theorem LL.set (b : LL H H1 D rows rss) (e : rows[i]? = some a) : LL H (upd H1 a (.lst (nv l))) D rows (rss.set i l) := by
  obtain ⟨r, er, q1, q2⟩ := b.get e
  have nDa : D ≠ a := fun z => b.out (z ▸ List.mem_of_getElem? e)
  refine ⟨same_mut b.sm q1, b.nD, upd_at nDa b.hD, b.nd, b.out, by rw [List.length_set, b.len], fun j c r' hc hr => ?_⟩
  by_cases hj : j = i
  · subst hj
    rw [e] at hc
    cases hc
    rw [List.getElem?_set_self (by rw [← b.len]; exact (List.getElem?_eq_some_iff.mp e).1)] at hr
    cases hr
    exact ⟨q1, upd_same⟩
  · rw [List.getElem?_set_ne (fun z => hj z.symm)] at hr
    have q' := b.rw j c r' hc hr
    have nca : c ≠ a := fun z => by
      subst z
      exact hj (nd_ix b.nd hc e)
    exact ⟨q'.1, upd_at nca q'.2⟩
theorem LL.mut (b : LL H H1 D rows rss) {o : HO} (hp : H1 p = some o) (h : p ≠ D) (np : p ∉ rows) {x : HO} (h0 : H p = none) : LL H (upd H1 p x) D rows rss :=
  ⟨same_mut b.sm h0, b.nD, upd_at h.symm b.hD, b.nd, b.out, b.len, fun i a r h1 h2 => ⟨(b.rw i a r h1 h2).1, upd_at (fun z => np (z ▸ List.mem_of_getElem? h1)) (b.rw i a r h1 h2).2⟩⟩
theorem a2_of_get {α β : Type} {R : α → β → Prop} : ∀ {as : List α} {bs : List β}, as.length = bs.length → (∀ (i : Nat) (a : α) (b : β), as[i]? = some a → bs[i]? = some b → R a b) → A2 R as bs
  | [], [], _, _ => .nil
  | [], _ :: _, h, _ => by simp at h
  | _ :: _, [], h, _ => by simp at h
  | a :: as, b :: bs, h, f => .cons (f 0 a b rfl rfl) (a2_of_get (by simpa using h) fun i x y h1 h2 => f (i + 1) x y (by simpa using h1) (by simpa using h2))
theorem LL.rowL (b : LL H H1 D rows rss) : RowL H1 (rows.map V.ref) rss := a2_of_get (by rw [List.length_map, b.len]) fun i v r h1 h2 => by
  obtain ⟨a, rfl, ha⟩ := of_refs h1
  exact ⟨a, rfl, (b.rw i a r ha h2).2⟩
end
/-! ### as data -/
def dN (l : List Nat) : PyData := .list (l.map fun (v : Nat) => .int (v : Int))
section
variable {K : PySem.W.Frag} {H : Hp} {Q : VK}
theorem dp_all (l : List Nat) : DpAll K H (nv l) (l.map fun (v : Nat) => .int (v : Int)) := by
  induction l with
  | nil => exact .nil
  | cons x r ih => exact .cons (.int _) ih
theorem dp_nv {a : Addr} {l : List Nat} (h : H a = some (.lst (nv l))) : Dp K H (.ref a) (dN l) := .lst (sq_l h) (dp_all l)
theorem dp_rows {vs : List V} {rss : List (List Nat)} (h : RowL H vs rss) : DpAll K H vs (rss.map dN) := by
  induction h with
  | nil => exact .nil
  | cons r _ ih =>
    obtain ⟨a, rfl, h⟩ := r
    exact .cons (dp_nv h) ih
theorem dp_ll {a : Addr} {vs : List V} {rss : List (List Nat)} (ha : H a = some (.lst vs)) (h : RowL H vs rss) : Dp K H (.ref a) (.list (rss.map dN)) := .lst (sq_l ha) (dp_rows h)
end
theorem eqv_ints : ∀ l m : List Nat, PyData.eqvAll (l.map fun (v : Nat) => .int (v : Int)) (m.map fun (v : Nat) => .int (v : Int)) = decide (l = m)
  | [], [] => rfl
  | [], _ :: _ => rfl
  | _ :: _, [] => rfl
  | x :: l, y :: m => by
    show (PyData.eqv (.int (x : Int)) (.int (y : Int)) && PyData.eqvAll (l.map fun (v : Nat) => .int (v : Int)) (m.map fun (v : Nat) => .int (v : Int))) = _
    rw [eqv_ints l m]
    simp only [PyData.eqv]
    rw [Bool.eq_iff_iff, Bool.and_eq_true, beq_iff_eq, decide_eq_true_eq, decide_eq_true_eq, List.cons.injEq]
    exact ⟨fun ⟨h1, h2⟩ => ⟨by omega, h2⟩, fun ⟨h1, h2⟩ => ⟨by omega, h2⟩⟩
theorem eqv_dN (l m : List Nat) : PyData.eqv (dN l) (dN m) = decide (l = m) := by
  unfold dN
  simp only [PyData.eqv]
  exact eqv_ints l m
theorem eqv_dNs : ∀ l m : List (List Nat), PyData.eqvAll (l.map dN) (m.map dN) = decide (l = m)
  | [], [] => rfl
  | [], _ :: _ => rfl
  | _ :: _, [] => rfl
  | x :: l, y :: m => by
    show (PyData.eqv (dN x) (dN y) && PyData.eqvAll (l.map dN) (m.map dN)) = _
    rw [eqv_dNs l m, eqv_dN, Bool.eq_iff_iff, Bool.and_eq_true, decide_eq_true_eq, decide_eq_true_eq, decide_eq_true_eq, List.cons.injEq]
theorem lay_ints : ∀ l : List Nat, PyData.canLayAll0 (l.map fun (v : Nat) => .int (v : Int)) = true
  | [] => rfl
  | x :: l => by
    show (PyData.canLay0 (.int (x : Int)) && PyData.canLayAll0 (l.map fun (v : Nat) => .int (v : Int))) = true
    rw [lay_ints l]
    rfl
theorem dep_ints : ∀ l : List Nat, PyData.depthAll (l.map fun (v : Nat) => .int (v : Int)) = 0
  | [] => rfl
  | x :: l => by
    show max (PyData.depth (.int (x : Int))) (PyData.depthAll (l.map fun (v : Nat) => .int (v : Int))) = 0
    rw [dep_ints l]
    rfl
theorem dep_dN (l : List Nat) : PyData.depth (dN l) = 1 := by
  show PyData.depthAll (l.map fun (v : Nat) => .int (v : Int)) + 1 = 1
  rw [dep_ints]
theorem shaped_dN (l : List Nat) : SeqAt.shaped (dN l) = true := by
  unfold SeqAt.shaped
  rw [Bool.and_eq_true, decide_eq_true_eq, dep_dN]
  exact ⟨lay_ints l, by decide⟩
theorem lay_dNs : ∀ l : List (List Nat), PyData.canLayAll0 (l.map dN) = true
  | [] => rfl
  | x :: l => by
    show (PyData.canLay0 (dN x) && PyData.canLayAll0 (l.map dN)) = true
    rw [lay_dNs l, show PyData.canLay0 (dN x) = true from lay_ints x]
    rfl
theorem dep_dNs : ∀ l : List (List Nat), PyData.depthAll (l.map dN) ≤ 1
  | [] => by simp [PyData.depthAll]
  | x :: l => by
    have ih := dep_dNs l
    have e := dep_dN x
    show max (PyData.depth (dN x)) (PyData.depthAll (l.map dN)) ≤ 1
    omega
theorem shaped_dNs (l : List (List Nat)) : SeqAt.shaped (.list (l.map dN)) = true := by
  unfold SeqAt.shaped
  rw [Bool.and_eq_true, decide_eq_true_eq]
  refine ⟨lay_dNs l, ?_⟩
  have := dep_dNs l
  show PyData.depthAll (l.map dN) + 1 ≤ 64
  omega
section
variable {K : PySem.W.Frag} {H : Hp} {Q : VK} {a b : Addr}
theorem x_eqN {l m : List Nat} (ha : H a = some (.lst (nv l))) (hb : H b = some (.lst (nv m))) (k : Q (.bl (decide (l = m))) H) : rEqD K (.ref a) (.ref b) H Q := by
  refine ⟨_, _, dp_nv ha, dp_nv hb, shaped_dN l, shaped_dN m, ?_⟩
  rw [eqv_dN]
  exact k
theorem x_neN {l m : List Nat} (ha : H a = some (.lst (nv l))) (hb : H b = some (.lst (nv m))) (k : Q (.bl (!decide (l = m))) H) : rNeD K (.ref a) (.ref b) H Q := by
  refine ⟨_, _, dp_nv ha, dp_nv hb, shaped_dN l, shaped_dN m, ?_⟩
  rw [eqv_dN]
  exact k
theorem x_eqLL {vs ws : List V} {l m : List (List Nat)} (ha : H a = some (.lst vs)) (h : RowL H vs l) (hb : H b = some (.lst ws)) (h' : RowL H ws m) (k : Q (.bl (decide (l = m))) H) : rEqD K (.ref a) (.ref b) H Q := by
  refine ⟨_, _, dp_ll ha h, dp_ll hb h', shaped_dNs l, shaped_dNs m, ?_⟩
  show Q (.bl (PyData.eqv (.list (l.map dN)) (.list (m.map dN)))) H
  simp only [PyData.eqv]
  rw [eqv_dNs]
  exact k
theorem x_neLL {vs ws : List V} {l m : List (List Nat)} (ha : H a = some (.lst vs)) (h : RowL H vs l) (hb : H b = some (.lst ws)) (h' : RowL H ws m) (k : Q (.bl (!decide (l = m))) H) : rNeD K (.ref a) (.ref b) H Q := by
  refine ⟨_, _, dp_ll ha h, dp_ll hb h', shaped_dNs l, shaped_dNs m, ?_⟩
  show Q (.bl (!PyData.eqv (.list (l.map dN)) (.list (m.map dN)))) H
  simp only [PyData.eqv]
  rw [eqv_dNs]
  exact k
theorem x_sortedN {p : Addr} {l : List Nat} (h : H p = some (.lst (nv l))) (nd : l.Nodup) (k : ∀ (m : List Nat) (q : Addr), m.Perm l → m.Pairwise (· < ·) → H q = none → Q (.ref q) (upd H q (.lst (nv m)))) : rSortedI K [.ref p] H Q := by
  rw [nv_ints] at h
  refine x_sortedI h fun ns q pm srt hq => ?_
  obtain ⟨m, pm2, e⟩ := perm_nv (vs := ns.map V.int) (l := l) (by rw [nv_ints]; exact pm.map _)
  rw [e]
  refine k m q pm2 ?_ hq
  have nd2 : m.Nodup := pm2.nodup_iff.mpr nd
  have e2 : ns = m.map fun (v : Nat) => (v : Int) := by
    rw [nv_ints] at e
    exact (List.map_inj_right (fun a b h => V.int.inj h)).mp e
  rw [e2] at srt
  refine ((List.pairwise_map.mp srt).and nd2).imp fun h => ?_
  omega
end
/-! ### own errors -/
/-- what the top has written of the error class x at C -/
structure Exq (K : PySem.W.Frag) (mg : Str → Option Value) (x : Str) (C : Addr) : Prop where
  gC : mg x = some (.ref C)
  xc : PySem.W.excIn K C [.type "ValueError", .type "Exception", .type "BaseException", .type "object"] "ValueError.__new__" = true
  kp : PySem.W.keepIn K (.ref C) = true
  sb : PySem.W.subIn K (.ref C) (.type "BaseException") = some true
  ty : PySem.W.typeIn K (.ref C) = some (.type "type")
  is : PySem.W.isClsIn K C = true
  sf : PySem.W.subIn K (.ref C) (.ref C) = some true
/-- an error of the class at D met by the class at C -/
theorem exm_sub {K : PySem.W.Frag} {mg : Str → Option Value} {x : Str} {C : Addr} {D : Value} {b : Bool} (X : Exq K mg x C) (h : PySem.W.subIn K D (.ref C) = some b) : PySem.W.exmOne K D (.ref C) = some b := by
  have e1 : (PySem.W.subIn K (.ref C) (.type "BaseException") == some true) = true := by rw [X.sb] <;> rfl
  have e2 : ((PySem.W.clsIn K C).isSome && PySem.W.typeIn K (.ref C) == some (.type "type")) = true := by
    have h2' : (PySem.W.clsIn K C).isSome = true := X.is
    rw [h2', X.ty] <;> rfl
  show (if (PySem.W.subIn K (.ref C) (.type "BaseException") == some true) = true then (if ((PySem.W.clsIn K C).isSome && PySem.W.typeIn K (.ref C) == some (.type "type")) = true then PySem.W.subIn K D (.ref C) else none) else none) = some b
  rw [if_pos e1, if_pos e2]
  exact h
theorem passN {X : Cx} : Passes (L2.CX X.prog X.w) X (fun _ _ _ => False) := passes_call takes0 (fun _ _ _ _ h => h)
section
variable {P : Program} {w : World} {K : PySem.W.Frag} {mg : Str → Option Value} {base : Heap}
abbrev BdyX (P : Program) (w : World) (K : PySem.W.Frag) (mg : Str → Option Value) (base : Heap) (N : List Str) (qual : Str) (st : Stmt) (k : Nat) (sp : Sp) : Prop :=
  ∀ (f : Addr) (cdv : Value) (A : Around) (outer : List Env) (s : Shared) (H : Hp) (vs : List V) (Q : VK) (E : XK), Room k (A.deeper (envOfC qual (defScope st) s.heap.objs.size f cdv)) → sp vs H Q E →
      ∃ t, PSs (cxOf (L2.CX P w) P w K mg base N qual (defScope st) f cdv A outer s H E) (defBody st) t ∧ t { nx := fun _ H' => Q .non H', rt := Q } (start N vs) H
/-- the promise of a def that may let an error out -/
theorem DefAt.calX {x : Str} {st : Stmt} {N ps : List Str} {k : Nat} {sp : Sp} (F : DefAt K mg x st ps) (S : FnScope N ps (defScope st)) (len : ∀ vs H Q E, sp vs H Q E → vs.length = ps.length)
    (hbody : BdyX P w K mg base N x st k sp) : Cal P w K mg base (L2.CX P w) (k + 1) x sp := by
  obtain ⟨f, fd, F, m, b⟩ := F.ex
  exact ⟨f, fd, ps, F.okX S len (fun cdv A outer s H vs Q E hr h => hbody f cdv A outer s H vs Q E hr h), m, F.kp, b⟩
theorem MetAt.metX {C : Addr} {m qual : Str} {st : Stmt} {N ps : List Str} {k : Nat} {sp : Sp} (F : MetAt K C m qual st ps) (S : FnScope N ps (defScope st)) (len : ∀ vs H Q E, sp vs H Q E → vs.length = ps.length)
    (hbody : BdyX P w K mg base N qual st k sp) : Met P w K mg base (L2.CX P w) (k + 1) C m sp := by
  obtain ⟨f, fd, F, m1, m2, b⟩ := F.ex
  exact ⟨f, fd, ps, F.okX S len (fun cdv A outer s H vs Q E hr h => hbody f cdv A outer s H vs Q E hr h), m1, m2, F.kp, b⟩
end
section
variable {X : Cx} {k j : Nat} {x : Str} {sp : Sp} {E : St → XK} {e : Expr} {es : List Expr} {t : TA} {p pos : Pos}
theorem pe_calS {CX : CXT} (c : Cal X.prog X.w X.K X.mg X.base CX k x sp) (hr : Room j X.A) (hk : k ≤ j) (hg : Gl X x) (hx : ∀ σ, PassesAt CX X σ (E σ)) (ha : PA X (e :: es) t)
    (hdb : (x == ("__debug__" : Str)) = false := by decide) (he : starEach (e :: es) X.env = (false, eval e X.env) :: starEach es X.env := by rfl) (hpl : (backTo pos (starEach es X.env)).any (·.1) = false := by rfl) :
    PE X (.Call (.Name x p) (e :: es) [] pos) (tCallS sp E t) := by
  obtain ⟨f, fd, ps, F, hm, kp, b⟩ := c.ex
  exact pe_callS F (hr.mono hk) hg hm kp b hx ha hdb he hpl
end
section
variable {K : PySem.W.Frag} {σ : St} {H : Hp} {Q : VK} {ta : TA}
theorem x_callS {sp : Sp} {E : St → XK} (h : ta σ H fun vs H1 => sp vs H1 Q (E σ)) : tCallS sp E ta σ H Q := h
end
/-! ### zip of two lists -/
theorem k_zip {X : Cx} (K : PySem.W.Frag) {e e2 : Expr} {ta : TA} {p pos tpos : Pos} {elts : List Expr} {kk : Nat} (hg : Gl X "zip") (hm : X.mg "zip" = none) (ha : PA X [e, e2] ta) (hK : X.K = K := by rfl)
    (hs : starEach [e, e2] X.env = (false, eval e X.env) :: starEach [e2] X.env := by rfl) (hpl : (backTo pos (starEach [e2] X.env)).any (·.1) = false := by rfl) :
    PI X (.Tuple elts kk tpos) (.Call (.Name "zip" p) [e, e2] [] pos) (iZip K ta) := by
  subst hK
  exact pi_zip hg hm ha hs hpl
def Zz (K : PySem.W.Frag) (vs : List V) (H : Hp) (R : It → Hp → Prop) : Prop := ∃ a b xs ys, vs = [.ref a, .ref b] ∧ SqL K H a xs ∧ SqL K H b ys ∧ R (Itz K a b) H
section
variable {K : PySem.W.Frag} {σ : St} {H : Hp} {Q : VK} {ta : TA} {te : TE} {tt : TT} {g : TG} {tb : TS} {vs : List Nat} {R : It → Hp → Prop} {a b : Addr} {xs ys : List V}
theorem x_zip (h : ta σ H fun vs H1 => Zz K vs H1 R) : iZip K ta σ H R := h
theorem x_zz (s1 : H a = some (.lst xs)) (s2 : H b = some (.lst ys)) (h : R (Itz K a b) H) : Zz K [.ref a, .ref b] H R := ⟨a, b, xs, ys, rfl, sq_l s1, sq_l s2, h⟩
theorem itz_at {T : Addr} {x' y' : V} {i : Nat} (qx : SqL K H a xs) (qy : SqL K H b ys) (hi : i < min xs.length ys.length) (f1 : ∀ xs, SqL K H a xs → xs[i]? = some x') (f2 : ∀ ys, SqL K H b ys → ys[i]? = some y') : xs[i]? = some x' ∧ ys[i]? = some y' := ⟨f1 xs qx, f2 ys qy⟩
theorem x_fwZ {nx : St → Hp → Prop} {rt : VK} {bk ct : St → Hp → Prop} (Pv : Nat → St → Hp → Prop) (h0 : Pv 0 σ H) (hl : ∀ i σ H, Pv i σ H → SqL K H a xs ∧ SqL K H b ys)
    (hs : ∀ i x y T σ H, xs[i]? = some x → ys[i]? = some y → Pv i σ H → H T = none → g (.ref T) σ (upd H T (.tup [x, y])) fun σ2 H2 => tb ⟨Pv (i + 1), rt, nx, Pv (i + 1)⟩ σ2 H2) (hd : ∀ σ H, Pv (min xs.length ys.length) σ H → nx σ H) : FW (Itz K a b) g tb ⟨nx, rt, bk, ct⟩ σ H := by
  refine ⟨fun i m σ H => m = min xs.length ys.length - i ∧ i ≤ min xs.length ys.length ∧ Pv i σ H, ⟨_, rfl, Nat.zero_le _, h0⟩, ?_⟩
  rintro i m σ H ⟨rfl, hi, p⟩
  obtain ⟨qx, qy⟩ := hl i σ H p
  by_cases hlt : i < min xs.length ys.length
  · have hx : xs[i]? = some (xs[i]'(by omega)) := List.getElem?_eq_getElem (by omega)
    have hy : ys[i]? = some (ys[i]'(by omega)) := List.getElem?_eq_getElem (by omega)
    refine .inr ⟨⟨xs, ys, _, _, qx, qy, hx, hy⟩, Pv (i + 1), fun σ' H' p' => ⟨min xs.length ys.length - (i + 1), by omega, rfl, hlt, p'⟩, fun v H' y => ?_⟩
    obtain ⟨T, x', y', rfl, hT, rfl, f1, f2⟩ := y
    exact hs i x' y' T σ H (f1 xs qx) (f2 ys qy) p hT
  · have e : i = min xs.length ys.length := by omega
    rw [e] at p
    exact .inl ⟨⟨xs, ys, qx, qy, by omega⟩, hd σ H p⟩
theorem x_lwZ {D : Addr} (Pv : Nat → Hp → Prop) (h0 : Pv 0 (upd H D (.lst []))) (hl : ∀ i H, Pv i H → SqL K H a xs ∧ SqL K H b ys)
    (hs : ∀ i x y T H, xs[i]? = some x → ys[i]? = some y → Pv i H → H T = none → g (.ref T) (wipe σ vs) (upd H T (.tup [x, y])) fun σ2 H2 => wipe σ2 vs = wipe σ vs ∧ tt σ2 H2 fun b H3 =>
      if b = true then te σ2 H3 fun y H4 => ∃ acc, H4 D = some (.lst acc) ∧ acc.length < sizeLine ∧ Pv (i + 1) (upd H4 D (.lst (acc ++ [y]))) else Pv (i + 1) H3) (hd : ∀ H, Pv (min xs.length ys.length) H → Q (.ref D) H) : LW (Itz K a b) D g tt te vs σ H Q := by
  refine ⟨fun i m H => m = min xs.length ys.length - i ∧ i ≤ min xs.length ys.length ∧ Pv i H, ⟨_, rfl, Nat.zero_le _, h0⟩, ?_⟩
  rintro i m H ⟨rfl, hi, p⟩
  obtain ⟨qx, qy⟩ := hl i H p
  by_cases hlt : i < min xs.length ys.length
  · have hx : xs[i]? = some (xs[i]'(by omega)) := List.getElem?_eq_getElem (by omega)
    have hy : ys[i]? = some (ys[i]'(by omega)) := List.getElem?_eq_getElem (by omega)
    refine .inr ⟨⟨xs, ys, _, _, qx, qy, hx, hy⟩, Pv (i + 1), fun H' p' => ⟨min xs.length ys.length - (i + 1), by omega, rfl, hlt, p'⟩, fun v H' y => ?_⟩
    obtain ⟨T, x', y', rfl, hT, rfl, f1, f2⟩ := y
    exact hs i x' y' T H (f1 xs qx) (f2 ys qy) p hT
  · have e : i = min xs.length ys.length := by omega
    rw [e] at p
    exact .inl ⟨⟨xs, ys, qx, qy, by omega⟩, hd H p⟩
end
/-! ### hues, lists of hues -/
abbrev Asc (l : List Nat) : Prop := l.Pairwise (· < ·)
def spHue (K : PySem.W.Frag) : Sp := fun vs H Q _ => ∃ v, vs = [v] ∧ ((∃ i : Int, v = .int i ∧ Q (.bl (decide (0 ≤ i))) H) ∨ (∃ Ty, Knd K H v Ty ∧ Ty ≠ "int" ∧ Q (.bl false) H))
abbrev s_is_hue : Stmt := topS 11
theorem sc_is_hue : FnScope ["value"] ["value"] (defScope s_is_hue) := ⟨rfl, rfl, rfl, by decide +kernel, rfl, by decide +kernel, by decide +kernel⟩
def spHues : Sp := fun vs H Q _ => ∃ (a : Addr) (l : List Nat), vs = [.ref a] ∧ H a = some (.lst (nv l)) ∧ Asc l ∧ l.length ≤ 50000 ∧ ∀ H', Same H H' → Q (.bl true) H'
abbrev s_is_hues : Stmt := topS 12
theorem sc_is_hues : FnScope ["value", "one", "other", "hue"] ["value"] (defScope s_is_hues) := ⟨rfl, rfl, rfl, by decide +kernel, rfl, by decide +kernel, by decide +kernel⟩
theorem rep_snoc3 (i : Nat) : (List.replicate i true).map V.bl ++ [V.bl true] = (List.replicate (i + 1) true).map V.bl := by
  rw [List.replicate_succ', List.map_append]
  rfl
theorem rep_all3 (i : Nat) : (List.replicate i true).all id = true := by
  rw [List.all_eq_true]
  intro x hx
  exact (List.mem_replicate.mp hx).2
theorem x_slFrom {K : PySem.W.Frag} {H : Hp} {Q : VK} {a : Addr} {xs : List V} {k : Nat} (s : H a = some (.lst xs)) (h : ∀ p, H p = none → Q (.ref p) (upd H p (.lst (xs.drop k)))) : rSlL K (.ref a) (some (k : Int)) none H Q := by
  refine ⟨a, xs, rfl, sq_l s, fun p hp => ?_⟩
  have e : cutV xs (some (k : Int)) none = xs.drop k := by
    have h0 : HT.sIx xs.length xs.length none = xs.length := rfl
    unfold cutV
    rw [h0, HT.sIx_nat]
    by_cases c : k ≤ xs.length
    · rw [Nat.min_eq_left c, List.take_of_length_le (by rw [List.length_drop]; omega)]
    · rw [Nat.min_eq_right (by omega), List.drop_of_length_le (Nat.le_refl _), List.drop_of_length_le (by omega), List.take_nil]
  rw [e]
  exact h p hp
theorem nv_drop (l : List Nat) (k : Nat) : (nv l).drop k = nv (l.drop k) := by
  unfold nv
  rw [List.map_drop]
theorem nv_take (l : List Nat) (k : Nat) : (nv l).take k = nv (l.take k) := by
  unfold nv
  rw [List.map_take]
theorem asc_next {l : List Nat} (h : Asc l) {i a b : Nat} (h1 : l[i]? = some a) (h2 : (l.drop 1)[i]? = some b) : a < b := by
  rw [List.getElem?_drop] at h2
  obtain ⟨l1, rfl⟩ := List.getElem?_eq_some_iff.mp h1
  obtain ⟨l2, rfl⟩ := List.getElem?_eq_some_iff.mp h2
  exact List.pairwise_iff_getElem.mp h i (1 + i) l1 l2 (by omega)
section
variable {P : Program} {w : World} {K : PySem.W.Frag} {mg : Str → Option Value} {base : Heap}
theorem c_is_hue (T : Tx mg) (F : DefAt K mg "is_hue" s_is_hue ["value"]) (c_is_integer : Cal P w K mg base CX0 1 "is_integer" (spIsInt K)) : Cal P w K mg base CX0 2 "is_hue" (spHue K) := by
  refine F.cal sc_is_hue (fun vs H Q E h => ?_) (fun f cdv A outer s H vs Q E hr h => ?_)
  · obtain ⟨v, rfl, _⟩ := h
    rfl
  · obtain ⟨v, rfl, q⟩ := h
    refine ⟨_, (pss_one (ps_ret (pe_and (pe_cal c_is_integer hr (by decide) rfl pass0 (pa_cons (pv 0) pa_nil)) (pe_one (pe_cmpR op_ge (pv 0) pe_int (nomark _)))))), ?_⟩
    walk_at "go"
    rcases q with ⟨i, rfl, q⟩ | ⟨Ty, kn, ne, q⟩
    · refine ⟨.int i, "int", rfl, knd_int i, ?_⟩
      walk_at "go"
      rw [if_pos (by decide)]
      walk_at "go"
      exact q
    · refine ⟨v, Ty, rfl, kn, ?_⟩
      rw [show (Ty == "int") = false from by simpa using ne]
      walk_at "go"
      exact q
theorem c_is_hues (T : Tx mg) (F : DefAt K mg "is_hues" s_is_hues ["value"]) (c_is_hue : Cal P w K mg base CX0 2 "is_hue" (spHue K)) : Cal P w K mg base CX0 3 "is_hues" spHues := by
  refine F.cal sc_is_hues (fun vs H Q E h => ?_) (fun f cdv A outer s H vs Q E hr h => ?_)
  · obtain ⟨a, l, rfl, _⟩ := h
    rfl
  · obtain ⟨a, l, rfl, ha, asc, hz, q⟩ := h
    refine ⟨_, (pss_cons (ps_if (PW.pt (pw_or (pt_not (pt_val (pe_callB (cl_isi K) (by rfl) T.z_isinstance (by decide +kernel) (pa_cons (pv 0) (pa_cons (pe_bltn (v := .ty "list") (by rfl) T.z_list (by decide +kernel) rfl) pa_nil))))) (pw_or1 (pt_not (pt_val (pe_callB (cl_all K rfl) (by rfl) T.z_all (by decide +kernel) (pa_cons (pe_lc (own := [("hue", 3)]) (g := gName 3) rfl sc_is_hues.nd (k_pil K (pv 0)) (blkOk_by (own := [("hue", 3)]) (N := ["value", "one", "other", "hue"]) (sc := defScope s_is_hues) (by decide +kernel)) (fun _ _ _ _ _ => (pg_name (i := 3) sc_is_hues.nd rfl (Or.inl rfl))) (fun _ _ _ _ _ => pts_nil) (fun _ _ _ _ _ => (pe_cal c_is_hue hr (by decide) rfl pass0 (pa_cons (pv 3) pa_nil)))) pa_nil)))))))
        (pss_one (ps_ret pe_bl)) pss_nil)
      (pss_one (ps_ret (pe_callB (cl_all K rfl) (by rfl) T.z_all (by decide +kernel) (pa_cons (pe_lc (own := [("one", 1), ("other", 2)]) rfl sc_is_hues.nd (k_zip K (by rfl) T.z_zip (pa_cons (pv 0) (pa_cons (pe_slice (k_sll K) (pv 0) (po_some pe_int) po_none) pa_nil))) (blkOk_by (own := [("one", 1), ("other", 2)]) (N := ["value", "one", "other", "hue"]) (sc := defScope s_is_hues) (by decide +kernel)) (fun _ _ _ _ _ => (k_tup (n := 2) K rfl (pgs_cons (pg_name (i := 1) sc_is_hues.nd rfl (Or.inl rfl)) (pgs_cons (pg_name (i := 2) sc_is_hues.nd rfl (Or.inl rfl)) pgs_nil)))) (fun _ _ _ _ _ => pts_nil) (fun _ _ _ _ _ => (pe_cmpR op_lt (pv 1) (pv 2) (nomark _)))) pa_nil))))), ?_⟩
    walk_at "go"
    intro D hD
    refine x_lwL (xs := nv l) (fun i H1 => Same H H1 ∧ H1 D = some (.lst ((List.replicate i true).map V.bl))) ⟨same_new hD, upd_same⟩ (fun i H1 _ h => sq_l (h.1 _ _ ha)) ?_ ?_
    · rintro i y H1 hi ⟨s1, hD1⟩
      obtain ⟨v, rfl, hv⟩ := of_nv hi
      have hl := (List.getElem?_eq_some_iff.mp hv).1
      walk_at "go"
      refine ⟨_, rfl, .inl ⟨_, rfl, ?_⟩⟩
      rw [decide_eq_true (show (0 : Int) ≤ (v : Int) by omega)]
      refine ⟨_, hD1, sz_lt (by rw [List.length_map, List.length_replicate]; omega), same_mut s1 hD, ?_⟩
      rw [upd_same, rep_snoc3]
    rintro H1 ⟨s1, hD1⟩
    have ha1 := s1 _ _ ha
    walk_at "go"
    refine x_all hD1 (rep_all3 _) ?_
    walk_at "go"
    refine x_zip ?_
    walk_at "go"
    refine x_sl ?_
    walk_at "go"
    refine x_part ?_
    walk_at "go"
    refine x_noPart ?_
    refine x_slFrom (k := 1) ha1 fun z hz => ?_
    rw [nv_drop]
    walk_at "go"
    have ha2 := new_at (o := .lst (nv (l.drop 1))) hz ha1
    have hz2 : (upd H1 z (.lst (nv (l.drop 1)))) z = some (.lst (nv (l.drop 1))) := upd_same
    have s2 := s1.trans (same_new (o := .lst (nv (l.drop 1))) hz)
    generalize upd H1 z (.lst (nv (l.drop 1))) = H2 at *
    refine x_zz ha2 hz2 ?_
    intro D2 hD2
    refine x_lwZ (xs := nv l) (ys := nv (l.drop 1)) (fun i H3 => Same H2 H3 ∧ H3 D2 = some (.lst ((List.replicate i true).map V.bl))) ⟨same_new hD2, upd_same⟩ (fun i H3 h => ⟨sq_l (h.1 _ _ ha2), sq_l (h.1 _ _ hz2)⟩) ?_ ?_
    · rintro i x y T H3 hx hy ⟨s3, hD3⟩ hT
      obtain ⟨a1, rfl, ea⟩ := of_nv hx
      obtain ⟨b1, rfl, eb⟩ := of_nv hy
      have hl := (List.getElem?_eq_some_iff.mp ea).1
      have lt := asc_next asc ea eb
      have hT2 : (upd H3 T (.tup [.int (a1 : Int), .int (b1 : Int)])) T = some (.tup [.int (a1 : Int), .int (b1 : Int)]) := upd_same
      walk_at "go"
      rw [decide_eq_true (show (a1 : Int) < (b1 : Int) by omega)]
      refine ⟨_, new_at hT hD3, sz_lt (by rw [List.length_map, List.length_replicate]; omega), same_mut (s3.trans (same_new hT)) hD2, ?_⟩
      rw [upd_same, rep_snoc3]
    · rintro H3 ⟨s3, hD3⟩
      exact x_all hD3 (rep_all3 _) (q _ (s2.trans s3))
end
abbrev s_check_lists : Stmt := topS 13
theorem sc_check_lists : FnScope ["web", "lists", "row"] ["web", "lists"] (defScope s_check_lists) := ⟨rfl, rfl, rfl, by decide +kernel, rfl, by decide +kernel, by decide +kernel⟩
def spCheck (C CL : Addr) : Sp := fun vs H Q E => ∃ (x la : Addr) (n : Nat) (e : Rel) (vl : List V) (rss : List (List Nat)), vs = [.ref x, .ref la] ∧ WebAt C H x n e ∧ n ≤ 100 ∧ H la = some (.lst vl) ∧ RowL H vl rss ∧ (∀ r ∈ rss, Asc r ∧ r.length ≤ 50000) ∧ rss.length ≤ 50000 ∧
  ((rss.length = n ∧ ∀ H', Same H H' → Q .non H') ∨ (rss.length ≠ n ∧ E (.ref CL) none H))
section
variable {P : Program} {w : World} {K : PySem.W.Frag} {mg : Str → Option Value} {base : Heap}
theorem c_check_lists {C CL : Addr} (T : Tx mg) (X_InvalidLists : Exq K mg "InvalidLists" CL) (F : DefAt K mg "check_lists" s_check_lists ["web", "lists"]) (c_is_hues : Cal P w K mg base CX0 3 "is_hues" spHues) (o_WebD_lenD : Met P w K mg base CX0 1 C "__len__" (spLenW C)) : Cal P w K mg base (L2.CX P w) 4 "check_lists" (spCheck C CL) := by
  refine F.calX sc_check_lists (fun vs H Q E h => ?_) (fun f cdv A outer s H vs Q E hr h => ?_)
  · obtain ⟨x, la, n, e, vl, rss, rfl, _⟩ := h
    rfl
  · obtain ⟨x, la, n, e, vl, rss, rfl, w, hn, hla, hR, hok, hz, q⟩ := h
    obtain ⟨dx, d, brs, hx, _⟩ := id w.ex
    have zl := hR.len
    refine ⟨_, (pss_cons (ps_if (PW.pt (pw_or (pt_not (pt_val (pe_callB (cl_isi K) (by rfl) T.z_isinstance (by decide +kernel) (pa_cons (pv 1) (pa_cons (pe_bltn (v := .ty "list") (by rfl) T.z_list (by decide +kernel) rfl) pa_nil))))) (pw_or1 (pt_cmpR op_ne (pe_callB (cl_len K) (by rfl) T.z_len PySem.boot_len (pa_cons (pv 1) pa_nil)) (pe_callB (call_lenO o_WebD_lenD hr (by decide) pass0) (by rfl) T.z_len PySem.boot_len (pa_cons (pv 0) pa_nil)) (nomark _)))))
        (pss_one (ps_raise rfl (takes_of rfl rfl rfl rfl) (pmk_own PySem.F.excBase_ValueError X_InvalidLists.xc X_InvalidLists.gC X_InvalidLists.kp (raises_own X_InvalidLists.sb X_InvalidLists.ty) (by exact rfl)))) pss_nil)
      (pss_one (ps_for (passes_of rfl) rfl (k_pil K (pv 1)) (pg_name (i := 2) sc_check_lists.nd rfl (Or.inl rfl))
        (pss_one (ps_if (pt_not (pt_val (pe_cal c_is_hues hr (by decide) rfl pass0 (pa_cons (pv 2) pa_nil))))
        (pss_one (ps_raise rfl (takes_of rfl rfl rfl rfl) (pmk_own PySem.F.excBase_ValueError X_InvalidLists.xc X_InvalidLists.gC X_InvalidLists.kp (raises_own X_InvalidLists.sb X_InvalidLists.ty) (by exact rfl)))) pss_nil))))), ?_⟩
    walk_at "go"
    refine ⟨x, _, _, rfl, hx, x, n, e, rfl, w, (n : Int), rfl, by omega, by omega, ?_⟩
    walk_at "go"
    rcases q with ⟨el, q⟩ | ⟨ne, q⟩
    · refine x_iten (fun c => absurd (by omega) c) (fun _ => ?_)
      walk_at "go"
      refine x_fwL (xs := vl) (fun i σ' H' => ∃ y2, σ' = [some (.ref x), some (.ref la), y2] ∧ Same H H') ⟨none, rfl, Same.refl H⟩ (fun i σ' H' _ ⟨_, _, s⟩ => sq_l (s _ _ hla)) ?_ ?_
      · rintro i y _ H1 hi ⟨y2, rfl, s1⟩
        obtain ⟨r, hr1, a, rfl, ha⟩ := A2.get hR hi
        obtain ⟨asc, zr⟩ := hok r (List.mem_of_getElem? hr1)
        walk_at "go"
        refine ⟨a, r, rfl, s1 _ _ ha, asc, zr, fun H2 s2 => ?_⟩
        walk_at "go"
        exact ⟨_, rfl, s1.trans s2⟩
      · rintro _ H1 ⟨y2, rfl, s1⟩
        exact q H1 s1
    · exact x_iten (fun _ => q) (fun c => absurd (by omega) ne)
end
/-! ### drawn lists of hues -/
def spPool : Sp := fun vs H Q _ => ∃ (u : Addr) (m n : Nat), vs = [.ref u, .int (m : Int)] ∧ m ≤ 1000 ∧ UrnZ H u (n + 10) ∧ ∀ p H' l, H p = none → Keep u H H' → UrnZ H' u n → H' p = some (.lst (nv l)) → Asc l → l.length = m → Q (.ref p) H'
abbrev s_l_pool : Stmt := topS 23
theorem sc_l_pool : FnScope ["urn", "many", "start", "step", "k"] ["urn", "many"] (defScope s_l_pool) := ⟨rfl, rfl, rfl, by decide +kernel, rfl, by decide +kernel, by decide +kernel⟩
theorem nv_snoc (l : List Nat) (v : Nat) : nv l ++ [V.int (v : Int)] = nv (l ++ [v]) := by
  unfold nv
  rw [List.map_append]
  rfl
theorem pool_asc (st sp m : Nat) (h : 0 < sp) : Asc ((List.range m).map fun k => st + k * sp) := by
  refine List.pairwise_map.mpr (List.pairwise_lt_range.imp fun {a b} h2 => ?_)
  have : a * sp < b * sp := Nat.mul_lt_mul_of_pos_right h2 h
  omega
section
variable {P : Program} {w : World} {K : PySem.W.Frag} {mg : Str → Option Value} {base : Heap}
theorem c_l_pool (T : Tx mg) (F : DefAt K mg "_law_pool" s_l_pool ["urn", "many"]) (c_l_pick : Cal P w K mg base CX0 1 "_law_pick" spPick) : Cal P w K mg base CX0 2 "_law_pool" spPool := by
  refine F.cal sc_l_pool (fun vs H Q E h => ?_) (fun f cdv A outer s H vs Q E hr h => ?_)
  · obtain ⟨u, m, n, rfl, _⟩ := h
    rfl
  · obtain ⟨u, m, n, rfl, hm, hu, q⟩ := h
    refine ⟨_, (pss_cons (ps_set (i := 2) sc_l_pool.nd rfl (Or.inr rfl) (pe_ix (ix_l K) (pe_lst (pa_cons pe_int (pa_cons pe_int (pa_cons (pe_cal c_l_pick hr (by decide) rfl pass0 (pa_cons (pv 0) (pa_cons (pe_op op_mul pe_int (pe_op op_pow pe_int pe_int)) pa_nil))) pa_nil)))) (pe_cal c_l_pick hr (by decide) rfl pass0 (pa_cons (pv 0) (pa_cons pe_int pa_nil))) (fun _ _ => rfl)))
      (pss_cons (ps_set (i := 3) sc_l_pool.nd rfl (Or.inr rfl) (pe_op op_add pe_int (pe_cal c_l_pick hr (by decide) rfl pass0 (pa_cons (pv 0) (pa_cons (pe_ix (ix_l K) (pe_lst (pa_cons pe_int (pa_cons pe_int (pa_cons (pe_op op_pow pe_int pe_int) pa_nil)))) (pe_cal c_l_pick hr (by decide) rfl pass0 (pa_cons (pv 0) (pa_cons pe_int pa_nil))) (fun _ _ => rfl)) pa_nil)))))
      (pss_one (ps_ret (pe_lc (own := [("k", 4)]) (g := gName 4) rfl sc_l_pool.nd (pi_range1 rfl T.z_range (pa_cons (pv 1) pa_nil)) (blkOk_by (own := [("k", 4)]) (N := ["urn", "many", "start", "step", "k"]) (sc := defScope s_l_pool) (by decide +kernel)) (fun _ _ _ _ _ => (pg_name (i := 4) sc_l_pool.nd rfl (Or.inl rfl))) (fun _ _ _ _ _ => pts_nil) (fun _ _ _ _ _ => (pe_op op_add (pv 2) (pe_op op_mul (pv 4) (pv 3))))))))), ?_⟩
    walk_at "go"
    refine x_pick (n + 9) (by decide) (by decide) hu fun r0 H1 r00 r01 k1 u1 => ?_
    walk_at "go"
    refine x_sz (by show 3 ≤ 100000; decide) fun l1 hl1 => ?_
    have ul1 := u1.ne hl1
    have k1' := keep_new (o := .lst [.int 0, .int 1, .int r0]) k1 hl1
    have u1' := u1.upd (o := .lst [.int 0, .int 1, .int r0]) ul1
    walk_at "go"
    refine x_pick (n + 8) (by decide) (by decide) u1' fun r1 H2 r10 r11 k2 u2 => ?_
    obtain ⟨st, ea, _⟩ : ∃ st : Nat, atI [V.int 0, V.int 1, V.int r0] r1 = some (.int (st : Int)) ∧ True := by
      have h4 : r1 = 0 ∨ r1 = 1 ∨ r1 = 2 := by omega
      rcases h4 with e | e | e <;> rw [e]
      · exact ⟨0, rfl, trivial⟩
      · exact ⟨1, rfl, trivial⟩
      · exact ⟨r0.toNat, by rw [Int.toNat_of_nonneg r00]; rfl, trivial⟩
    have hl2 : H2 l1 = some (.lst [.int 0, .int 1, .int r0]) := k2.at upd_same ul1.symm
    have k02 := k1'.trans k2
    walk_at "go"
    refine x_sz (by show 3 ≤ 100000; decide) fun l2 hl2 => ?_
    have ul2 := u2.ne hl2
    have k2' := keep_new (o := .lst [.int 1, .int 9, .int (10 ^ Int.toNat 7)]) k02 hl2
    have u2' := u2.upd (o := .lst [.int 1, .int 9, .int (10 ^ Int.toNat 7)]) ul2
    walk_at "go"
    refine x_pick (n + 7) (by decide) (by decide) u2' fun r2 H3 r20 r21 k3 u3 => ?_
    obtain ⟨m2, eb, m20, m21⟩ : ∃ m2 : Int, atI [V.int 1, V.int 9, V.int (10 ^ Int.toNat 7)] r2 = some (.int m2) ∧ 0 < m2 ∧ m2 < 2 ^ 30 := by
      have h4 : r2 = 0 ∨ r2 = 1 ∨ r2 = 2 := by omega
      rcases h4 with e | e | e <;> rw [e]
      · exact ⟨1, rfl, by decide, by decide⟩
      · exact ⟨9, rfl, by decide, by decide⟩
      · exact ⟨10 ^ Int.toNat 7, rfl, by decide, by decide⟩
    have hl3 : H3 l2 = some (.lst [.int 1, .int 9, .int (10 ^ Int.toNat 7)]) := k3.at upd_same ul2.symm
    have k03 := k2'.trans k3
    walk_at "go"
    refine x_pick (n + 6) m20 m21 u3 fun r3 H4 r30 r31 k4 u4 => ?_
    have k04 := k03.trans k4
    obtain ⟨sp, rfl⟩ := Int.eq_ofNat_of_zero_le r30
    walk_at "go"
    intro D hD
    have uD := u4.ne hD
    refine x_lwR0 (fun i H5 => Keep u H H5 ∧ UrnZ H5 u n ∧ H5 D = some (.lst (nv ((List.range i).map fun k => st + k * (1 + sp))))) ⟨keep_new k04 hD, (u4.upd uD).mono (by omega), upd_same⟩ ?_ ?_
    · rintro i H5 hi ⟨k5, u5, hD5⟩
      walk_at "go"
      refine ⟨_, hD5, sz_lt (by rw [nv_len, List.length_map, List.length_range]; omega), keep_mut k5 (k04.free u4 hD), u5.upd uD, ?_⟩
      have e : (st : Int) + (i : Int) * (1 + (sp : Int)) = ((st + i * (1 + sp) : Nat) : Int) := by simp
      rw [upd_same, e, nv_snoc, List.range_succ, List.map_append]
      rfl
    · rintro H5 ⟨k5, u5, hD5⟩
      rw [show (m : Int).toNat = m by omega] at hD5
      exact q D H5 _ (k04.free u4 hD) k5 u5 hD5 (pool_asc _ _ _ (by omega)) (by rw [List.length_map, List.length_range])
end
def spRow : Sp := fun vs H Q _ => ∃ (u t : Addr) (l : List Nat) (sz n : Nat), vs = [.ref u, .ref t, .int (sz : Int)] ∧ H t = some (.lst (nv l)) ∧ t ≠ u ∧ l.Nodup ∧ l.length ≤ 1000 ∧ UrnZ H u (n + l.length) ∧ ∀ p H' r, H p = none → Keep u H H' → UrnZ H' u n → H' p = some (.lst (nv r)) → Asc r → r.length = min sz l.length → (∀ v ∈ r, v ∈ l) → Q (.ref p) H'
abbrev s_l_row : Stmt := topS 24
theorem sc_l_row : FnScope ["urn", "pool", "size"] ["urn", "pool", "size"] (defScope s_l_row) := ⟨rfl, rfl, rfl, by decide +kernel, rfl, by decide +kernel, by decide +kernel⟩
section
variable {P : Program} {w : World} {K : PySem.W.Frag} {mg : Str → Option Value} {base : Heap}
theorem x_slTake' {K : PySem.W.Frag} {H : Hp} {Q : VK} {a : Addr} {xs : List V} {k : Nat} (s : H a = some (.lst xs)) (h : ∀ p, H p = none → Q (.ref p) (upd H p (.lst (xs.take k)))) : rSlL K (.ref a) none (some (k : Int)) H Q := by
  refine ⟨a, xs, rfl, sq_l s, fun p hp => ?_⟩
  have e : cutV xs none (some (k : Int)) = xs.take k := by
    have h0 : HT.sIx xs.length 0 none = 0 := rfl
    unfold cutV
    rw [h0, HT.sIx_nat, List.drop_zero, Nat.sub_zero]
    by_cases c : k ≤ xs.length
    · rw [Nat.min_eq_left c]
    · rw [Nat.min_eq_right (by omega), List.take_length, List.take_of_length_le (by omega)]
  rw [e]
  exact h p hp
theorem c_l_row (T : Tx mg) (F : DefAt K mg "_law_row" s_l_row ["urn", "pool", "size"]) (c_l_shuffled : Cal P w K mg base CX0 2 "_law_shuffled" spShuf) : Cal P w K mg base CX0 3 "_law_row" spRow := by
  refine F.cal sc_l_row (fun vs H Q E h => ?_) (fun f cdv A outer s H vs Q E hr h => ?_)
  · obtain ⟨u, t, l, sz, n, rfl, _⟩ := h
    rfl
  · obtain ⟨u, t, l, sz, n, rfl, ht, tu, nd, hl, hu, q⟩ := h
    refine ⟨_, (pss_one (ps_ret (pe_callB (cl_sortedI K) (by rfl) T.z_sorted (by decide +kernel) (pa_cons (pe_slice (k_sll K) (pe_cal c_l_shuffled hr (by decide) rfl pass0 (pa_cons (pv 0) (pa_cons (pv 1) pa_nil))) po_none (po_some (pv 2))) pa_nil)))), ?_⟩
    walk_at "go"
    refine x_sl ?_
    walk_at "go"
    refine ⟨u, t, nv l, n, rfl, ht, tu, by rw [nv_len]; omega, by rw [nv_len]; exact hu, fun p H1 ys hp k1 u1 hp1 pm => ?_⟩
    obtain ⟨m, pm2, rfl⟩ := perm_nv pm
    walk_at "go"
    refine x_noPart ?_
    refine x_part ?_
    walk_at "go"
    refine x_slTake' hp1 fun z hz => ?_
    rw [nv_take]
    have hz2 : (upd H1 z (.lst (nv (m.take sz)))) z = some (.lst (nv (m.take sz))) := upd_same
    walk_at "go"
    have zu := u1.ne hz
    refine x_sortedN hz2 ((pm2.nodup_iff.mpr nd).sublist (List.take_sublist _ _)) fun r b pr srt hb => ?_
    refine q b _ r ?_ (keep_new (keep_new k1 hz) hb) ((u1.upd zu).upd ((u1.upd zu).ne hb)) upd_same srt ?_ ?_
    · have := (keep_new (o := .lst (nv (m.take sz))) k1 hz)
      exact this.free (u1.upd zu) hb
    · rw [pr.length_eq, List.length_take, pm2.length_eq]
    · intro v hv
      exact pm2.mem_iff.mp (List.mem_of_mem_take (pr.mem_iff.mp hv))
end
/-- lists of hues, one for each place, apart from the urn -/
def RowU (u D : Addr) (H : Hp) (v : V) (r : List Nat) : Prop := ∃ a, v = .ref a ∧ a ≠ u ∧ a ≠ D ∧ H a = some (.lst (nv r))
abbrev RowsU (u D : Addr) (H : Hp) (vs : List V) (rss : List (List Nat)) : Prop := A2 (RowU u D H) vs rss
section
variable {u D : Addr} {H H' : Hp} {vs : List V} {rss : List (List Nat)}
theorem RowsU.keep (h : RowsU u D H vs rss) (k : Keep u H H') : RowsU u D H' vs rss := h.imp fun _ _ ⟨a, e, h1, h2, h3⟩ => ⟨a, e, h1, h2, k.at h3 h1⟩
theorem RowsU.upd {o : HO} (h : RowsU u D H vs rss) : RowsU u D (upd H D o) vs rss := h.imp fun _ _ ⟨a, e, h1, h2, h3⟩ => ⟨a, e, h1, h2, upd_at h2 h3⟩
theorem RowsU.rowL (h : RowsU u D H vs rss) : RowL H vs rss := h.imp fun _ _ ⟨a, e, _, _, h3⟩ => ⟨a, e, h3⟩
theorem RowL.keep {us : List V} (h : RowL H vs rss) (k : Keep u H H') (hu : ∀ v ∈ vs, v ≠ .ref u) : RowL H' vs rss := by
  induction h with
  | nil => exact .nil
  | cons r _ ih =>
    obtain ⟨a, rfl, ha⟩ := r
    have ne : a ≠ u := fun e => hu _ (List.mem_cons_self ..) (by rw [e])
    exact .cons ⟨a, rfl, k.at ha ne⟩ (ih fun v hv => hu v (List.mem_cons_of_mem _ hv))
end
theorem A2.set {α β : Type} {R : α → β → Prop} {as : List α} {bs : List β} (h : A2 R as bs) {a : α} {b : β} (r : R a b) : ∀ i : Nat, A2 R (as.set i a) (bs.set i b) := by
  induction h with
  | nil => intro i; exact .nil
  | cons q t ih =>
    intro i
    cases i with
    | zero => exact .cons r t
    | succ i => exact .cons q (ih i)
def spCopies : Sp := fun vs H Q _ => ∃ (la : Addr) (vl : List V) (rss : List (List Nat)), vs = [.ref la] ∧ H la = some (.lst vl) ∧ RowL H vl rss ∧ rss.length ≤ 50000 ∧ ∀ D H' rows, LL H H' D rows rss → Q (.ref D) H'
abbrev s_l_copies : Stmt := topS 26
theorem sc_l_copies : FnScope ["rows", "row"] ["rows"] (defScope s_l_copies) := ⟨rfl, rfl, rfl, by decide +kernel, rfl, by decide +kernel, by decide +kernel⟩
section
variable {P : Program} {w : World} {K : PySem.W.Frag} {mg : Str → Option Value} {base : Heap}
theorem c_l_copies (T : Tx mg) (F : DefAt K mg "_law_copies" s_l_copies ["rows"]) : Cal P w K mg base CX0 1 "_law_copies" spCopies := by
  refine F.cal sc_l_copies (fun vs H Q E h => ?_) (fun f cdv A outer s H vs Q E hr h => ?_)
  · obtain ⟨la, vl, rss, rfl, _⟩ := h
    rfl
  · obtain ⟨la, vl, rss, rfl, hla, hR, hz, q⟩ := h
    have zl := hR.len
    refine ⟨_, (pss_one (ps_ret (pe_lc (own := [("row", 1)]) (g := gName 1) rfl sc_l_copies.nd (k_pil K (pv 0)) (blkOk_by (own := [("row", 1)]) (N := ["rows", "row"]) (sc := defScope s_l_copies) (by decide +kernel)) (fun _ _ _ _ _ => (pg_name (i := 1) sc_l_copies.nd rfl (Or.inl rfl))) (fun _ _ _ _ _ => pts_nil) (fun _ _ _ _ _ => (pe_callTy (cl_listOf K) (by rfl) T.z_list (by decide +kernel) (pa_cons (pv 1) pa_nil)))))), ?_⟩
    walk_at "go"
    intro D hD
    refine x_lwL (xs := vl) (fun i H1 => ∃ rows, LL H H1 D rows (rss.take i)) ⟨[], LL.nil hD⟩ (fun i H1 _ ⟨_, h⟩ => sq_l (h.sm _ _ hla)) ?_ ?_
    · rintro i y H1 hi ⟨rows, L⟩
      have hl := (List.getElem?_eq_some_iff.mp hi).1
      obtain ⟨r, hr1, a, rfl, ha⟩ := A2.get (hR.same L.sm) hi
      have hD1 := L.hD
      have zr := L.len
      rw [List.length_take] at zr
      have etk : rss.take (i + 1) = rss.take i ++ [r] := by rw [List.take_add_one, hr1]; rfl
      walk_at "go"
      refine x_listOf ha fun p hp => ?_
      walk_at "go"
      refine ⟨_, new_at hp hD1, sz_lt (by rw [List.length_map]; omega), rows ++ [p], ?_⟩
      rw [etk]
      exact L.new hp
    · rintro H1 ⟨rows, L⟩
      rw [zl, List.take_length] at L
      exact q D H1 rows L
end
/-! ### places and neighbours -/
def spPlace (K : PySem.W.Frag) (C : Addr) : Sp := fun vs H Q _ => ∃ (x : Addr) (n : Nat) (e : Rel) (v : V), vs = [.ref x, v] ∧ WebAt C H x n e ∧
  ((∃ i : Int, v = .int i ∧ Q (.bl (decide (0 ≤ i ∧ i < (n : Int)))) H) ∨ (∃ Ty, Knd K H v Ty ∧ Ty ≠ "int" ∧ Q (.bl false) H))
abbrev s_Web_is_place : Stmt := inClass (topS 9) 4
theorem sc_Web_is_place : FnScope ["self", "value"] ["self", "value"] (defScope s_Web_is_place) := ⟨rfl, rfl, rfl, by decide +kernel, rfl, by decide +kernel, by decide +kernel⟩
section
variable {P : Program} {w : World} {K : PySem.W.Frag} {mg : Str → Option Value} {base : Heap}
theorem m_Web_is_place {C : Addr} (T : Tx mg) (O_Web : Own K mg "Web" C) (nB : NoAttr K C "beside") (F : MetAt K C "is_place" "Web.is_place" s_Web_is_place ["self", "value"]) (c_is_integer : Cal P w K mg base CX0 1 "is_integer" (spIsInt K)) :
    Met P w K mg base CX0 2 C "is_place" (spPlace K C) := by
  refine F.met sc_Web_is_place (fun vs H Q E h => ?_) (fun f cdv A outer s H vs Q E hr h => ?_)
  · obtain ⟨x, n, e, v, rfl, _⟩ := h
    rfl
  · obtain ⟨x, n, e, v, rfl, ⟨dx, d, rows, h1, h2, h3, h4⟩, q⟩ := h
    have cl := O_Web.cl
    have hb := fB_beside d
    refine ⟨_, (pss_one (ps_ret (pe_and (pe_cal c_is_integer hr (by decide) rfl pass0 (pa_cons (pv 1) pa_nil)) (pe_and (pe_cmpR op_le pe_int (pv 1) (nomark _)) (pe_one (pe_cmpR op_lt (pv 1) (pe_callB (cl_len K) (by rfl) T.z_len PySem.boot_len (pa_cons (k_fld K (pv 0) rfl) pa_nil)) (nomark _))))))), ?_⟩
    walk_at "go"
    rcases q with ⟨i, rfl, q⟩ | ⟨Ty, kn, ne, q⟩
    · refine ⟨.int i, "int", rfl, knd_int i, ?_⟩
      walk_at "go"
      rw [if_pos (by decide)]
      walk_at "go"
      refine x_ite (fun c => ?_) (fun c => ?_)
      · walk_at "go"
        rw [List.length_map, h3]
        rw [show decide (i < (n : Int)) = decide (0 ≤ i ∧ i < (n : Int)) from by rw [decide_eq_decide]; omega]
        exact q
      · rw [show decide (0 ≤ i ∧ i < (n : Int)) = false from by rw [decide_eq_false_iff_not]; omega] at q
        exact q
    · refine ⟨v, Ty, rfl, kn, ?_⟩
      rw [show (Ty == "int") = false from by simpa using ne]
      walk_at "go"
      exact q
end
/-- a dict of places, each True -/
def sT (S : List Nat) : List (Key × V) := S.map fun (v : Nat) => (Sum.inl (v : Int), V.bl true)
theorem sT_len (S : List Nat) : (sT S).length = S.length := by unfold sT; rw [List.length_map]
theorem sT_some {S : List Nat} {v : Nat} : (valV (sT S) (Sum.inl (v : Int) : Key)).isSome = decide (v ∈ S) := by
  induction S with
  | nil => rfl
  | cons x r ih =>
    show (valV ((Sum.inl (x : Int), V.bl true) :: sT r) (Sum.inl (v : Int) : Key)).isSome = _
    by_cases h : v = x
    · subst h
      rw [valV_pos rfl]
      simp
    · rw [valV_neg (fun z => h (by have := Sum.inl.inj z; omega)), ih]
      simp [h]
theorem sT_put {S : List Nat} {v : Nat} (h : v ∉ S) : putK (sT S) (Sum.inl (v : Int) : Key) (.bl true) = sT (S ++ [v]) := by
  have e : valV (sT S) (Sum.inl (v : Int) : Key) = none := by
    have := sT_some (S := S) (v := v)
    rw [decide_eq_false h] at this
    cases q : valV (sT S) (Sum.inl (v : Int) : Key) with
    | none => rfl
    | some y => rw [q] at this; cases this
  rw [putK_new _ e]
  unfold sT
  rw [List.map_append]
  rfl
abbrev s_Web_is_way : Stmt := inClass (topS 9) 7
theorem sc_Web_is_way : FnScope ["self", "value", "seen", "place", "at"] ["self", "value"] (defScope s_Web_is_way) := ⟨rfl, rfl, rfl, by decide +kernel, rfl, by decide +kernel, by decide +kernel⟩
/-- a way -/
structure IsWay (n : Nat) (e : Rel) (l : List Nat) : Prop where
  ne : l ≠ []
  lt : ∀ v ∈ l, v < n
  nd : l.Nodup
  tied : ∀ (i a b : Nat), l[i]? = some a → l[i + 1]? = some b → e a b = true
def spWay (C : Addr) : Sp := fun vs H Q _ => ∃ (x va : Addr) (n : Nat) (e : Rel) (l : List Nat), vs = [.ref x, .ref va] ∧ WebAt C H x n e ∧ n ≤ 100 ∧ H va = some (.lst (nv l)) ∧ l.length ≤ 50000 ∧ ∀ b H', (b = true ↔ IsWay n e l) → Same H H' → Q (.bl b) H'
theorem nd_take {l : List Nat} {i v : Nat} (h : (l.take i).Nodup) (e : l[i]? = some v) (n : v ∉ l.take i) : (l.take (i + 1)).Nodup := by
  have etk : l.take (i + 1) = l.take i ++ [v] := by rw [List.take_add_one, e]; rfl
  rw [etk]
  exact List.nodup_append.mpr ⟨h, by simp, fun x hx y hy => by rw [List.mem_singleton.mp hy]; exact fun z => n (z ▸ hx)⟩
section
variable {P : Program} {w : World} {K : PySem.W.Frag} {mg : Str → Option Value} {base : Heap}
theorem m_Web_is_way {C : Addr} (T : Tx mg) (O_Web : Own K mg "Web" C) (nB : NoAttr K C "beside") (F : MetAt K C "is_way" "Web.is_way" s_Web_is_way ["self", "value"]) (m_Web_is_place : Met P w K mg base CX0 2 C "is_place" (spPlace K C)) :
    Met P w K mg base CX0 3 C "is_way" (spWay C) := by
  refine F.met sc_Web_is_way (fun vs H Q E h => ?_) (fun f cdv A outer s H vs Q E hr h => ?_)
  · obtain ⟨x, va, n, e, l, rfl, _⟩ := h
    rfl
  · obtain ⟨x, va, n, e, l, rfl, w, hn, hva, hz, q⟩ := h
    obtain ⟨dx, d, rows, h1, h2, h3, h4⟩ := id w.ex
    have cl := O_Web.cl
    have hb := fB_beside d
    refine ⟨_, (pss_cons (ps_if (PW.pt (pw_or (pt_not (pt_val (pe_callB (cl_isi K) (by rfl) T.z_isinstance (by decide +kernel) (pa_cons (pv 1) (pa_cons (pe_bltn (v := .ty "list") (by rfl) T.z_list (by decide +kernel) rfl) pa_nil))))) (pw_or1 (pt_cmpR op_eq (pe_callB (cl_len K) (by rfl) T.z_len PySem.boot_len (pa_cons (pv 1) pa_nil)) pe_int (nomark _)))))
        (pss_one (ps_ret pe_bl)) pss_nil)
      (pss_cons (ps_set (i := 2) sc_Web_is_way.nd rfl (Or.inl rfl) pe_dnewK)
      (pss_cons (ps_for PassesOwn.never rfl (k_pil K (pv 1)) (pg_name (i := 3) sc_Web_is_way.nd rfl (Or.inl rfl))
        (pss_cons (ps_if (PW.pt (pw_or (pt_not (pt_val (pe_mth m_Web_is_place O_Web hr (by decide) pass0 (pv 0) (pa_cons (pv 3) pa_nil)))) (pw_or1 (pt_cmp (pc_din (hu_of hr) (pv 3) (pv 2))))))
        (pss_one (ps_ret pe_bl)) pss_nil)
      (pss_one (ps_dput (hu_of hr) (pv 2) (pv 3) pe_bl rfl))))
      (pss_cons (ps_for PassesOwn.never rfl (pi_range2 rfl T.z_range (pa_cons pe_int (pa_cons (pe_callB (cl_len K) (by rfl) T.z_len PySem.boot_len (pa_cons (pv 1) pa_nil)) pa_nil))) (pg_name (i := 4) sc_Web_is_way.nd rfl (Or.inl rfl))
        (pss_one (ps_if (pt_cmpR (k_nin K) (pe_ix (ix_l K) (pv 1) (pv 4) (fun _ _ => rfl)) (pe_ix (ix_l K) (k_fld K (pv 0) rfl) (pe_ix (ix_l K) (pv 1) (pe_op op_sub (pv 4) pe_int) (fun _ _ => rfl)) (fun _ _ => rfl)) (by first | exact nomark _ | rfl))
        (pss_one (ps_ret pe_bl)) pss_nil)))
      (pss_one (ps_ret pe_bl)))))), ?_⟩
    walk_at "go"
    rw [nv_len]
    refine x_ite (fun c => ?_) (fun c => ?_)
    · walk_at "go"
      exact q false H ⟨fun h => (by cases h), fun h => absurd (List.eq_nil_of_length_eq_zero (by omega)) h.ne⟩ (Same.refl H)
    · walk_at "go"
      refine x_dnew fun se hse => ?_
      have hva1 := new_at (o := .dK []) hse hva
      walk_at "go"
      refine x_fwL (xs := nv l) (fun i σ' H' => ∃ y3, σ' = [some (.ref x), some (.ref va), some (.ref se), y3, none] ∧ Same H H' ∧ H' se = some (.dK (sT (l.take i))) ∧ (l.take i).Nodup ∧ ∀ v ∈ l.take i, v < n)
        ⟨none, rfl, same_new hse, upd_same, List.nodup_nil, by simp⟩ (fun i σ' H' _ ⟨_, _, s, _⟩ => sq_l (s _ _ hva)) ?_ ?_
      · rintro i y _ H1 hi ⟨y3, rfl, s1, hs1, nd, lt⟩
        obtain ⟨v, rfl, hv⟩ := of_nv hi
        have hil := (List.getElem?_eq_some_iff.mp hv).1
        have hx1 := s1 _ _ h1
        have etk : l.take (i + 1) = l.take i ++ [v] := by rw [List.take_add_one, hv]; rfl
        walk_at "go"
        refine ⟨x, _, _, rfl, hx1, fB_no d (by decide), ?_⟩
        walk_at "go"
        refine ⟨x, n, e, _, rfl, w.same s1, .inl ⟨_, rfl, ?_⟩⟩
        walk_at "go"
        refine x_iten (fun c2 => ?_) (fun c2 => ?_)
        · walk_at "go"
          exact q false H1 ⟨fun h => (by cases h), fun h => absurd (h.lt v (List.mem_of_getElem? hv)) (by omega)⟩ s1
        · walk_at "go"
          refine x_dgetI hs1 ?_
          rw [sT_some]
          walk_at "go"
          refine x_ite (fun c3 => ?_) (fun c3 => ?_)
          · walk_at "go"
            refine q false H1 ⟨fun h => (by cases h), fun h => ?_⟩ s1
            have nd2 := h.nd
            rw [← List.take_append_drop i l] at nd2
            have hd : v ∈ l.drop i := by
              refine List.mem_of_getElem? (i := 0) ?_
              rw [List.getElem?_drop]
              exact hv
            exact absurd rfl ((List.nodup_append.mp nd2).2.2 v c3 v hd)
          · walk_at "go"
            refine x_dputI hs1 (by rw [sT_len, List.length_take]; omega) ?_
            rw [sT_put c3]
            walk_at "go"
            refine ⟨_, rfl, same_mut s1 hse, by rw [etk]; exact upd_same, nd_take nd hv c3, fun u hu => ?_⟩
            rw [etk] at hu
            rcases List.mem_append.mp hu with h | h
            · exact lt u h
            · rw [List.mem_singleton.mp h]
              omega
      · rintro _ H1 ⟨y3, rfl, s1, hs1, nd, lt⟩
        rw [nv_len, List.take_length] at nd lt
        have hva2 := s1 _ _ hva
        have hx2 := s1 _ _ h1
        walk_at "go"
        rw [nv_len]
        walk_at "go"
        refine x_fwR (fun i σ' H' => ∃ y4, σ' = [some (.ref x), some (.ref va), some (.ref se), y3, y4] ∧ H' = H1 ∧ ∀ (j a b : Nat), j < i → l[j]? = some a → l[j + 1]? = some b → e a b = true)
          ⟨none, rfl, rfl, fun j _ _ h => absurd h (Nat.not_lt_zero _)⟩ ?_ ?_
        · rintro i _ _ hi ⟨y4, rfl, rfl, al⟩
          have ei : l[i]? = some (l[i]'(by omega)) := List.getElem?_eq_getElem (by omega)
          have ei1 : l[i + 1]? = some (l[i + 1]'(by omega)) := List.getElem?_eq_getElem (by omega)
          have g1 : atI (nv l) ((i + 1 : Nat) : Int) = some (.int ((l[i + 1]'(by omega) : Nat) : Int)) := atI_nat (nv_at ei1)
          have g0 : atI (nv l) ((i : Nat) : Int) = some (.int ((l[i]'(by omega) : Nat) : Int)) := atI_nat (nv_at ei)
          have ln := lt _ (List.mem_of_getElem? ei)
          have ln2 := lt _ (List.mem_of_getElem? ei1)
          have ev : (1 : Int) + (i : Int) = ((i + 1 : Nat) : Int) := by omega
          have ev2 : ((i + 1 : Nat) : Int) - 1 = (i : Int) := by omega
          generalize l[i]'(by omega) = a at *
          generalize l[i + 1]'(by omega) = b at *
          have er : rows[a]? = some (rows[a]'(by omega)) := List.getElem?_eq_getElem (by omega)
          have g2 : atI (rows.map V.ref) (a : Int) = some (.ref (rows[a]'(by omega))) := atI_nat (refs_at er)
          have hr1 := s1 _ _ (h4 a _ er)
          have hd1 := s1 _ _ h2
          rw [ev]
          walk_at "go"
          rw [ev2]
          walk_at "go"
          refine x_ninN hr1 ?_
          walk_at "go"
          refine x_iten (fun c2 => ?_) (fun c2 => ?_)
          · walk_at "go"
            exact q false _ ⟨fun h => (by cases h), fun h => absurd (mem_nb.mpr ⟨ln2, h.tied i a b ei ei1⟩) c2⟩ s1
          · walk_at "go"
            refine ⟨_, rfl, rfl, fun j a' b' hj e1 e2 => ?_⟩
            by_cases ej : j = i
            · subst ej
              rw [ei] at e1
              rw [ei1] at e2
              cases e1
              cases e2
              exact (mem_nb.mp c2).2
            · exact al j a' b' (by omega) e1 e2
        · rintro _ _ ⟨y4, rfl, rfl, al⟩
          walk_at "go"
          refine q true _ ⟨fun _ => ⟨fun z => c (by rw [z]; rfl), lt, nd, fun j a b e1 e2 => al j a b ?_ e1 e2⟩, fun _ => rfl⟩ s1
          have := (List.getElem?_eq_some_iff.mp e2).1
          omega
end
/-! ### for .. else over a list -/
def FWE (J : It) (g : TG) (tb u : TS) (D : Ends) (σ : St) (H1 : Hp) : Prop := ∃ W : Nat → Nat → St → Hp → Prop, (∃ m, W 0 m σ H1) ∧ ∀ i m σ H, W i m σ H →
  (J.stop i H ∧ u D σ H) ∨ (J.go i H ∧ ∃ N : St → Hp → Prop, (∀ σ' H', N σ' H' → ∃ m', m' < m ∧ W (i + 1) m' σ' H') ∧ ∀ x H', J.yld i H x H' → g x σ H' fun σ2 H2 => tb { D with nx := N, ct := N, bk := D.nx } σ2 H2)
section
variable {K : PySem.W.Frag} {σ : St} {H : Hp} {wi : TI} {g : TG} {tb u : TS} {a : Addr} {xs : List V}
theorem x_forE {n : St → Hp → Prop} {rt : VK} {bk ct : St → Hp → Prop} (h : wi σ H fun J H1 => FWE J g tb u ⟨n, rt, bk, ct⟩ σ H1) : tForE wi g tb u ⟨n, rt, bk, ct⟩ σ H := h
theorem x_feL {nx : St → Hp → Prop} {rt : VK} {bk ct : St → Hp → Prop} (Pv : Nat → St → Hp → Prop) (h0 : Pv 0 σ H) (hl : ∀ i σ H, Pv i σ H → SqL K H a xs)
    (hs : ∀ i x σ H, xs[i]? = some x → Pv i σ H → g x σ H fun σ2 H2 => tb ⟨Pv (i + 1), rt, nx, Pv (i + 1)⟩ σ2 H2) (hd : ∀ σ H, Pv xs.length σ H → u ⟨nx, rt, bk, ct⟩ σ H) : FWE (Itl K a) g tb u ⟨nx, rt, bk, ct⟩ σ H := by
  refine ⟨fun i m σ H => m = xs.length - i ∧ i ≤ xs.length ∧ Pv i σ H, ⟨_, rfl, Nat.zero_le _, h0⟩, ?_⟩
  rintro i m σ H ⟨rfl, hi, p⟩
  have q := hl i σ H p
  by_cases hlt : i < xs.length
  · have hx : xs[i]? = some xs[i] := List.getElem?_eq_getElem hlt
    refine .inr ⟨⟨xs, xs[i], q, hx⟩, Pv (i + 1), fun σ' H' p' => ⟨xs.length - (i + 1), by omega, rfl, hlt, p'⟩, fun v H' y => ?_⟩
    obtain ⟨rfl, f⟩ := y
    exact hs i v σ H' (f xs q) p
  · have e : i = xs.length := by omega
    rw [e] at p
    exact .inl ⟨⟨xs, q, by omega⟩, hd σ H p⟩
end
/-! ### pairs that a way bars: in plain Lean -/
/-- the first hue of a row that is not h -/
def oth (r : List Nat) (h : Nat) : Nat := (r.find? fun k => decide (k ≠ h)).getD 0
/-- the hue that h forces behind the rows -/
def forced : List (List Nat) → Nat → Option Nat
  | [], h => some h
  | r :: rs, h => if h ∈ r then forced rs (oth r h) else none
def barredOf (r0 : List Nat) (rs : List (List Nat)) (last : List Nat) : List (Nat × Nat) := r0.filterMap fun h => (forced rs h).map fun k => (h, oth last k)
/-- all choices, tied places unlike -/
def linesOf (r0 : List Nat) (rs : List (List Nat)) : List (List Nat) := rs.foldl (fun ls r => ls.flatMap fun l => (r.filter fun h => decide (h ≠ l.getLastD 0)).map fun h => l ++ [h]) (r0.map fun h => [h])
def dueOf (r0 : List Nat) (rs : List (List Nat)) (last : List Nat) : List (Nat × Nat) :=
  r0.flatMap fun h => (last.filter fun k => decide ((h, k) ∉ (linesOf r0 rs).map fun l => (l.headD 0, l.getLastD 0))).map fun k => (h, k)
theorem lastD_snoc {α : Type} (l : List α) (k d : α) : (l ++ [k]).getLastD d = k := by
  rw [List.getLastD_eq_getLast?, List.getLast?_concat]
  rfl
structure Two (r : List Nat) : Prop where
  nd : r.Nodup
  len : r.length = 2
theorem Two.ex {r : List Nat} (t : Two r) : ∃ a b, r = [a, b] ∧ a ≠ b := by
  obtain ⟨nd, hl⟩ := t
  match r, hl, nd with
  | [a, b], _, nd =>
    refine ⟨a, b, rfl, ?_⟩
    have := (List.nodup_cons.mp nd).1
    simpa using this
theorem oth_two {a b : Nat} (h : a ≠ b) : oth [a, b] a = b ∧ oth [a, b] b = a := by
  constructor
  · unfold oth
    rw [List.find?_cons_of_neg (by simp), List.find?_cons_of_pos (by simpa using fun z => h z.symm)]
    rfl
  · unfold oth
    rw [List.find?_cons_of_pos (by simpa using h)]
    rfl
theorem linesOf_snoc (r0 : List Nat) (rs : List (List Nat)) (r : List Nat) : linesOf r0 (rs ++ [r]) = (linesOf r0 rs).flatMap fun l => (r.filter fun h => decide (h ≠ l.getLastD 0)).map fun h => l ++ [h] := by
  unfold linesOf
  rw [List.foldl_append]
  rfl
theorem forced_snoc (rs : List (List Nat)) (r : List Nat) : ∀ h, forced (rs ++ [r]) h = (forced rs h).bind fun k => if k ∈ r then some (oth r k) else none := by
  induction rs with
  | nil =>
    intro h
    show (if h ∈ r then forced [] (oth r h) else none) = _
    rfl
  | cons a rs ih =>
    intro h
    show (if h ∈ a then forced (rs ++ [r]) (oth a h) else none) = ((if h ∈ a then forced rs (oth a h) else none).bind _)
    by_cases c : h ∈ a
    · rw [if_pos c, if_pos c, ih]
    · rw [if_neg c, if_neg c]
      rfl
/-- a choice from h to k -/
def Rch (r0 : List Nat) (rs : List (List Nat)) (h k : Nat) : Prop := ∃ l ∈ linesOf r0 rs, l ≠ [] ∧ l.headD 0 = h ∧ l.getLastD 0 = k
theorem snoc_ind {α : Type} {P : List α → Prop} (h0 : P []) (hs : ∀ rs r, P rs → P (rs ++ [r])) (rs : List α) : P rs := by
  have h : ∀ l : List α, P l.reverse := by
    intro l
    induction l with
    | nil => exact h0
    | cons a r ih => rw [List.reverse_cons]; exact hs _ _ ih
  have := h rs.reverse
  rwa [List.reverse_reverse] at this
theorem lines_ne (r0 : List Nat) (rs : List (List Nat)) : ∀ l ∈ linesOf r0 rs, l ≠ [] := by
  refine snoc_ind (P := fun rs => ∀ l ∈ linesOf r0 rs, l ≠ []) ?_ ?_ rs
  · intro l hl
    obtain ⟨h, _, rfl⟩ := List.mem_map.mp hl
    simp
  · intro rs r ih l hl
    rw [linesOf_snoc] at hl
    obtain ⟨l', _, h2⟩ := List.mem_flatMap.mp hl
    obtain ⟨h, _, rfl⟩ := List.mem_map.mp h2
    simp
theorem rch_snoc {r0 : List Nat} {rs : List (List Nat)} {r : List Nat} {h k : Nat} : Rch r0 (rs ++ [r]) h k ↔ k ∈ r ∧ ∃ k', Rch r0 rs h k' ∧ k ≠ k' := by
  unfold Rch
  rw [linesOf_snoc]
  constructor
  · rintro ⟨l, hl, hne, hh, hk⟩
    obtain ⟨l', h1, h2⟩ := List.mem_flatMap.mp hl
    obtain ⟨c, hc, rfl⟩ := List.mem_map.mp h2
    obtain ⟨hc1, hc2⟩ := List.mem_filter.mp hc
    have e : c = k := by rw [lastD_snoc] at hk; exact hk
    subst e
    have hn := lines_ne r0 rs l' h1
    refine ⟨hc1, l'.getLastD 0, ⟨l', h1, hn, ?_, rfl⟩, by simpa using hc2⟩
    cases l' with
    | nil => exact absurd rfl hn
    | cons a t => exact hh
  · rintro ⟨hk, k', ⟨l, hl, hne, hh, hk'⟩, ne⟩
    refine ⟨l ++ [k], List.mem_flatMap.mpr ⟨l, hl, List.mem_map.mpr ⟨k, List.mem_filter.mpr ⟨hk, ?_⟩, rfl⟩⟩, by simp, ?_, lastD_snoc _ _ _⟩
    · rw [hk']
      simpa using ne
    · cases l with
      | nil => exact absurd rfl hne
      | cons a t => exact hh
theorem rch_main {r0 : List Nat} {h : Nat} (hh : h ∈ r0) (rs : List (List Nat)) : (∀ r ∈ rs, Two r) →
    (∀ k0, forced rs h = some k0 → ∀ k, Rch r0 rs h k ↔ k = k0) ∧ (forced rs h = none → ∀ k, Rch r0 rs h k ↔ k ∈ rs.getLastD []) := by
  refine snoc_ind (P := fun rs => (∀ r ∈ rs, Two r) → (∀ k0, forced rs h = some k0 → ∀ k, Rch r0 rs h k ↔ k = k0) ∧ (forced rs h = none → ∀ k, Rch r0 rs h k ↔ k ∈ rs.getLastD [])) ?_ ?_ rs
  · intro _
    refine ⟨fun k0 e k => ?_, fun e => by cases e⟩
    cases e
    constructor
    · rintro ⟨l, hl, _, h1, h2⟩
      obtain ⟨c, _, rfl⟩ := List.mem_map.mp hl
      have e1 : c = h := h1
      have e2 : c = k := h2
      rw [← e2, e1]
    · rintro rfl
      exact ⟨[k], List.mem_map.mpr ⟨k, hh, rfl⟩, by simp, rfl, rfl⟩
  · intro rs r ih tw
    obtain ⟨i1, i2⟩ := ih fun x hx => tw x (List.mem_append_left _ hx)
    obtain ⟨a, b, rfl, ab⟩ := (tw r (List.mem_append_right _ (List.mem_singleton.mpr rfl))).ex
    obtain ⟨o1, o2⟩ := oth_two ab
    rw [forced_snoc]
    have el : (rs ++ [[a, b]]).getLastD [] = [a, b] := lastD_snoc _ _ _
    rw [el]
    cases f : forced rs h with
    | some k0 =>
      have j := i1 k0 f
      show (∀ k1, (if k0 ∈ [a, b] then some (oth [a, b] k0) else none) = some k1 → ∀ k, Rch r0 (rs ++ [[a, b]]) h k ↔ k = k1) ∧ ((if k0 ∈ [a, b] then some (oth [a, b] k0) else none) = none → ∀ k, Rch r0 (rs ++ [[a, b]]) h k ↔ k ∈ [a, b])
      by_cases c : k0 ∈ [a, b]
      · rw [if_pos c]
        refine ⟨fun k1 e k => ?_, fun e => by cases e⟩
        cases e
        rw [rch_snoc]
        rcases List.mem_cons.mp c with c | c
        · subst c
          rw [o1]
          constructor
          · rintro ⟨hk, k', hk', ne⟩
            rw [(j k').mp hk'] at ne
            rcases List.mem_cons.mp hk with z | z
            · exact absurd z ne
            · exact List.mem_singleton.mp z
          · rintro rfl
            exact ⟨by simp, k0, (j k0).mpr rfl, fun z => ab z.symm⟩
        · have c := List.mem_singleton.mp c
          subst c
          rw [o2]
          constructor
          · rintro ⟨hk, k', hk', ne⟩
            rw [(j k').mp hk'] at ne
            rcases List.mem_cons.mp hk with z | z
            · exact z
            · exact absurd (List.mem_singleton.mp z) ne
          · rintro rfl
            exact ⟨by simp, k0, (j k0).mpr rfl, ab⟩
      · rw [if_neg c]
        refine ⟨fun k1 e => (nomatch e), fun _ k => ?_⟩
        rw [rch_snoc]
        exact ⟨fun z => z.1, fun z => ⟨z, k0, (j k0).mpr rfl, fun e => c (e ▸ z)⟩⟩
    | none =>
      have j := i2 f
      refine ⟨fun k1 e => (nomatch e), fun _ k => ?_⟩
      rw [rch_snoc]
      refine ⟨fun z => z.1, fun z => ⟨z, ?_⟩⟩
      have hne : rs ≠ [] := fun e => by
        subst e
        cases f
      have tl : Two (rs.getLastD []) := by
        rw [List.getLastD_eq_getLast?, List.getLast?_eq_some_getLast hne]
        exact tw _ (List.mem_append_left _ (List.getLast_mem hne))
      obtain ⟨c, d, e2, cd⟩ := tl.ex
      by_cases q : k = c
      · refine ⟨d, (j d).mpr (by rw [e2]; simp), ?_⟩
        rw [q]
        exact cd
      · exact ⟨c, (j c).mpr (by rw [e2]; simp), q⟩
theorem there_iff {r0 : List Nat} {rs : List (List Nat)} {h k : Nat} : (h, k) ∈ (linesOf r0 rs).map (fun l => (l.headD 0, l.getLastD 0)) ↔ Rch r0 rs h k := by
  rw [List.mem_map]
  constructor
  · rintro ⟨l, hl, e⟩
    rw [Prod.mk.injEq] at e
    exact ⟨l, hl, lines_ne _ _ l hl, e.1, e.2⟩
  · rintro ⟨l, hl, _, e1, e2⟩
    exact ⟨l, hl, by rw [e1, e2]⟩
theorem filterMap_flat {α β : Type} (f : α → Option β) (g : α → List β) : ∀ l : List α, (∀ x ∈ l, g x = (f x).toList) → l.filterMap f = l.flatMap g
  | [], _ => rfl
  | a :: r, h => by
    rw [List.flatMap_cons, h a (List.mem_cons_self ..), ← filterMap_flat f g r fun x hx => h x (List.mem_cons_of_mem _ hx), List.filterMap_cons]
    cases f a <;> rfl
/-- the law's pairs are the program's -/
theorem due_barred {r0 : List Nat} {rs : List (List Nat)} (hne : rs ≠ []) (tw : ∀ r ∈ rs, Two r) : dueOf r0 rs (rs.getLastD []) = barredOf r0 rs (rs.getLastD []) := by
  unfold dueOf barredOf
  refine (filterMap_flat _ _ _ fun h hh => ?_).symm
  obtain ⟨i1, i2⟩ := rch_main hh rs tw
  have tl : Two (rs.getLastD []) := by
    rw [List.getLastD_eq_getLast?, List.getLast?_eq_some_getLast hne]
    exact tw _ (List.getLast_mem hne)
  have hin : ∀ k, Rch r0 rs h k → k ∈ rs.getLastD [] := fun k hk => by
    cases f : forced rs h with
    | none => exact (i2 f k).mp hk
    | some k0 =>
      have e : rs = rs.dropLast ++ [rs.getLast hne] := (List.dropLast_concat_getLast hne).symm
      have el : rs.getLastD [] = rs.getLast hne := by rw [List.getLastD_eq_getLast?, List.getLast?_eq_some_getLast hne]; rfl
      rw [el]
      rw [e] at hk
      exact (rch_snoc.mp hk).1
  generalize rs.getLastD [] = last at *
  obtain ⟨a, b, rfl, ab⟩ := tl.ex
  obtain ⟨o1, o2⟩ := oth_two ab
  have fl : ∀ (p : Nat → Bool), ([a, b].filter p).map (fun k => (h, k)) = (if p a then [(h, a)] else []) ++ (if p b then [(h, b)] else []) := fun p => by
    cases pa : p a <;> cases pb : p b <;> simp [List.filter, pa, pb]
  rw [fl]
  cases f : forced rs h with
  | none =>
    have ja := (i2 f a).mpr (by simp)
    have jb := (i2 f b).mpr (by simp)
    rw [if_neg (by simpa using there_iff.mpr ja), if_neg (by simpa using there_iff.mpr jb)]
    rfl
  | some k0 =>
    have k0in := hin k0 ((i1 k0 f k0).mpr rfl)
    have na : ∀ k, ¬ Rch r0 rs h k ↔ k ≠ k0 := fun k => by rw [i1 k0 f k]
    rcases List.mem_cons.mp k0in with c | c
    · subst c
      rw [if_neg (by simpa using there_iff.mpr ((i1 k0 f k0).mpr rfl)), if_pos (by
        rw [decide_eq_true_eq, there_iff]
        exact (na b).mpr fun z => ab z.symm)]
      show [] ++ [(h, b)] = [(h, oth [k0, b] k0)]
      rw [o1]
      rfl
    · have c := List.mem_singleton.mp c
      subst c
      rw [if_pos (by
        rw [decide_eq_true_eq, there_iff]
        exact (na a).mpr ab), if_neg (by simpa using there_iff.mpr ((i1 k0 f k0).mpr rfl))]
      show [(h, a)] ++ [] = [(h, oth [a, k0] k0)]
      rw [o2]
      rfl
abbrev s_other_hue : Stmt := topS 15
theorem sc_other_hue : FnScope ["row", "hue", "one"] ["row", "hue"] (defScope s_other_hue) := ⟨rfl, rfl, rfl, by decide +kernel, rfl, by decide +kernel, by decide +kernel⟩
def spOther : Sp := fun vs H Q _ => ∃ (a : Addr) (l : List Nat) (h : Nat), vs = [.ref a, .int (h : Int)] ∧ H a = some (.lst (nv l)) ∧ l.length ≤ 50000 ∧ (∃ k ∈ l, k ≠ h) ∧ Q (.int (oth l h : Nat)) H
theorem oth_at {l : List Nat} {i v h : Nat} (al : ∀ k ∈ l.take i, k = h) (e : l[i]? = some v) (ne : v ≠ h) : oth l h = v := by
  unfold oth
  have hs : l = l.take i ++ v :: l.drop (i + 1) := by
    obtain ⟨hi, rfl⟩ := List.getElem?_eq_some_iff.mp e
    rw [← List.drop_eq_getElem_cons hi, List.take_append_drop]
  have h1 : (l.take i).find? (fun k => decide (k ≠ h)) = none := by
    rw [List.find?_eq_none]
    intro k hk
    simpa using al k hk
  rw [hs, List.find?_append, h1, List.find?_cons_of_pos (by simpa using ne)]
  rfl
theorem atI_last {α : Type} {xs : List α} {v : α} (h : 0 < xs.length) (e : xs[xs.length - 1]? = some v) : atI xs (-1) = some v := by
  have e2 : ixN xs.length (-1) = some (xs.length - 1) := by
    unfold ixN
    rw [if_neg (by omega), if_pos (by omega)]
    congr 1
    omega
  unfold atI
  rw [e2]
  exact e
section
variable {P : Program} {w : World} {K : PySem.W.Frag} {mg : Str → Option Value} {base : Heap}
theorem c_other_hue (T : Tx mg) (F : DefAt K mg "other_hue" s_other_hue ["row", "hue"]) : Cal P w K mg base CX0 1 "other_hue" spOther := by
  refine F.cal sc_other_hue (fun vs H Q E h => ?_) (fun f cdv A outer s H vs Q E hr h => ?_)
  · obtain ⟨a, l, h, rfl, _⟩ := h
    rfl
  · obtain ⟨a, l, h, rfl, ha, hz, ex, q⟩ := h
    refine ⟨_, (pss_cons (ps_for PassesOwn.never rfl (k_pil K (pv 0)) (pg_name (i := 2) sc_other_hue.nd rfl (Or.inl rfl))
        (pss_one (ps_if (pt_cmpR op_ne (pv 2) (pv 1) (nomark _))
        (pss_one (ps_ret (pv 2))) pss_nil)))
      (pss_one (ps_ret pe_non))), ?_⟩
    walk_at "go"
    refine x_fwL (xs := nv l) (fun i σ' H' => ∃ y2, σ' = [some (.ref a), some (.int (h : Int)), y2] ∧ H' = H ∧ ∀ k ∈ l.take i, k = h) ⟨none, rfl, rfl, by simp⟩ (fun i σ' H' _ ⟨_, _, e, _⟩ => sq_l (e ▸ ha)) ?_ ?_
    · rintro i y _ _ hi ⟨y2, rfl, rfl, al⟩
      obtain ⟨v, rfl, hv⟩ := of_nv hi
      walk_at "go"
      refine x_iten (fun c => ?_) (fun c => ?_)
      · walk_at "go"
        have e := oth_at al hv (show v ≠ h by omega)
        rw [e] at q
        exact q
      · walk_at "go"
        refine ⟨_, rfl, rfl, fun k hk => ?_⟩
        have etk : l.take (i + 1) = l.take i ++ [v] := by rw [List.take_add_one, hv]; rfl
        rw [etk] at hk
        rcases List.mem_append.mp hk with h1 | h1
        · exact al k h1
        · rw [List.mem_singleton.mp h1]
          omega
    · rintro _ _ ⟨y2, rfl, rfl, al⟩
      rw [nv_len, List.take_length] at al
      obtain ⟨k, hk, ne⟩ := ex
      exact absurd (al k hk) ne
end
abbrev s_barred_pairs : Stmt := topS 16
theorem sc_barred_pairs : FnScope ["web", "lists", "way", "place", "pairs", "hue", "held"] ["web", "lists", "way"] (defScope s_barred_pairs) := ⟨rfl, rfl, rfl, by decide +kernel, rfl, by decide +kernel, by decide +kernel⟩
/-- the rows of a way -/
def rowsOf (rss : List (List Nat)) (l : List Nat) : List (List Nat) := l.map fun v => rss.getD v []
def barOf (rss : List (List Nat)) (l : List Nat) : List Tie := barredOf ((rowsOf rss l).headD []) (rowsOf rss l).tail ((rowsOf rss l).getLastD [])
def spBarred (C : Addr) : Sp := fun vs H Q _ => ∃ (x la wa : Addr) (n : Nat) (e : Rel) (vl : List V) (rss : List (List Nat)) (l : List Nat), vs = [.ref x, .ref la, .ref wa] ∧ WebAt C H x n e ∧ n ≤ 100 ∧ H la = some (.lst vl) ∧ RowL H vl rss ∧ (∀ r ∈ rss, Asc r ∧ r.length ≤ 50000) ∧ rss.length = n ∧
  H wa = some (.lst (nv l)) ∧ IsWay n e l ∧ 2 ≤ l.length ∧ (∀ v ∈ l, (rss.getD v []).length = 2) ∧ ∀ D H' vt, H D = none → Same H H' → H' D = some (.lst vt) → TieL H' vt (barOf rss l) → Q (.ref D) H'
theorem way_len {n : Nat} {e : Rel} {l : List Nat} (h : IsWay n e l) : l.length ≤ n := nodup_le h.nd h.lt
theorem filterMap_snoc {α β : Type} (f : α → Option β) (l : List α) (a : α) : (l ++ [a]).filterMap f = l.filterMap f ++ (f a).toList := by
  rw [List.filterMap_append, List.filterMap_cons]
  cases f a <;> rfl
section
variable {P : Program} {w : World} {K : PySem.W.Frag} {mg : Str → Option Value} {base : Heap}
theorem c_barred_pairs {C CL : Addr} (T : Tx mg) (O_Web : Own K mg "Web" C) (F : DefAt K mg "barred_pairs" s_barred_pairs ["web", "lists", "way"]) (m_Web_is_way : Met P w K mg base CX0 3 C "is_way" (spWay C)) (c_check_lists : Cal P w K mg base (L2.CX P w) 4 "check_lists" (spCheck C CL)) (c_other_hue : Cal P w K mg base CX0 1 "other_hue" spOther) : Cal P w K mg base CX0 5 "barred_pairs" (spBarred C) := by
  refine F.cal sc_barred_pairs (fun vs H Q E h => ?_) (fun f cdv A outer s H vs Q E hr h => ?_)
  · obtain ⟨x, la, wa, n, e, vl, rss, l, rfl, _⟩ := h
    rfl
  · obtain ⟨x, la, wa, n, e, vl, rss, l, rfl, w, hn, hla, hR, hok, hrl, hwa, iw, hl2, h2, q⟩ := h
    obtain ⟨dx, d, brs, hx, _⟩ := id w.ex
    have zw := way_len iw
    have zl := hR.len
    refine ⟨_, (pss_cons (ps_if (PW.pt (pw_or (pt_not (pt_val (pe_mth m_Web_is_way O_Web hr (by decide) pass0 (pv 0) (pa_cons (pv 2) pa_nil)))) (pw_or1 (pt_cmpR op_lt (pe_callB (cl_len K) (by rfl) T.z_len PySem.boot_len (pa_cons (pv 2) pa_nil)) pe_int (nomark _)))))
        (pss_one ps_never) pss_nil)
      (pss_cons (ps_expr (pe_cal c_check_lists hr (by decide) rfl passN (pa_cons (pv 0) (pa_cons (pv 1) pa_nil))))
      (pss_cons (ps_for PassesOwn.never rfl (k_pil K (pv 2)) (pg_name (i := 3) sc_barred_pairs.nd rfl (Or.inl rfl))
        (pss_one (ps_if (pt_cmpR op_ne (pe_callB (cl_len K) (by rfl) T.z_len PySem.boot_len (pa_cons (pe_ix (ix_l K) (pv 1) (pv 3) (fun _ _ => rfl)) pa_nil)) pe_int (nomark _))
        (pss_one ps_never) pss_nil)))
      (pss_cons (ps_set (i := 4) sc_barred_pairs.nd rfl (Or.inl rfl) (pe_lst pa_nil))
      (pss_cons (ps_for PassesOwn.never rfl (k_pil K (pe_ix (ix_l K) (pv 1) (pe_ix (ix_l K) (pv 2) pe_int (fun _ _ => rfl)) (fun _ _ => rfl))) (pg_name (i := 5) sc_barred_pairs.nd rfl (Or.inl rfl))
        (pss_cons (ps_set (i := 6) sc_barred_pairs.nd rfl (Or.inl rfl) (pv 5))
      (pss_one (ps_forE PassesOwn.never rfl (k_pil K (pe_slice (k_sll K) (pv 2) (po_some pe_int) po_none)) (pg_name (i := 3) sc_barred_pairs.nd rfl (Or.inl rfl))
        (pss_cons (ps_if (pt_cmpR (k_nin K) (pv 6) (pe_ix (ix_l K) (pv 1) (pv 3) (fun _ _ => rfl)) (by first | exact nomark _ | rfl))
        (pss_one ps_break) pss_nil)
      (pss_one (ps_set (i := 6) sc_barred_pairs.nd rfl (Or.inl rfl) (pe_cal c_other_hue hr (by decide) rfl pass0 (pa_cons (pe_ix (ix_l K) (pv 1) (pv 3) (fun _ _ => rfl)) (pa_cons (pv 6) pa_nil)))))) (pss_one (ps_expr (k_bm K PySem.F.plainAttrs_list PySem.F.slot_list_append PySem.F.type_list_append mt_append (pv 4) (pa_cons (pe_tup (pa_cons (pv 5) (pa_cons (pe_cal c_other_hue hr (by decide) rfl pass0 (pa_cons (pe_ix (ix_l K) (pv 1) (pe_ix (ix_l K) (pv 2) (pe_un un_neg pe_int) (fun _ _ => rfl)) (fun _ _ => rfl)) (pa_cons (pv 6) pa_nil))) pa_nil))) pa_nil))))))))
      (pss_one (ps_ret (pv 4)))))))), ?_⟩
    walk_at "go"
    refine ⟨x, _, _, rfl, hx, fB_no d (by decide), ?_⟩
    walk_at "go"
    refine ⟨x, wa, n, e, l, rfl, w, hn, hwa, by omega, fun b H1 hb s1 => ?_⟩
    have eb : b = true := hb.mpr iw
    rw [eb]
    have hwa1 := s1 _ _ hwa
    have row : ∀ v, v < n → ∃ a, atI vl (v : Int) = some (.ref a) ∧ ∀ H', Same H H' → H' a = some (.lst (nv (rss.getD v []))) := fun v hv => by
      have ev : vl[v]? = some (vl[v]'(by omega)) := List.getElem?_eq_getElem (by omega)
      obtain ⟨r, hr1, a, ea, ha⟩ := A2.get hR ev
      refine ⟨a, atI_nat (by rw [ev, ea]), fun H' s' => ?_⟩
      rw [List.getD_eq_getElem?_getD, hr1]
      exact s' _ _ ha
    have tw : ∀ r ∈ rowsOf rss l, Two r := fun r hr => by
      obtain ⟨v, hv, rfl⟩ := List.mem_map.mp hr
      have vn := iw.lt v hv
      have er : rss[v]? = some (rss[v]'(by omega)) := List.getElem?_eq_getElem (by omega)
      have e2 : rss.getD v [] = rss[v]'(by omega) := by rw [List.getD_eq_getElem?_getD, er]; rfl
      refine ⟨?_, h2 v hv⟩
      rw [e2]
      exact nodup_of_lt (hok _ (List.mem_of_getElem? er)).1
    walk_at "go"
    refine x_ite (fun c => absurd c (by rw [nv_len]; omega)) (fun _ => ?_)
    walk_at "go"
    refine ⟨x, la, n, e, vl, rss, rfl, w.same s1, hn, s1 _ _ hla, hR.same s1, hok, by omega, .inl ⟨hrl, fun H2 s2 => ?_⟩⟩
    have s02 := s1.trans s2
    have hwa2 := s02 _ _ hwa
    have hla2 := s02 _ _ hla
    walk_at "go"
    refine x_fwL (xs := nv l) (fun i σ' H' => ∃ y3, σ' = [some (.ref x), some (.ref la), some (.ref wa), y3, none, none, none] ∧ H' = H2) ⟨none, rfl, rfl⟩ (fun i σ' H' _ ⟨_, _, e⟩ => sq_l (e ▸ hwa2)) ?_ ?_
    · rintro i y _ _ hi ⟨y3, rfl, rfl⟩
      obtain ⟨v, rfl, hv⟩ := of_nv hi
      have hvm := List.mem_of_getElem? hv
      obtain ⟨a, ga, ha⟩ := row v (iw.lt v hvm)
      have ha2 := ha _ s02
      walk_at "go"
      rw [nv_len, h2 v hvm]
      walk_at "go"
      exact ⟨_, rfl, rfl⟩
    rintro _ H2 ⟨y3, rfl, rfl⟩
    walk_at "go"
    refine x_sz (by decide) fun D hD => ?_
    obtain ⟨w0, wt, rfl⟩ : ∃ w0 wt, l = w0 :: wt := by
      cases l with
      | nil => exact absurd rfl iw.ne
      | cons a b => exact ⟨a, b, rfl⟩
    obtain ⟨a0, ga0, ha0⟩ := row w0 (iw.lt w0 (List.mem_cons_self ..))
    have g0 : atI (nv (w0 :: wt)) 0 = some (.int (w0 : Int)) := by
      have := atI_nat (nv_at (l := w0 :: wt) (i := 0) (v := w0) rfl)
      exact this
    have D0 : H D = none := s02.free hD
    have s3 := s02.trans (same_new (o := .lst []) hD)
    have hwa3 := s3 _ _ hwa
    have hla3 := s3 _ _ hla
    have ha03 := ha0 _ s3
    have hD3 : (upd H2 D (.lst [])) D = some (.lst []) := upd_same
    generalize upd H2 D (.lst []) = H3 at *
    walk_at "go"
    refine x_fwL (xs := nv (rss.getD w0 [])) (fun i σ' H' => ∃ y3 y5 y6 vt, σ' = [some (.ref x), some (.ref la), some (.ref wa), y3, some (.ref D), y5, y6] ∧ Same H H' ∧ H' D = some (.lst vt) ∧ TieL H' vt (((rss.getD w0 []).take i).filterMap fun h => (forced (rowsOf rss wt) h).map fun k => (h, oth ((rowsOf rss (w0 :: wt)).getLastD []) k)))
      ⟨y3, none, none, [], rfl, s3, hD3, .nil⟩ (fun i σ' H' _ ⟨_, _, _, _, _, s, _⟩ => sq_l (ha0 _ s)) ?_ ?_
    · rintro i y _ H4 hi ⟨y3, y5, y6, vt, rfl, s4, hD4, hT4⟩
      obtain ⟨hh, rfl, hv⟩ := of_nv hi
      have etk : (rss.getD w0 []).take (i + 1) = (rss.getD w0 []).take i ++ [hh] := by rw [List.take_add_one, hv]; rfl
      have hwa4 := s4 _ _ hwa
      rw [etk, filterMap_snoc]
      have zt := hT4.len
      have zt2 := List.length_filterMap_le (fun h => (forced (rowsOf rss wt) h).map fun k => (h, oth ((rowsOf rss (w0 :: wt)).getLastD []) k)) ((rss.getD w0 []).take i)
      have z2 := h2 w0 (List.mem_cons_self ..)
      have zi := (List.getElem?_eq_some_iff.mp hv).1
      rw [List.length_take] at zt2
      generalize ((rss.getD w0 []).take i).filterMap (fun h => (forced (rowsOf rss wt) h).map fun k => (h, oth ((rowsOf rss (w0 :: wt)).getLastD []) k)) = ps at *
      walk_at "go"
      refine x_forE ?_
      walk_at "go"
      refine x_sl ?_
      walk_at "go"
      refine x_part ?_
      walk_at "go"
      refine x_noPart ?_
      refine x_slFrom (k := 1) hwa4 fun z hz => ?_
      rw [nv_drop, show (w0 :: wt).drop 1 = wt from rfl]
      have hz5 : (upd H4 z (.lst (nv wt))) z = some (.lst (nv wt)) := upd_same
      have s5 := s4.trans (same_new (o := .lst (nv wt)) hz)
      have hD5 := new_at (o := .lst (nv wt)) hz hD4
      have hT5 := hT4.same (same_new (o := .lst (nv wt)) hz)
      generalize upd H4 z (.lst (nv wt)) = H5 at *
      have hla5 := s5 _ _ hla
      have hwa5 := s5 _ _ hwa
      walk_at "go"
      refine x_feL (xs := nv wt) (fun j σ' H' => ∃ y3, ∃ held : Nat, σ' = [some (.ref x), some (.ref la), some (.ref wa), y3, some (.ref D), some (.int (hh : Int)), some (.int (held : Int))] ∧ H' = H5 ∧ forced (rowsOf rss wt) hh = forced (rowsOf rss (wt.drop j)) held)
        ⟨y3, hh, rfl, rfl, rfl⟩ (fun j σ' H' ⟨_, _, _, e, _⟩ => sq_l (e ▸ hz5)) ?_ ?_
      · rintro j y _ _ hj ⟨y3, held, rfl, rfl, ef⟩
        obtain ⟨v, rfl, hv2⟩ := of_nv hj
        have hvm : v ∈ w0 :: wt := List.mem_cons_of_mem _ (List.mem_of_getElem? hv2)
        obtain ⟨a, ga, ha⟩ := row v (iw.lt v hvm)
        have ha5 := ha _ s5
        have tv := tw _ (List.mem_map.mpr ⟨v, hvm, rfl⟩)
        have ed : wt.drop j = v :: wt.drop (j + 1) := by
          obtain ⟨hi, rfl⟩ := List.getElem?_eq_some_iff.mp hv2
          exact List.drop_eq_getElem_cons hi
        have ef2 : forced (rowsOf rss wt) hh = if held ∈ rss.getD v [] then forced (rowsOf rss (wt.drop (j + 1))) (oth (rss.getD v []) held) else none := by
          rw [ef, ed]
          rfl
        walk_at "go"
        refine x_ninN ha5 ?_
        walk_at "go"
        refine x_iten (fun c => ?_) (fun c => ?_)
        · rw [if_neg c] at ef2
          walk_at "go"
          refine ⟨_, _, _, vt, rfl, s5, hD5, ?_⟩
          rw [ef2]
          show TieL _ vt (ps ++ [])
          rw [List.append_nil]
          exact hT5
        · rw [if_pos c] at ef2
          walk_at "go"
          refine ⟨a, _, held, rfl, ha5, by rw [tv.len]; omega, ?_, ?_⟩
          · obtain ⟨p1, p2, e12, ne⟩ := tv.ex
            rw [e12]
            by_cases q1 : p1 = held
            · exact ⟨p2, by simp, fun z => ne (by rw [q1, z])⟩
            · exact ⟨p1, by simp, q1⟩
          · walk_at "go"
            exact ⟨_, _, rfl, rfl, ef2⟩
      · rintro _ _ ⟨y3, held, rfl, rfl, ef⟩
        rw [nv_len, List.drop_length] at ef
        have ef : forced (rowsOf rss wt) hh = some held := ef
        rw [ef]
        show tDrop _ _ _ _
        obtain ⟨wl, ewl, hwl⟩ : ∃ wl, (w0 :: wt)[(w0 :: wt).length - 1]? = some wl ∧ wl ∈ w0 :: wt := by
          have z : (w0 :: wt).length - 1 < (w0 :: wt).length := by
            rw [List.length_cons]
            omega
          exact ⟨_, List.getElem?_eq_getElem z, List.getElem_mem z⟩
        have ela : (rowsOf rss (w0 :: wt)).getLastD [] = rss.getD wl [] := by
          unfold rowsOf
          rw [List.getLastD_eq_getLast?, List.getLast?_map, List.getLast?_eq_getElem?, ewl]
          rfl
        rw [ela] at *
        obtain ⟨a, ga, ha⟩ := row wl (iw.lt wl hwl)
        have ha5 := ha _ s5
        have tv := tw _ (List.mem_map.mpr ⟨wl, hwl, rfl⟩)
        have gl : atI (nv (w0 :: wt)) (-1) = some (.int (wl : Int)) := atI_last (by rw [nv_len, List.length_cons]; omega) (by rw [nv_len]; exact nv_at ewl)
        walk_at "go"
        refine ⟨a, _, held, rfl, ha5, by rw [tv.len]; omega, ?_, ?_⟩
        · obtain ⟨p1, p2, e12, ne⟩ := tv.ex
          rw [e12]
          by_cases q1 : p1 = held
          · exact ⟨p2, by simp, fun z => ne (by rw [q1, z])⟩
          · exact ⟨p1, by simp, q1⟩
        walk_at "go"
        refine x_sz (by show 2 ≤ 100000; decide) fun t ht => ?_
        have hD6 := new_at (o := .tup [.int (hh : Int), .int (oth (rss.getD wl []) held : Nat)]) ht hD5
        have zv : vt.length < 100000 := by omega
        walk_at "go"
        refine ⟨_, _, _, _, rfl, same_mut (s5.trans (same_new ht)) D0, upd_same, ?_⟩
        exact ((hT5.same (same_new ht)).upd hD6).snoc ⟨t, rfl, upd_at (ne_of_none hD5 ht).symm upd_same⟩
    · rintro _ H4 ⟨y3, y5, y6, vt, rfl, s4, hD4, hT4⟩
      rw [nv_len, List.take_length] at hT4
      walk_at "go"
      exact q D H4 vt D0 s4 hD4 hT4
end
/-! ### the ties of a way -/
def tieAt (l : List Nat) (k : Nat) : Tie := (min (l.getD k 0) (l.getD (k + 1) 0), max (l.getD k 0) (l.getD (k + 1) 0))
def wayTies (l : List Nat) (m : Nat) : List Tie := (List.range m).map (tieAt l)
theorem getD_inj {l : List Nat} (nd : l.Nodup) {i j : Nat} (hi : i < l.length) (hj : j < l.length) (h : l.getD i 0 = l.getD j 0) : i = j := by
  have e1 : l.getD i 0 = l[i] := by rw [List.getD_eq_getElem?_getD, List.getElem?_eq_getElem hi]; rfl
  have e2 : l.getD j 0 = l[j] := by rw [List.getD_eq_getElem?_getD, List.getElem?_eq_getElem hj]; rfl
  rw [e1, e2] at h
  exact (List.getElem_inj nd).mp h
theorem getD_mem {l : List Nat} {i : Nat} (hi : i < l.length) : l.getD i 0 ∈ l := by
  have e1 : l.getD i 0 = l[i] := by rw [List.getD_eq_getElem?_getD, List.getElem?_eq_getElem hi]; rfl
  rw [e1]
  exact List.getElem_mem hi
theorem wayTies_ok {n : Nat} {l : List Nat} (nd : l.Nodup) (lt : ∀ v ∈ l, v < n) : TOk n (wayTies l (l.length - 1)) := by
  refine ⟨?_, fun p hp => ?_⟩
  · unfold wayTies List.Nodup
    rw [List.pairwise_map]
    refine List.Pairwise.imp_of_mem ?_ List.pairwise_lt_range
    intro i j hi hj hij e
    rw [List.mem_range] at hi hj
    unfold tieAt at e
    rw [Prod.mk.injEq] at e
    have a1 := fun h => getD_inj nd (i := i) (j := j) (by omega) (by omega) h
    have a2 := fun h => getD_inj nd (i := i) (j := j + 1) (by omega) (by omega) h
    omega
  · obtain ⟨k, hk, rfl⟩ := List.mem_map.mp hp
    rw [List.mem_range] at hk
    have a1 := fun h => getD_inj nd (i := k) (j := k + 1) (by omega) (by omega) h
    have b1 := lt _ (getD_mem (l := l) (i := k) (by omega))
    have b2 := lt _ (getD_mem (l := l) (i := k + 1) (by omega))
    unfold tieAt
    simp only
    omega
theorem way_of {n : Nat} {l : List Nat} {ps : List Tie} (nd : l.Nodup) (lt : ∀ v ∈ l, v < n) (ne : l ≠ []) (h : ∀ k, k < l.length - 1 → tieAt l k ∈ ps) : IsWay n (eOf ps) l := by
  refine ⟨ne, lt, nd, fun i a b ea eb => ?_⟩
  have hb := (List.getElem?_eq_some_iff.mp eb).1
  have q := h i (by omega)
  unfold tieAt at q
  have e1 : l.getD i 0 = a := by rw [List.getD_eq_getElem?_getD, ea]; rfl
  have e2 : l.getD (i + 1) 0 = b := by rw [List.getD_eq_getElem?_getD, eb]; rfl
  rw [e1, e2] at q
  rw [eOf_iff]
  by_cases c : a ≤ b
  · rw [Nat.min_eq_left c, Nat.max_eq_right c] at q
    exact .inl q
  · rw [Nat.min_eq_right (by omega), Nat.max_eq_left (by omega)] at q
    exact .inr q
/-- two pairs exactly if all lists are the same -/
theorem forced_both {rs : List (List Nat)} : ∀ {a b : Nat}, a < b → (∀ r ∈ rs, Two r) → (∀ r ∈ rs, r.Pairwise (· < ·)) → (((forced rs a).isSome = true ∧ (forced rs b).isSome = true) ↔ ∀ r ∈ rs, r = [a, b]) := by
  induction rs with
  | nil => intro a b _ _ _; exact ⟨fun _ r h => (nomatch h), fun _ => ⟨rfl, rfl⟩⟩
  | cons r rs ih =>
    intro a b ab tw asc
    obtain ⟨c, d, rfl, cd⟩ := (tw r (List.mem_cons_self ..)).ex
    have hcd : c < d := by
      have := asc _ (List.mem_cons_self ..)
      simpa using this
    obtain ⟨o1, o2⟩ := oth_two cd
    have ih' := ih ab (fun x hx => tw x (List.mem_cons_of_mem _ hx)) (fun x hx => asc x (List.mem_cons_of_mem _ hx))
    show (((if a ∈ [c, d] then forced rs (oth [c, d] a) else none).isSome = true ∧ (if b ∈ [c, d] then forced rs (oth [c, d] b) else none).isSome = true)) ↔ _
    rw [List.forall_mem_cons]
    constructor
    · rintro ⟨h1, h2⟩
      have ha : a ∈ [c, d] := by
        by_cases q : a ∈ [c, d]
        · exact q
        · rw [if_neg q] at h1; cases h1
      have hb : b ∈ [c, d] := by
        by_cases q : b ∈ [c, d]
        · exact q
        · rw [if_neg q] at h2; cases h2
      rw [if_pos ha] at h1
      rw [if_pos hb] at h2
      simp only [List.mem_cons, List.not_mem_nil, or_false] at ha hb
      have ea : a = c := by omega
      have eb : b = d := by omega
      subst ea eb
      rw [o1] at h1
      rw [o2] at h2
      exact ⟨rfl, ih'.mp ⟨h2, h1⟩⟩
    · rintro ⟨e, h⟩
      obtain ⟨h1, h2⟩ := ih'.mpr h
      cases e
      rw [if_pos (by simp), if_pos (by simp), o1, o2]
      exact ⟨h2, h1⟩
theorem bar_len {r0 : List Nat} {rs : List (List Nat)} {last : List Nat} (t0 : Two r0) (a0 : r0.Pairwise (· < ·)) (tw : ∀ r ∈ rs, Two r) (asc : ∀ r ∈ rs, r.Pairwise (· < ·)) :
    ((barredOf r0 rs last).length = 2 ↔ ∀ r ∈ rs, r = r0) ∧ (barredOf r0 rs last).length ≤ 2 := by
  obtain ⟨a, b, rfl, ab⟩ := t0.ex
  have hab : a < b := by simpa using a0
  have fb := forced_both hab tw asc
  unfold barredOf
  rw [List.filterMap_cons, List.filterMap_cons, List.filterMap_nil]
  cases fa : forced rs a <;> cases fbb : forced rs b <;> rw [fa, fbb] at fb <;> simp at fb ⊢ <;> try exact fb
abbrev s_l_way_web : Stmt := topS 27
theorem sc_l_way_web : FnScope ["urn", "most", "places", "way", "ties", "k", "v", "tie"] ["urn", "most"] (defScope s_l_way_web) := ⟨rfl, rfl, rfl, by decide +kernel, rfl, by decide +kernel, by decide +kernel⟩
def spWayWeb : Sp := fun vs H Q _ => ∃ (u : Addr) (mo n : Nat), vs = [.ref u, .int (mo : Int)] ∧ 2 ≤ mo ∧ mo ≤ 40 ∧ UrnZ H u (n + 1000) ∧
  ∀ r H' (N : Nat) t wa vt ps l, H r = none → H t = none → H wa = none → t ≠ wa → Keep u H H' → UrnZ H' u n → H' r = some (.tup [.int (N : Int), .ref t, .ref wa]) → H' t = some (.lst vt) → TieL H' vt ps → TOk N ps → ps.Pairwise ltT → H' wa = some (.lst (nv l)) → IsWay N (eOf ps) l → 2 ≤ l.length → N ≤ mo → ps.length ≤ 100 → Q (.ref r) H'
section
variable {P : Program} {w : World} {K : PySem.W.Frag} {mg : Str → Option Value} {base : Heap}
theorem c_l_way_web (T : Tx mg) (F : DefAt K mg "_law_way_web" s_l_way_web ["urn", "most"]) (c_l_pick : Cal P w K mg base CX0 1 "_law_pick" spPick) (c_l_shuffled : Cal P w K mg base CX0 2 "_law_shuffled" spShuf) : Cal P w K mg base CX0 3 "_law_way_web" spWayWeb := by
  refine F.cal sc_l_way_web (fun vs H Q E h => ?_) (fun f cdv A outer s H vs Q E hr h => ?_)
  · obtain ⟨u, mo, n, rfl, _⟩ := h
    rfl
  · obtain ⟨u, mo, n, rfl, hmo2, hmo, hu, q⟩ := h
    refine ⟨_, (pss_cons (ps_set (i := 2) sc_l_way_web.nd rfl (Or.inl rfl) (pe_op op_add pe_int (pe_cal c_l_pick hr (by decide) rfl pass0 (pa_cons (pv 0) (pa_cons (pe_op op_sub (pv 1) pe_int) pa_nil)))))
      (pss_cons (ps_set (i := 3) sc_l_way_web.nd rfl (Or.inr rfl) (pe_slice (k_sll K) (pe_cal c_l_shuffled hr (by decide) rfl pass0 (pa_cons (pv 0) (pa_cons (pe_listRg rfl rfl T.z_list (prg_1 rfl T.z_range (pv 2))) pa_nil))) po_none (po_some (pe_op op_add pe_int (pe_cal c_l_pick hr (by decide) rfl pass0 (pa_cons (pv 0) (pa_cons (pe_op op_sub (pv 2) pe_int) pa_nil)))))))
      (pss_cons (ps_setLc (i := 4) (own := [("k", 5)]) (g := gName 5) rfl sc_l_way_web.nd rfl rfl (sw_true rfl rfl rfl (by decide +kernel)) (pi_range1 rfl T.z_range (pa_cons (pe_op op_sub (pe_callB (cl_len K) (by rfl) T.z_len PySem.boot_len (pa_cons (pv 3) pa_nil)) pe_int) pa_nil)) (blkOk_by (own := [("k", 5)]) (N := ["urn", "most", "places", "way", "ties", "k", "v", "tie"]) (sc := defScope s_l_way_web) (by decide +kernel)) (fun _ _ _ _ _ => (pg_name (i := 5) sc_l_way_web.nd rfl (Or.inl rfl))) (fun _ _ _ _ _ => pts_nil) (fun _ _ _ _ _ => (pe_tup (pa_cons (pe_callB (cl_min2 rfl) (by rfl) T.z_min (by decide +kernel) (pa_cons (pe_ix (ix_l K) (pv 3) (pv 5) (fun _ _ => rfl)) (pa_cons (pe_ix (ix_l K) (pv 3) (pe_op op_add (pv 5) pe_int) (fun _ _ => rfl)) pa_nil))) (pa_cons (pe_callB (cl_max2 rfl) (by rfl) T.z_max (by decide +kernel) (pa_cons (pe_ix (ix_l K) (pv 3) (pv 5) (fun _ _ => rfl)) (pa_cons (pe_ix (ix_l K) (pv 3) (pe_op op_add (pv 5) pe_int) (fun _ _ => rfl)) pa_nil))) pa_nil)))))
      (pss_cons (ps_for PassesOwn.never rfl (pi_range1 rfl T.z_range (pa_cons (pe_cal c_l_pick hr (by decide) rfl pass0 (pa_cons (pv 0) (pa_cons pe_int pa_nil))) pa_nil)) (pg_name (i := 5) sc_l_way_web.nd rfl (Or.inl rfl))
        (pss_cons (ps_set (i := 6) sc_l_way_web.nd rfl (Or.inl rfl) (pe_op op_add pe_int (pe_cal c_l_pick hr (by decide) rfl pass0 (pa_cons (pv 0) (pa_cons (pe_op op_sub (pv 2) pe_int) pa_nil)))))
      (pss_cons (ps_set (i := 7) sc_l_way_web.nd rfl (Or.inl rfl) (pe_tup (pa_cons (pe_cal c_l_pick hr (by decide) rfl pass0 (pa_cons (pv 0) (pa_cons (pv 6) pa_nil))) (pa_cons (pv 6) pa_nil))))
      (pss_one (ps_if (pt_cmpR (k_ninD K (hu65 hr)) (pv 7) (pv 4) (by first | exact nomark _ | rfl))
        (pss_one (ps_expr (k_bm K PySem.F.plainAttrs_list PySem.F.slot_list_append PySem.F.type_list_append mt_append (pv 4) (pa_cons (pv 7) pa_nil)))) pss_nil)))))
      (pss_one (ps_ret (pe_tup (pa_cons (pv 2) (pa_cons (pe_callB (cl_sortedPO K) (by rfl) T.z_sorted (by decide +kernel) (pa_cons (pv 4) pa_nil)) (pa_cons (pv 3) pa_nil)))))))))), ?_⟩
    walk_at "go"
    refine x_pick (n + 999) (by omega) (by omega) hu fun N0 H1 a0 a1 k1 u1 => ?_
    obtain ⟨N0, rfl⟩ := Int.eq_ofNat_of_zero_le a0
    have eN : (2 : Int) + (N0 : Int) = ((2 + N0 : Nat) : Int) := by omega
    have hN : 2 + N0 ≤ mo := by omega
    have hN2 : 2 ≤ 2 + N0 := by omega
    generalize 2 + N0 = N at *
    walk_at "go"
    rw [eN]
    refine x_sl ?_
    walk_at "go"
    intro o ho
    rw [rg_nv]
    have uo : u ≠ o := u1.ne ho
    walk_at "go"
    refine ⟨u, o, nv (List.range N), n + 900, rfl, upd_same, uo.symm, by rw [nv_len, List.length_range]; omega, (u1.upd uo).mono (by rw [nv_len, List.length_range]; omega), fun p H3 ys hp k3 u3 hp3 pm => ?_⟩
    obtain ⟨os, pm2, rfl⟩ := perm_nv pm
    have k03 := (keep_new (o := .lst (nv (List.range N))) k1 ho).trans k3
    have pu : p ≠ u := by
      have := (u1.upd (o := .lst (nv (List.range N))) uo).ne hp
      exact this.symm
    walk_at "go"
    refine x_noPart ?_
    refine x_part ?_
    walk_at "go"
    refine x_pick (n + 899) (by omega) (by omega) u3 fun wl H4 wl0 wl1 k4 u4 => ?_
    obtain ⟨wl, rfl⟩ := Int.eq_ofNat_of_zero_le wl0
    have ewl : (2 : Int) + (wl : Int) = ((2 + wl : Nat) : Int) := by omega
    walk_at "go"
    rw [ewl]
    have hp4 := k4.at hp3 pu
    refine x_slTake' hp4 fun z hz => ?_
    rw [nv_take]
    have k04 := k03.trans k4
    have zu : z ≠ u := (u4.ne hz).symm
    have k5 := keep_new (o := .lst (nv (os.take (2 + wl)))) k04 hz
    have u5 := u4.upd (o := .lst (nv (os.take (2 + wl)))) zu.symm
    have hz5 : (upd H4 z (.lst (nv (os.take (2 + wl))))) z = some (.lst (nv (os.take (2 + wl)))) := upd_same
    have z0 : H z = none := k04.free u4 hz
    generalize upd H4 z (.lst (nv (os.take (2 + wl)))) = H5 at *
    have ll : (os.take (2 + wl)).length = 2 + wl := by
      rw [List.length_take, pm2.length_eq, List.length_range]
      omega
    have lnd : (os.take (2 + wl)).Nodup := (pm2.nodup_iff.mpr List.nodup_range).sublist (List.take_sublist _ _)
    have llt : ∀ v ∈ os.take (2 + wl), v < N := fun v hv => List.mem_range.mp (pm2.mem_iff.mp (List.mem_of_mem_take hv))
    generalize os.take (2 + wl) = l at *
    walk_at "go"
    rw [nv_len, ll, show ((2 + wl : Nat) : Int) - 1 = ((1 + wl : Nat) : Int) by omega]
    walk_at "go"
    intro D hD
    have zD : z ≠ D := ne_of_none hz5 hD
    have uD : u ≠ D := u5.ne hD
    have D0 : H D = none := k5.free u5 hD
    refine x_lwR0 (fun i H6 => ∃ vs, Same H5 H6 ∧ H6 D = some (.lst vs) ∧ TieL H6 vs (wayTies l i) ∧ vs.length = i) ⟨[], same_new hD, upd_same, .nil, rfl⟩ ?_ ?_
    · rintro i H6 hi ⟨vs, s6, hD6, hT6, hz6⟩
      have hz66 := s6 _ _ hz5
      have g1 : atI (nv l) (i : Int) = some (.int (l.getD i 0 : Nat)) := by
        refine atI_nat (nv_at ?_)
        rw [List.getD_eq_getElem?_getD, List.getElem?_eq_getElem (by omega)]
        rfl
      have g2 : atI (nv l) ((i : Int) + 1) = some (.int (l.getD (i + 1) 0 : Nat)) := by
        rw [show (i : Int) + 1 = ((i + 1 : Nat) : Int) by omega]
        refine atI_nat (nv_at ?_)
        rw [List.getD_eq_getElem?_getD, List.getElem?_eq_getElem (by omega)]
        rfl
      walk_at "go"
      refine x_sz (by show 2 ≤ 100000; decide) fun t ht => ?_
      have ea : (if (l.getD (i + 1) 0 : Int) < (l.getD i 0 : Int) then (l.getD (i + 1) 0 : Int) else (l.getD i 0 : Int)) = ((tieAt l i).1 : Nat) := by
        unfold tieAt
        split <;> simp only <;> omega
      have eb : (if (l.getD (i + 1) 0 : Int) > (l.getD i 0 : Int) then (l.getD (i + 1) 0 : Int) else (l.getD i 0 : Int)) = ((tieAt l i).2 : Nat) := by
        unfold tieAt
        split <;> simp only <;> omega
      rw [ea, eb]
      have tD : t ≠ D := (ne_of_none hD6 ht).symm
      refine ⟨_, new_at ht hD6, sz_lt (by omega), vs ++ [.ref t], same_mut (s6.trans (same_new ht)) hD, upd_same, ?_, by rw [List.length_append]; show vs.length + 1 = _; omega⟩
      have ew : wayTies l (i + 1) = wayTies l i ++ [tieAt l i] := by
        unfold wayTies
        rw [List.range_succ, List.map_append]
        rfl
      rw [ew]
      exact ((hT6.same (same_new ht)).upd (new_at ht hD6)).snoc ⟨t, rfl, upd_at tD upd_same⟩
    rintro H6 ⟨vs, s6, hD6, hT6, hz6⟩
    rw [show ((1 + wl : Nat) : Int).toNat = 1 + wl by omega] at hT6
    have tok0 := wayTies_ok lnd llt
    rw [ll, show 2 + wl - 1 = 1 + wl by omega] at tok0
    have k6 := k5.same s6
    have u6 := u5.same s6
    have hz66 := s6 _ _ hz5
    have zlen : (wayTies l (1 + wl)).length = 1 + wl := by unfold wayTies; rw [List.length_map, List.length_range]
    walk_at "go"
    refine x_pick (n + 898) (by omega) (by omega) (u6.mono (by omega)) fun rr H7 rr0 rr1 k7 u7 => ?_
    obtain ⟨rr, rfl⟩ := Int.eq_ofNat_of_zero_le rr0
    obtain ⟨us6, hus6⟩ := u6.some
    walk_at "go"
    refine x_fwR0 (fun i σ' H' => ∃ y5 y6 y7 vs ps, σ' = [some (.ref u), some (.int (mo : Int)), some (.int (N : Int)), some (.ref z), some (.ref D), y5, y6, y7] ∧ Keep u H H' ∧ UrnZ H' u (n + 898 - 2 * i) ∧ H' z = some (.lst (nv l)) ∧ H' D = some (.lst vs) ∧ TieL H' vs ps ∧ TOk N ps ∧ (∀ p ∈ wayTies l (1 + wl), p ∈ ps) ∧ ps.length ≤ 41 + i)
      ⟨_, none, none, vs, _, rfl, k6.trans k7, u7.mono (by omega), k7.at hz66 zu, k7.at hD6 uD.symm, hT6.keep k7 hus6, tok0, fun p hp => hp, by omega⟩ ?_ ?_
    · rintro i _ H8 hi ⟨y5, y6, y7, vs, ps, rfl, k8, u8, hz8, hD8, hT8, tok, sub, hl8⟩
      walk_at "go"
      refine x_pick (n + 898 - 2 * i - 1) (by omega) (by omega) (u8.mono (by omega)) fun v0 H9 v00 v01 k9 u9 => ?_
      obtain ⟨v0, rfl⟩ := Int.eq_ofNat_of_zero_le v00
      have ev : (1 : Int) + (v0 : Int) = ((1 + v0 : Nat) : Int) := by omega
      have hv : 1 + v0 < N := by omega
      have hv0 : 0 < 1 + v0 := by omega
      generalize 1 + v0 = v at *
      obtain ⟨us8, hus8⟩ := u8.some
      walk_at "go"
      rw [ev]
      walk_at "go"
      refine x_pick (n + 898 - 2 * i - 2) (by omega) (by omega) (u9.mono (by omega)) fun a Ha a0 a1 ka ua => ?_
      obtain ⟨a, rfl⟩ := Int.eq_ofNat_of_zero_le a0
      obtain ⟨us9, hus9⟩ := u9.some
      have k8a := k9.trans ka
      have hza := k8a.at hz8 zu
      have hDa := k8a.at hD8 uD.symm
      have hTa := hT8.keep k8a hus8
      have k0a := k8.trans k8a
      walk_at "go"
      refine x_sz (by show 2 ≤ 100000; decide) fun t ht => ?_
      have hvt : TieV (upd Ha t (.tup [.int (a : Int), .int (v : Int)])) (.ref t) (a, v) := ⟨t, rfl, upd_same⟩
      have hDb := new_at (o := .tup [.int (a : Int), .int (v : Int)]) ht hDa
      have hTb := hTa.same (same_new (o := .tup [.int (a : Int), .int (v : Int)]) ht)
      have zv : vs.length < 100000 := by rw [hTa.len]; omega
      walk_at "go"
      refine x_ninT hvt hDb hTb ?_
      walk_at "go"
      refine x_iten (fun c => ?_) (fun c => ?_)
      · walk_at "go"
        refine ⟨_, _, _, _, ps ++ [(a, v)], rfl, keep_mut (keep_new k0a ht) D0, ((ua.upd (ua.ne ht)).upd uD).mono (by omega), upd_at zD (new_at ht hza), upd_same, (hTb.upd hDb).snoc (hvt.keep (keep_self (Keep.refl _)) hDb), ⟨?_, ?_⟩, fun p hp => List.mem_append_left _ (sub p hp), by rw [List.length_append]; show ps.length + 1 ≤ _; omega⟩
        · exact List.nodup_append.mpr ⟨tok.nd, by simp, fun x hx y hy => by rw [List.mem_singleton.mp hy]; exact fun z => c (z ▸ hx)⟩
        · intro q hq
          rcases List.mem_append.mp hq with h | h
          · exact tok.ok q h
          · rw [List.mem_singleton.mp h]
            show a < v ∧ v < N
            omega
      · walk_at "go"
        exact ⟨_, _, _, vs, ps, rfl, keep_new k0a ht, (ua.upd (ua.ne ht)).mono (by omega), new_at ht hza, hDb, hTb, tok, sub, by omega⟩
    · rintro _ H8 ⟨y5, y6, y7, vs, ps, rfl, k8, u8, hz8, hD8, hT8, tok, sub, hl8⟩
      walk_at "go"
      refine x_sortedT hD8 hT8 tok.nd fun ys rs p pm3 hys srt hp => ?_
      have zp : z ≠ p := ne_of_none hz8 hp
      have hz9 := new_at (o := .lst ys) hp hz8
      have p0 : H p = none := k8.free u8 hp
      walk_at "go"
      refine x_sz (by show 3 ≤ 100000; decide) fun r hr => ?_
      have hpr : p ≠ r := ne_of_none upd_same hr
      have r8 : H8 r = none := by
        rw [upd_ne hpr.symm] at hr
        exact hr
      refine q r _ N p z ys rs l (k8.free u8 r8) p0 z0 zp.symm (keep_new (keep_new k8 hp) hr) (((u8.upd (u8.ne hp)).upd (u8.ne r8)).mono (by omega)) upd_same (new_at hr upd_same) ((hys.same (same_new hp)).same (same_new hr)) (tok.perm pm3) srt (new_at hr hz9) ?_ (by omega) hN ?_
      · rw [eOf_perm pm3]
        refine way_of lnd llt (fun e => by rw [e] at ll; simp at ll; omega) fun k hk => sub _ ?_
        unfold wayTies
        exact List.mem_map.mpr ⟨k, List.mem_range.mpr (by omega), rfl⟩
      · rw [pm3.length_eq]
        omega
end
abbrev s_l_way_lists : Stmt := topS 28
theorem sc_l_way_lists : FnScope ["urn", "places", "way", "pool", "few", "alike", "rows", "k", "place"] ["urn", "places", "way"] (defScope s_l_way_lists) := ⟨rfl, rfl, rfl, by decide +kernel, rfl, by decide +kernel, by decide +kernel⟩
def spWayLists : Sp := fun vs H Q _ => ∃ (u wa : Addr) (m n : Nat) (l : List Nat), vs = [.ref u, .int (m : Int), .ref wa] ∧ m ≤ 40 ∧ H wa = some (.lst (nv l)) ∧ wa ≠ u ∧ l.Nodup ∧ (∀ v ∈ l, v < m) ∧ UrnZ H u (n + 3000) ∧
  ∀ D H' vl rss, H D = none → Keep u H H' → UrnZ H' u n → H' D = some (.lst vl) → RowsU u D H' vl rss → rss.length = m → (∀ r ∈ rss, Asc r ∧ r.length ≤ 5) → (∀ v ∈ l, (rss.getD v []).length = 2) → Q (.ref D) H'
section
variable {P : Program} {w : World} {K : PySem.W.Frag} {mg : Str → Option Value} {base : Heap}
theorem c_l_way_lists (T : Tx mg) (F : DefAt K mg "_law_way_lists" s_l_way_lists ["urn", "places", "way"]) (c_l_pick : Cal P w K mg base CX0 1 "_law_pick" spPick) (c_l_pool : Cal P w K mg base CX0 2 "_law_pool" spPool) (c_l_row : Cal P w K mg base CX0 3 "_law_row" spRow) : Cal P w K mg base CX0 4 "_law_way_lists" spWayLists := by
  refine F.cal sc_l_way_lists (fun vs H Q E h => ?_) (fun f cdv A outer s H vs Q E hr h => ?_)
  · obtain ⟨u, wa, m, n, l, rfl, _⟩ := h
    rfl
  · obtain ⟨u, wa, m, n, l, rfl, hm, hwa, wau, lnd, llt, hu, q⟩ := h
    have zl := nodup_le lnd llt
    refine ⟨_, (pss_cons (ps_set (i := 3) sc_l_way_lists.nd rfl (Or.inr rfl) (pe_cal c_l_pool hr (by decide) rfl pass0 (pa_cons (pv 0) (pa_cons pe_int pa_nil))))
      (pss_cons (ps_set (i := 4) sc_l_way_lists.nd rfl (Or.inl rfl) (pe_slice (k_sll K) (pv 3) po_none (po_some (pe_op op_add pe_int (pe_cal c_l_pick hr (by decide) rfl pass0 (pa_cons (pv 0) (pa_cons pe_int pa_nil)))))))
      (pss_cons (ps_set (i := 5) sc_l_way_lists.nd rfl (Or.inl rfl) (pe_cal c_l_pick hr (by decide) rfl pass0 (pa_cons (pv 0) (pa_cons pe_int pa_nil))))
      (pss_cons (ps_setLc (i := 6) (own := [("place", 8)]) (g := gName 8) rfl sc_l_way_lists.nd rfl rfl (sw_true rfl rfl rfl (by decide +kernel)) (pi_range1 rfl T.z_range (pa_cons (pv 1) pa_nil)) (blkOk_by (own := [("place", 8)]) (N := ["urn", "places", "way", "pool", "few", "alike", "rows", "k", "place"]) (sc := defScope s_l_way_lists) (by decide +kernel)) (fun _ _ _ _ _ => (pg_name (i := 8) sc_l_way_lists.nd rfl (Or.inl rfl))) (fun _ _ _ _ _ => pts_nil) (fun _ _ _ _ _ => (pe_cal c_l_row hr (by decide) rfl pass0 (pa_cons (pv 0) (pa_cons (pv 3) (pa_cons (pe_cal c_l_pick hr (by decide) rfl pass0 (pa_cons (pv 0) (pa_cons pe_int pa_nil))) pa_nil))))))
      (pss_cons (ps_for PassesOwn.never rfl (pi_range1 rfl T.z_range (pa_cons (pe_callB (cl_len K) (by rfl) T.z_len PySem.boot_len (pa_cons (pv 2) pa_nil)) pa_nil)) (pg_name (i := 7) sc_l_way_lists.nd rfl (Or.inl rfl))
        (pss_cons (ps_asg (pe_cal c_l_row hr (by decide) rfl pass0 (pa_cons (pv 0) (pa_cons (pv 4) (pa_cons pe_int pa_nil)))) (pg_sub (pv 6) (pe_ix (ix_l K) (pv 2) (pv 7) (fun _ _ => rfl)) set_list))
      (pss_one (ps_if (PW.pt (pw_and (pt_cmpR op_gt (pv 7) pe_int (nomark _)) (pw_and1 (pt_cmpR op_lt (pe_cal c_l_pick hr (by decide) rfl pass0 (pa_cons (pv 0) (pa_cons pe_int pa_nil))) (pv 5) (nomark _)))))
        (pss_one (ps_asg (pe_callTy (cl_listOf K) (by rfl) T.z_list (by decide +kernel) (pa_cons (pe_ix (ix_l K) (pv 6) (pe_ix (ix_l K) (pv 2) (pe_op op_sub (pv 7) pe_int) (fun _ _ => rfl)) (fun _ _ => rfl)) pa_nil)) (pg_sub (pv 6) (pe_ix (ix_l K) (pv 2) (pv 7) (fun _ _ => rfl)) set_list))) pss_nil))))
      (pss_one (ps_ret (pv 6)))))))), ?_⟩
    walk_at "go"
    refine ⟨u, 5, n + 2990, rfl, by omega, hu.mono (by omega), fun po H1 pl hpo k1 u1 hpo1 pasc plen => ?_⟩
    have pou : po ≠ u := (hu.ne hpo).symm
    have pnd := nodup_of_lt pasc
    walk_at "go"
    refine x_sl ?_
    walk_at "go"
    refine x_noPart ?_
    refine x_part ?_
    walk_at "go"
    refine x_pick (n + 2989) (by decide) (by decide) u1 fun j H2 j0 j1 k2 u2 => ?_
    obtain ⟨j, rfl⟩ := Int.eq_ofNat_of_zero_le j0
    have k02 := k1.trans k2
    have hpo2 := k2.at hpo1 pou
    walk_at "go"
    rw [show (2 : Int) + (j : Int) = ((2 + j : Nat) : Int) by omega]
    refine x_slTake' hpo2 fun fe hfe => ?_
    rw [nv_take]
    have feu : fe ≠ u := (u2.ne hfe).symm
    have k3 := keep_new (o := .lst (nv (pl.take (2 + j)))) k02 hfe
    have u3 := u2.upd (o := .lst (nv (pl.take (2 + j)))) feu.symm
    have hfe3 : (upd H2 fe (.lst (nv (pl.take (2 + j))))) fe = some (.lst (nv (pl.take (2 + j)))) := upd_same
    have hpo3 := new_at (o := .lst (nv (pl.take (2 + j)))) hfe hpo2
    have fnd : (pl.take (2 + j)).Nodup := pnd.sublist (List.take_sublist _ _)
    have flen : 2 ≤ (pl.take (2 + j)).length ∧ (pl.take (2 + j)).length ≤ 5 := by
      rw [List.length_take]
      omega
    generalize upd H2 fe (.lst (nv (pl.take (2 + j)))) = H3 at *
    generalize pl.take (2 + j) = fl at *
    walk_at "go"
    refine x_pick (n + 2988) (by decide) (by decide) (u3.mono (by omega)) fun al H4 al0 al1 k4 u4 => ?_
    have k04 := k3.trans k4
    have hpo4 := k4.at hpo3 pou
    have hfe4 := k4.at hfe3 feu
    walk_at "go"
    intro D hD
    have uD : u ≠ D := u4.ne hD
    have D0 : H D = none := k04.free u4 hD
    have poD : po ≠ D := ne_of_none hpo4 hD
    have feD : fe ≠ D := ne_of_none hfe4 hD
    have waD : wa ≠ D := ne_of_none hwa D0
    refine x_lwR0 (fun i H5 => ∃ vl rss, Keep u H H5 ∧ UrnZ H5 u (n + 2988 - 20 * i) ∧ H5 po = some (.lst (nv pl)) ∧ H5 fe = some (.lst (nv fl)) ∧ H5 D = some (.lst vl) ∧ RowsU u D H5 vl rss ∧ rss.length = i ∧ ∀ r ∈ rss, Asc r ∧ r.length ≤ 5)
      ⟨[], [], keep_new k04 hD, (u4.upd uD).mono (by omega), new_at hD hpo4, new_at hD hfe4, upd_same, .nil, rfl, by simp⟩ ?_ ?_
    · rintro i H5 hi ⟨vl, rss, k5, u5, hpo5, hfe5, hD5, hR5, hlen, hok⟩
      have hi2 : i < m := by omega
      have zv := hR5.len
      walk_at "go"
      refine x_pick (n + 2988 - 20 * i - 1) (by decide) (by decide) (u5.mono (by omega)) fun sz H6 sz0 sz1 k6 u6 => ?_
      obtain ⟨sz, rfl⟩ := Int.eq_ofNat_of_zero_le sz0
      have hpo6 := k6.at hpo5 pou
      walk_at "go"
      refine ⟨u, po, pl, sz, n + 2988 - 20 * (i + 1), rfl, hpo6, pou, pnd, by omega, u6.mono (by omega), fun p H7 r hp k7 u7 hp7 asc zr _ => ?_⟩
      have k67 := k6.trans k7
      have pu : p ≠ u := (u6.ne hp).symm
      have hD7 := k67.at hD5 uD.symm
      have pD : p ≠ D := (ne_of_none (k6.at hD5 uD.symm) hp).symm
      refine ⟨_, hD7, sz_lt (by omega), vl ++ [V.ref p], rss ++ [r], keep_mut (k5.trans k67) D0, u7.upd uD, upd_at poD (k67.at hpo5 pou), upd_at feD (k67.at hfe5 feu), upd_same, (RowsU.upd (hR5.keep k67)).snoc ⟨p, rfl, pu, pD, upd_at pD hp7⟩, by rw [List.length_append]; show rss.length + 1 = _; omega, fun x hx => ?_⟩
      rcases List.mem_append.mp hx with h | h
      · exact hok x h
      · rw [List.mem_singleton.mp h]
        exact ⟨asc, by omega⟩
    rintro H5 ⟨vl, rss, k5, u5, hpo5, hfe5, hD5, hR5, hlen, hok⟩
    have hlen : rss.length = m := by omega
    have hwa5 := k5.at hwa wau
    have zn : (nv l).length = l.length := nv_len l
    walk_at "go"
    rw [zn]
    refine x_fwR0 (fun i σ' H' => ∃ y7 vl rss, σ' = [some (.ref u), some (.int (m : Int)), some (.ref wa), some (.ref po), some (.ref fe), some (.int al), some (.ref D), y7, none] ∧ Keep u H H' ∧ UrnZ H' u (n + 2000 - 20 * i) ∧ H' fe = some (.lst (nv fl)) ∧ H' D = some (.lst vl) ∧ RowsU u D H' vl rss ∧ rss.length = m ∧ (∀ r ∈ rss, Asc r ∧ r.length ≤ 5) ∧ ∀ v ∈ l.take i, (rss.getD v []).length = 2)
      ⟨none, vl, rss, rfl, k5, u5.mono (by omega), hfe5, hD5, hR5, hlen, hok, by simp⟩ ?_ ?_
    · clear hR5 hD5 hlen hok
      rintro i _ H6 hi ⟨y7, vl, rss, rfl, k6, u6, hfe6, hD6, hR6, hlen, hok, two⟩
      have hil : i < l.length := by omega
      have ei : l[i]? = some l[i] := List.getElem?_eq_getElem hil
      have etk : l.take (i + 1) = l.take i ++ [l[i]] := by rw [List.take_add_one, ei]; rfl
      have vm := llt _ (List.getElem_mem hil)
      have vnt : l[i] ∉ l.take i := fun hm => by
        have nd2 := lnd
        rw [← List.take_append_drop i l] at nd2
        have hd : l[i] ∈ l.drop i := by
          refine List.mem_of_getElem? (i := 0) ?_
          rw [List.getElem?_drop]
          exact ei
        exact (List.nodup_append.mp nd2).2.2 _ hm _ hd rfl
      have g1 : atI (nv l) (i : Int) = some (.int (l[i] : Int)) := atI_nat (nv_at ei)
      have evi : l[i] = l[i] := rfl
      rw [etk]
      generalize hv : l[i] = v at *
      have zv := hR6.len
      -- a row put at v
      have put : ∀ (H7 : Hp) (vl : List V) (rss : List (List Nat)) (p : Addr) (r : List Nat), H7 D = some (.lst vl) → RowsU u D H7 vl rss → rss.length = m → (∀ r ∈ rss, Asc r ∧ r.length ≤ 5) → (∀ x ∈ l.take i, (rss.getD x []).length = 2) → p ≠ u → p ≠ D → H7 p = some (.lst (nv r)) → Asc r → r.length = 2 →
          RowsU u D (upd H7 D (.lst (vl.set (Int.toNat v) (.ref p)))) (vl.set (Int.toNat v) (.ref p)) (rss.set v r) ∧ (rss.set v r).length = m ∧ (∀ r' ∈ rss.set v r, Asc r' ∧ r'.length ≤ 5) ∧ ∀ x ∈ l.take i ++ [v], ((rss.set v r).getD x []).length = 2 := by
        intro H7 vl rss p r hD7 hR7 hlen hok two pu pD hp7 asc zr
        refine ⟨A2.set (RowsU.upd hR7) ⟨p, rfl, pu, pD, upd_at pD hp7⟩ v, by rw [List.length_set]; exact hlen, fun r' hr' => ?_, fun x hx => ?_⟩
        · rcases List.mem_or_eq_of_mem_set hr' with h | h
          · exact hok r' h
          · rw [h]
            exact ⟨asc, by omega⟩
        · rw [List.getD_eq_getElem?_getD, List.getElem?_set]
          by_cases c : v = x
          · rw [if_pos c, if_pos (by omega)]
            exact zr
          · rw [if_neg c]
            rcases List.mem_append.mp hx with h | h
            · have := two x h
              rw [List.getD_eq_getElem?_getD] at this
              exact this
            · exact absurd (List.mem_singleton.mp h).symm c
      walk_at "go"
      refine ⟨u, fe, fl, 2, n + 2000 - 20 * i - 10, rfl, hfe6, feu, fnd, by omega, u6.mono (by omega), fun p H7 r hp k7 u7 hp7 asc zr _ => ?_⟩
      have pu : p ≠ u := (u6.ne hp).symm
      have pD : p ≠ D := (ne_of_none hD6 hp).symm
      have hD7 := k7.at hD6 uD.symm
      have hwa7 := (k6.trans k7).at hwa wau
      have zb : (v : Int) < (vl.length : Int) := by omega
      walk_at "go"
      obtain ⟨q1, q2, q3, q4⟩ := put H7 vl rss p r hD7 (hR6.keep k7) hlen hok two pu pD hp7 asc (by omega)
      have k8 := keep_mut (o := .lst (vl.set (Int.toNat v) (.ref p))) (k6.trans k7) D0
      have u8 := u7.upd (o := .lst (vl.set (Int.toNat v) (.ref p))) uD
      have hfe8 := upd_at (o := .lst (vl.set (Int.toNat v) (.ref p))) feD (k7.at hfe6 feu)
      have hD8 : (upd H7 D (.lst (vl.set (Int.toNat v) (.ref p)))) D = some (.lst (vl.set (Int.toNat v) (.ref p))) := upd_same
      have hwa8 := upd_at (o := .lst (vl.set (Int.toNat v) (.ref p))) waD hwa7
      generalize vl.set (Int.toNat v) (.ref p) = vl2 at *
      generalize rss.set v r = rss2 at *
      generalize upd H7 D (.lst vl2) = H8 at *
      refine x_ite (fun c => ?_) (fun c => ?_)
      · walk_at "go"
        refine x_pick (n + 2000 - 20 * i - 11) (by decide) (by decide) (u8.mono (by omega)) fun r2 H9 r20 r21 k9 u9 => ?_
        have hfe9 := k9.at hfe8 feu
        have hD9 := k9.at hD8 uD.symm
        have hR9 := q1.keep k9
        have hwa9 := k9.at hwa8 wau
        have k09 := k8.trans k9
        walk_at "go"
        refine x_ite (fun c2 => ?_) (fun c2 => ?_)
        · have hpl : i - 1 < l.length := by omega
          have ep : l[i - 1]? = some l[i - 1] := List.getElem?_eq_getElem hpl
          have g2 : atI (nv l) ((i : Int) - 1) = some (.int (l[i - 1] : Int)) := by
            rw [show (i : Int) - 1 = ((i - 1 : Nat) : Int) by omega]
            exact atI_nat (nv_at ep)
          have pm := llt _ (List.getElem_mem hpl)
          have ptk : l[i - 1] ∈ l.take i := by
            refine List.mem_of_getElem? (i := i - 1) ?_
            rw [List.getElem?_take, if_pos (by omega)]
            exact ep
          generalize l[i - 1] = v' at *
          have zv2 := hR9.len
          have ev' : vl2[v']? = some (vl2[v']'(by omega)) := List.getElem?_eq_getElem (by omega)
          obtain ⟨r', hr', a, ea, au, aD, ha⟩ := A2.get hR9 ev'
          have g3 : atI vl2 (v' : Int) = some (.ref a) := by
            refine atI_nat ?_
            rw [ev', ea]
          have zr' : r'.length = 2 := by
            have := q4 v' (List.mem_append_left _ ptk)
            rw [List.getD_eq_getElem?_getD, hr'] at this
            exact this
          have ascr' := (q3 r' (List.mem_of_getElem? hr')).1
          have zb2 : (v : Int) < (vl2.length : Int) := by omega
          walk_at "go"
          refine x_listOf ha fun p2 hp2 => ?_
          have p2u : p2 ≠ u := (u9.ne hp2).symm
          have p2D : p2 ≠ D := (ne_of_none hD9 hp2).symm
          have hD10 := new_at (o := .lst (nv r')) hp2 hD9
          have hwa10 := new_at (o := .lst (nv r')) hp2 hwa9
          have k10 := keep_new (o := .lst (nv r')) k09 hp2
          have u10 := u9.upd (o := .lst (nv r')) p2u.symm
          have hfe10 := new_at (o := .lst (nv r')) hp2 hfe9
          have hR10 : RowsU u D (upd H9 p2 (.lst (nv r'))) vl2 rss2 := hR9.keep (keep_new (Keep.refl _) hp2)
          have hp10 : (upd H9 p2 (.lst (nv r'))) p2 = some (.lst (nv r')) := upd_same
          generalize upd H9 p2 (.lst (nv r')) = H10 at *
          obtain ⟨w1, w2, w3, w4⟩ := put H10 vl2 rss2 p2 r' hD10 hR10 q2 q3 (fun x hx => q4 x (List.mem_append_left _ hx)) p2u p2D hp10 ascr' zr'
          walk_at "go"
          exact ⟨_, _, _, rfl, keep_mut k10 D0, (u10.upd uD).mono (by omega), upd_at feD hfe10, upd_same, w1, w2, w3, w4⟩
        · walk_at "go"
          exact ⟨_, vl2, rss2, rfl, k09, u9.mono (by omega), hfe9, hD9, hR9, q2, q3, q4⟩
      · walk_at "go"
        exact ⟨_, vl2, rss2, rfl, k8, u8.mono (by omega), hfe8, hD8, q1, q2, q3, q4⟩
    · rintro _ H6 ⟨y7, vl, rss, rfl, k6, u6, hfe6, hD6, hR6, hlen, hok, two⟩
      rw [show (l.length : Int).toNat = l.length by omega, List.take_length] at two
      walk_at "go"
      exact q D H6 vl rss D0 k6 (u6.mono (by omega)) hD6 hR6 hlen hok two
end
abbrev s_l_due : Stmt := topS 29
theorem sc_l_due : FnScope ["rows", "way", "lines", "place", "longer", "line", "there", "found", "first", "hue", "last"] ["rows", "way"] (defScope s_l_due) := ⟨rfl, rfl, rfl, by decide +kernel, rfl, by decide +kernel, by decide +kernel⟩
theorem flatMap_len {α β : Type} {f : α → List β} {c : Nat} : ∀ {l : List α}, (∀ x ∈ l, (f x).length ≤ c) → (l.flatMap f).length ≤ l.length * c
  | [], _ => Nat.zero_le _
  | a :: r, h => by
    rw [List.flatMap_cons, List.length_append, List.length_cons, Nat.succ_mul]
    have h1 := h a (List.mem_cons_self ..)
    have h2 := flatMap_len (l := r) fun x hx => h x (List.mem_cons_of_mem _ hx)
    omega
theorem linesOf_len {r0 : List Nat} (h0 : r0.length = 2) (rs : List (List Nat)) : (∀ r ∈ rs, r.length = 2) → (linesOf r0 rs).length ≤ 2 * 2 ^ rs.length ∧ ∀ l ∈ linesOf r0 rs, l.length = rs.length + 1 := by
  refine snoc_ind (P := fun rs => (∀ r ∈ rs, r.length = 2) → (linesOf r0 rs).length ≤ 2 * 2 ^ rs.length ∧ ∀ l ∈ linesOf r0 rs, l.length = rs.length + 1) ?_ ?_ rs
  · intro _
    refine ⟨?_, fun l hl => ?_⟩
    · show (r0.map fun h => [h]).length ≤ 2
      rw [List.length_map, h0]
      exact Nat.le_refl _
    · obtain ⟨h, _, rfl⟩ := List.mem_map.mp hl
      rfl
  · intro rs r ih tw
    obtain ⟨i1, i2⟩ := ih fun x hx => tw x (List.mem_append_left _ hx)
    have h2 := tw r (List.mem_append_right _ (List.mem_singleton.mpr rfl))
    rw [linesOf_snoc]
    refine ⟨?_, fun l hl => ?_⟩
    · have := flatMap_len (l := linesOf r0 rs) (c := 2) (f := fun l => (r.filter fun h => decide (h ≠ l.getLastD 0)).map fun h => l ++ [h]) fun x _ => by
        rw [List.length_map]
        have := List.length_filter_le (fun h => decide (h ≠ x.getLastD 0)) r
        omega
      rw [List.length_append]
      show _ ≤ 2 * 2 ^ (rs.length + 1)
      rw [Nat.pow_succ]
      omega
    · obtain ⟨l', h1, h3⟩ := List.mem_flatMap.mp hl
      obtain ⟨h, _, rfl⟩ := List.mem_map.mp h3
      rw [List.length_append, i2 l' h1, List.length_append]
      rfl
def spDue : Sp := fun vs H Q _ => ∃ (ra wa : Addr) (vl : List V) (rss : List (List Nat)) (w0 : Nat) (wt : List Nat), vs = [.ref ra, .ref wa] ∧ H ra = some (.lst vl) ∧ RowL H vl rss ∧ H wa = some (.lst (nv (w0 :: wt))) ∧ (∀ v ∈ w0 :: wt, v < rss.length) ∧ (∀ v ∈ w0 :: wt, (rss.getD v []).length = 2) ∧ wt.length ≤ 10 ∧
  ∀ D H' vt, H D = none → Same H H' → H' D = some (.lst vt) → TieL H' vt (dueOf (rss.getD w0 []) (rowsOf rss wt) ((rowsOf rss (w0 :: wt)).getLastD [])) → Q (.ref D) H'
section
variable {P : Program} {w : World} {K : PySem.W.Frag} {mg : Str → Option Value} {base : Heap}
theorem c_l_due (T : Tx mg) (F : DefAt K mg "_law_due" s_l_due ["rows", "way"]) : Cal P w K mg base CX0 1 "_law_due" spDue := by
  refine F.cal sc_l_due (fun vs H Q E h => ?_) (fun f cdv A outer s H vs Q E hr h => ?_)
  · obtain ⟨ra, wa, vl, rss, w0, wt, rfl, _⟩ := h
    rfl
  · obtain ⟨ra, wa, vl, rss, w0, wt, rfl, hra, hR, hwa, llt, h2, zw, q⟩ := h
    have zl := hR.len
    have row : ∀ v, v < rss.length → ∃ a, atI vl (v : Int) = some (.ref a) ∧ ∀ H', Same H H' → H' a = some (.lst (nv (rss.getD v []))) := fun v hv => by
      have ev : vl[v]? = some (vl[v]'(by omega)) := List.getElem?_eq_getElem (by omega)
      obtain ⟨r, hr1, a, ea, ha⟩ := A2.get hR ev
      refine ⟨a, atI_nat (by rw [ev, ea]), fun H' s' => ?_⟩
      rw [List.getD_eq_getElem?_getD, hr1]
      exact s' _ _ ha
    obtain ⟨a0, ga0, ha0⟩ := row w0 (llt w0 (List.mem_cons_self ..))
    have ha00 := ha0 H (Same.refl H)
    have g0 : atI (nv (w0 :: wt)) 0 = some (.int (w0 : Int)) := by
      have := atI_nat (nv_at (l := w0 :: wt) (i := 0) (v := w0) rfl)
      exact this
    have z0 := h2 w0 (List.mem_cons_self ..)
    have zrs : ∀ r ∈ rowsOf rss wt, r.length = 2 := fun r hr => by
      obtain ⟨v, hv, rfl⟩ := List.mem_map.mp hr
      exact h2 v (List.mem_cons_of_mem _ hv)
    have zro : (rowsOf rss wt).length = wt.length := by unfold rowsOf; rw [List.length_map]
    refine ⟨_, (pss_cons (ps_setLc (i := 2) (own := [("hue", 9)]) (g := gName 9) rfl sc_l_due.nd rfl rfl (sw_true rfl rfl rfl (by decide +kernel)) (k_pil K (pe_ix (ix_l K) (pv 0) (pe_ix (ix_l K) (pv 1) pe_int (fun _ _ => rfl)) (fun _ _ => rfl))) (blkOk_by (own := [("hue", 9)]) (N := ["rows", "way", "lines", "place", "longer", "line", "there", "found", "first", "hue", "last"]) (sc := defScope s_l_due) (by decide +kernel)) (fun _ _ _ _ _ => (pg_name (i := 9) sc_l_due.nd rfl (Or.inl rfl))) (fun _ _ _ _ _ => pts_nil) (fun _ _ _ _ _ => (pe_lst (pa_cons (pv 9) pa_nil))))
      (pss_cons (ps_for PassesOwn.never rfl (k_pil K (pe_slice (k_sll K) (pv 1) (po_some pe_int) po_none)) (pg_name (i := 3) sc_l_due.nd rfl (Or.inl rfl))
        (pss_cons (ps_set (i := 4) sc_l_due.nd rfl (Or.inl rfl) (pe_lst pa_nil))
      (pss_cons (ps_for PassesOwn.never rfl (k_pil K (pv 2)) (pg_name (i := 5) sc_l_due.nd rfl (Or.inr rfl))
        (pss_one (ps_expr (k_bm K PySem.F.plainAttrs_list PySem.F.slot_list_extend PySem.F.type_list_extend mt_extend (pv 4) (pa_cons (pe_lc (own := [("hue", 9)]) (g := gName 9) rfl sc_l_due.nd (k_pil K (pe_ix (ix_l K) (pv 0) (pv 3) (fun _ _ => rfl))) (blkOk_by (own := [("hue", 9)]) (N := ["rows", "way", "lines", "place", "longer", "line", "there", "found", "first", "hue", "last"]) (sc := defScope s_l_due) (by decide +kernel)) (fun _ _ _ _ _ => (pg_name (i := 9) sc_l_due.nd rfl (Or.inl rfl))) (fun _ _ _ _ _ => pts_one (pt_cmpR op_ne (pv 9) (pe_ix (ix_l K) (pv 5) (pe_un un_neg pe_int) (fun _ _ => rfl)) (nomark _))) (fun _ _ _ _ _ => (pe_op op_cat (pv 5) (pe_lst (pa_cons (pv 9) pa_nil))))) pa_nil)))))
      (pss_one (ps_set (i := 2) sc_l_due.nd rfl (Or.inl rfl) (pe_callTy (cl_listOf K) (by rfl) T.z_list (by decide +kernel) (pa_cons (pv 4) pa_nil)))))))
      (pss_cons (ps_set (i := 6) sc_l_due.nd rfl (Or.inr rfl) (pe_lc (own := [("line", 5)]) (g := gName 5) rfl sc_l_due.nd (k_pil K (pv 2)) (blkOk_by (own := [("line", 5)]) (N := ["rows", "way", "lines", "place", "longer", "line", "there", "found", "first", "hue", "last"]) (sc := defScope s_l_due) (by decide +kernel)) (fun _ _ _ _ _ => (pg_name (i := 5) sc_l_due.nd rfl (Or.inl rfl))) (fun _ _ _ _ _ => pts_nil) (fun _ _ _ _ _ => (pe_tup (pa_cons (pe_ix (ix_l K) (pv 5) pe_int (fun _ _ => rfl)) (pa_cons (pe_ix (ix_l K) (pv 5) (pe_un un_neg pe_int) (fun _ _ => rfl)) pa_nil))))))
      (pss_cons (ps_set (i := 7) sc_l_due.nd rfl (Or.inl rfl) (pe_lst pa_nil))
      (pss_cons (ps_for PassesOwn.never rfl (k_pil K (pe_ix (ix_l K) (pv 0) (pe_ix (ix_l K) (pv 1) pe_int (fun _ _ => rfl)) (fun _ _ => rfl))) (pg_name (i := 8) sc_l_due.nd rfl (Or.inr rfl))
        (pss_one (ps_expr (k_bm K PySem.F.plainAttrs_list PySem.F.slot_list_extend PySem.F.type_list_extend mt_extend (pv 7) (pa_cons (pe_lc (own := [("last", 10)]) (g := gName 10) rfl sc_l_due.nd (k_pil K (pe_ix (ix_l K) (pv 0) (pe_ix (ix_l K) (pv 1) (pe_un un_neg pe_int) (fun _ _ => rfl)) (fun _ _ => rfl))) (blkOk_by (own := [("last", 10)]) (N := ["rows", "way", "lines", "place", "longer", "line", "there", "found", "first", "hue", "last"]) (sc := defScope s_l_due) (by decide +kernel)) (fun _ _ _ _ _ => (pg_name (i := 10) sc_l_due.nd rfl (Or.inl rfl))) (fun _ _ _ _ _ => pts_one (pt_cmpR (k_ninD K (hu65 hr)) (pe_tup (pa_cons (pv 8) (pa_cons (pv 10) pa_nil))) (pv 6) (by first | exact nomark _ | rfl))) (fun _ _ _ _ _ => (pe_tup (pa_cons (pv 8) (pa_cons (pv 10) pa_nil))))) pa_nil)))))
      (pss_one (ps_ret (pv 7)))))))), ?_⟩
    walk_at "go"
    intro D1 hD1
    refine x_lwL (xs := nv (rss.getD w0 [])) (fun i H1 => ∃ rows, LL H H1 D1 rows (((rss.getD w0 []).take i).map fun h => [h])) ⟨[], LL.nil hD1⟩ (fun i H1 _ ⟨_, L⟩ => sq_l (ha0 _ L.sm)) ?_ ?_
    · rintro i y H1 hi ⟨rows, L⟩
      obtain ⟨hh, rfl, hv⟩ := of_nv hi
      have zi := (List.getElem?_eq_some_iff.mp hv).1
      have hD := L.hD
      have zr := L.len
      rw [List.length_map, List.length_take] at zr
      walk_at "go"
      refine x_sz (by show 1 ≤ 100000; decide) fun p hp => ?_
      refine ⟨_, new_at hp hD, sz_lt (by rw [List.length_map]; omega), rows ++ [p], ?_⟩
      have etk : (rss.getD w0 []).take (i + 1) = (rss.getD w0 []).take i ++ [hh] := by rw [List.take_add_one, hv]; rfl
      rw [etk, List.map_append]
      exact L.new (l := [hh]) hp
    rintro H1 ⟨rows, L⟩
    rw [nv_len, List.take_length] at L
    have hwa1 := L.sm _ _ hwa
    have hM1 := L.hD
    have hRM1 := L.rowL
    have s1 := L.sm
    generalize rows.map V.ref = vm at *
    clear L
    walk_at "go"
    refine x_sl ?_
    walk_at "go"
    refine x_part ?_
    walk_at "go"
    refine x_noPart ?_
    refine x_slFrom (k := 1) hwa1 fun z hz => ?_
    rw [nv_drop, show (w0 :: wt).drop 1 = wt from rfl]
    have hz2 : (upd H1 z (.lst (nv wt))) z = some (.lst (nv wt)) := upd_same
    have sz := same_new (o := .lst (nv wt)) hz
    have hM2 := sz _ _ hM1
    have hRM2 := hRM1.same sz
    have s2 := s1.trans sz
    generalize upd H1 z (.lst (nv wt)) = H2 at *
    walk_at "go"
    -- the lines grow
    refine x_fwL (xs := nv wt) (fun j σ' H' => ∃ y3 y4 y5 M vm, σ' = [some (.ref ra), some (.ref wa), some (.ref M), y3, y4, y5, none, none, none, none, none] ∧ Same H2 H' ∧ H' M = some (.lst vm) ∧ RowL H' vm (linesOf (rss.getD w0 []) (rowsOf rss (wt.take j))))
      ⟨none, none, none, D1, vm, rfl, Same.refl _, hM2, hRM2⟩ (fun j σ' H' _ ⟨_, _, _, _, _, _, s, _⟩ => sq_l (s _ _ hz2)) ?_ ?_
    · clear hM1 hRM1 hM2 hRM2
      rintro j y _ H3 hj ⟨y3, y4, y5, M, vm, rfl, s3, hM3, hRM3⟩
      obtain ⟨v, rfl, hv⟩ := of_nv hj
      have hjl := (List.getElem?_eq_some_iff.mp hv).1
      have etk : wt.take (j + 1) = wt.take j ++ [v] := by rw [List.take_add_one, hv]; rfl
      have erow : rowsOf rss (wt.take j ++ [v]) = rowsOf rss (wt.take j) ++ [rss.getD v []] := by unfold rowsOf; rw [List.map_append]; rfl
      have vm0 := List.mem_cons_of_mem w0 (List.mem_of_getElem? hv)
      obtain ⟨av, gav, hav⟩ := row v (llt v vm0)
      have zrow := h2 v vm0
      have zln := linesOf_len z0 (rowsOf rss (wt.take j)) fun r hr => by
        obtain ⟨x, hx, rfl⟩ := List.mem_map.mp hr
        exact h2 x (List.mem_cons_of_mem _ (List.mem_of_mem_take hx))
      have zrt : (rowsOf rss (wt.take j)).length = j := by unfold rowsOf; rw [List.length_map, List.length_take]; omega
      rw [zrt] at zln
      have zpow : 2 ^ j ≤ 2 ^ 10 := Nat.pow_le_pow_right (by decide) (by omega)
      have lne := lines_ne (rss.getD w0 []) (rowsOf rss (wt.take j))
      rw [etk, erow, linesOf_snoc]
      generalize linesOf (rss.getD w0 []) (rowsOf rss (wt.take j)) = lines at *
      have zvm := hRM3.len
      walk_at "go"
      refine x_sz (by decide) fun N1 hN1 => ?_
      have s4 := s3.trans (same_new (o := .lst []) hN1)
      have hM4 := new_at (o := .lst []) hN1 hM3
      have hRM4 := hRM3.same (same_new (o := .lst []) hN1)
      have hN4 : (upd H3 N1 (.lst [])) N1 = some (.lst []) := upd_same
      have N2 : H2 N1 = none := s3.free hN1
      have N0 : H N1 = none := s2.free N2
      have MN : M ≠ N1 := ne_of_none hM3 hN1
      have hRN : RowsU N1 N1 (upd H3 N1 (.lst [])) vm lines := hRM3.imp fun _ _ ⟨a, e, ha⟩ => ⟨a, e, ne_of_none ha hN1, ne_of_none ha hN1, new_at hN1 ha⟩
      generalize upd H3 N1 (.lst []) = H4 at *
      walk_at "go"
      refine x_fwL (xs := vm) (fun k σ' H' => ∃ y5 vs, σ' = [some (.ref ra), some (.ref wa), some (.ref M), some (.int (v : Int)), some (.ref N1), y5, none, none, none, none, none] ∧ Same H2 H' ∧ H' M = some (.lst vm) ∧ RowsU N1 N1 H' vm lines ∧ H' N1 = some (.lst vs) ∧ RowsU N1 N1 H' vs ((lines.take k).flatMap fun (l : List Nat) => ((rss.getD v []).filter fun (h : Nat) => decide (h ≠ l.getLastD 0)).map fun (h : Nat) => l ++ [h]) ∧ vs.length ≤ k * 2)
        ⟨y5, [], rfl, s4, hM4, hRN, hN4, .nil, Nat.le_refl _⟩ (fun k σ' H' _ ⟨_, _, _, _, h, _⟩ => sq_l h) ?_ ?_
      · clear hN4 hRN hRM4 hM4 s4
        rintro k y _ H5 hk ⟨y5, vs, rfl, s5, hM5, hRN5, hN5, hRs5, zvs⟩
        have hkl := (List.getElem?_eq_some_iff.mp hk).1
        obtain ⟨ln, hln, al, rfl, alN, _, hal⟩ := A2.get hRN5 hk
        have lnm := List.mem_of_getElem? hln
        have zll := zln.2 ln lnm
        have etk2 : lines.take (k + 1) = lines.take k ++ [ln] := by rw [List.take_add_one, hln]; rfl
        have s05 := s2.trans s5
        have hra5 := s05 _ _ hra
        have hav5 := hav _ s05
        have gl : atI (nv ln) (-1) = some (.int (ln.getLastD 0 : Nat)) := by
          refine atI_last (by rw [nv_len]; omega) ?_
          rw [nv_len]
          refine nv_at ?_
          rw [List.getLastD_eq_getLast?, ← List.getLast?_eq_getElem?]
          cases e : ln.getLast? with
          | none => rw [List.getLast?_eq_none_iff] at e; rw [e] at zll; simp at zll
          | some x => rfl
        walk_at "go"
        intro D hD
        have ND : N1 ≠ D := ne_of_none hN5 hD
        refine x_lwL (xs := nv (rss.getD v [])) (fun t H' => ∃ rows, LL H5 H' D rows ((((rss.getD v []).take t).filter fun h => decide (h ≠ ln.getLastD 0)).map fun h => ln ++ [h])) ⟨[], LL.nil hD⟩ (fun t H' _ ⟨_, L⟩ => sq_l (L.sm _ _ hav5)) ?_ ?_
        · rintro t y H6 ht ⟨rows, L⟩
          obtain ⟨hh, rfl, hv2⟩ := of_nv ht
          have zt := (List.getElem?_eq_some_iff.mp hv2).1
          have hal6 := L.sm _ _ hal
          have etk3 : (rss.getD v []).take (t + 1) = (rss.getD v []).take t ++ [hh] := by rw [List.take_add_one, hv2]; rfl
          have zr := L.len
          rw [List.length_map] at zr
          have zf := List.length_filter_le (fun h => decide (h ≠ ln.getLastD 0)) ((rss.getD v []).take t)
          rw [List.length_take] at zf
          have hD6 := L.hD
          walk_at "go"
          refine x_iten (fun c => ?_) (fun c => ?_)
          · walk_at "go"
            refine x_sz (by show 1 ≤ 100000; decide) fun p1 hp1 => ?_
            have L2 := L.same (same_new (o := .lst [.int (hh : Int)]) hp1)
            refine x_cat (new_at hp1 hal6) upd_same (by rw [nv_len]; show _ + 1 ≤ _; omega) fun p3 hp3 => ?_
            refine ⟨_, new_at hp3 L2.hD, sz_lt (by rw [List.length_map]; omega), rows ++ [p3], ?_⟩
            have e1 : nv ln ++ [V.int (hh : Int)] = nv (ln ++ [hh]) := nv_snoc _ _
            rw [e1, etk3, List.filter_append, List.filter_cons_of_pos (by rw [decide_eq_true_eq]; omega), List.map_append]
            exact L2.new hp3
          · refine ⟨rows, ?_⟩
            rw [etk3, List.filter_append, List.filter_cons_of_neg (by rw [decide_eq_true_eq]; omega), List.filter_nil, List.append_nil]
            exact L
        · rintro H6 ⟨rows, L⟩
          rw [nv_len, List.take_length] at L
          have zr := L.len
          rw [List.length_map] at zr
          have zf := List.length_filter_le (fun h => decide (h ≠ ln.getLastD 0)) (rss.getD v [])
          have hN6 := L.sm _ _ hN5
          walk_at "go"
          refine x_ext hN6 L.hD (by rw [List.length_map]; omega) ?_
          have RU : RowsU N1 N1 H6 (rows.map V.ref) (((rss.getD v []).filter fun h => decide (h ≠ ln.getLastD 0)).map fun h => ln ++ [h]) := by
            refine a2_of_get (by rw [List.length_map, L.len]) fun i v' r h1 h2' => ?_
            obtain ⟨a, rfl, ha⟩ := of_refs h1
            have qq := L.rw i a r ha h2'
            have na : a ≠ N1 := (ne_of_none hN5 qq.1).symm
            exact ⟨a, rfl, na, na, qq.2⟩
          refine ⟨_, _, rfl, same_mut (s5.trans L.sm) N2, upd_at MN (L.sm _ _ hM5), RowsU.upd (hRN5.keep (Same.toKeep L.sm)), upd_same, ?_, by rw [List.length_append, List.length_map]; omega⟩
          rw [etk2, List.flatMap_append, List.flatMap_cons, List.flatMap_nil, List.append_nil]
          exact (RowsU.upd (hRs5.keep (Same.toKeep L.sm))).app (RowsU.upd RU)
      · rintro _ H5 ⟨y5, vs, rfl, s5, hM5, hRN5, hN5, hRs5, zvs⟩
        rw [hRN5.len, List.take_length] at hRs5
        walk_at "go"
        refine x_listOf hN5 fun M2 hM2 => ?_
        walk_at "go"
        exact ⟨_, _, _, M2, vs, rfl, s5.trans (same_new hM2), upd_same, (hRs5.rowL).same (same_new hM2)⟩
    rintro _ H3 ⟨y3, y4, y5, M, vm, rfl, s3, hM3, hRM3⟩
    rw [nv_len, List.take_length] at hRM3
    have zln := linesOf_len z0 (rowsOf rss wt) zrs
    rw [zro] at zln
    have zpow : 2 ^ wt.length ≤ 2 ^ 10 := Nat.pow_le_pow_right (by decide) zw
    have lne := lines_ne (rss.getD w0 []) (rowsOf rss wt)
    have zvm := hRM3.len
    obtain ⟨wl, ewl, hwl⟩ : ∃ wl, (w0 :: wt)[(w0 :: wt).length - 1]? = some wl ∧ wl ∈ w0 :: wt := by
      have z : (w0 :: wt).length - 1 < (w0 :: wt).length := by
        rw [List.length_cons]
        omega
      exact ⟨_, List.getElem?_eq_getElem z, List.getElem_mem z⟩
    have ela : (rowsOf rss (w0 :: wt)).getLastD [] = rss.getD wl [] := by
      unfold rowsOf
      rw [List.getLastD_eq_getLast?, List.getLast?_map, List.getLast?_eq_getElem?, ewl]
      rfl
    have zla := h2 wl hwl
    have gl : atI (nv (w0 :: wt)) (-1) = some (.int (wl : Int)) := atI_last (by rw [nv_len, List.length_cons]; omega) (by rw [nv_len]; exact nv_at ewl)
    obtain ⟨al, gal, hal⟩ := row wl (llt wl hwl)
    have q' : ∀ D H' vt, H D = none → Same H H' → H' D = some (.lst vt) → TieL H' vt ((rss.getD w0 []).flatMap fun (h : Nat) => ((rss.getD wl []).filter fun (k : Nat) => decide ((h, k) ∉ (linesOf (rss.getD w0 []) (rowsOf rss wt)).map fun (l : List Nat) => (l.headD 0, l.getLastD 0))).map fun (k : Nat) => (h, k)) → Q (.ref D) H' := by
      rw [ela] at q
      exact q
    clear q
    generalize linesOf (rss.getD w0 []) (rowsOf rss wt) = lines at *
    walk_at "go"
    intro Th hTh
    refine x_lwL (xs := vm) (fun i H4 => ∃ vs, Same H3 H4 ∧ H4 Th = some (.lst vs) ∧ TieL H4 vs ((lines.take i).map fun (l : List Nat) => (l.headD 0, l.getLastD 0)) ∧ vs.length ≤ i) ⟨[], same_new hTh, upd_same, .nil, Nat.le_refl _⟩ (fun i H4 _ ⟨_, s, _⟩ => sq_l (s _ _ hM3)) ?_ ?_
    · rintro i y H4 hi ⟨vs, s4, hT4, hTT4, zvs⟩
      have hil := (List.getElem?_eq_some_iff.mp hi).1
      obtain ⟨ln, hln, aln, rfl, haln⟩ := A2.get (hRM3.same s4) hi
      have lnm := List.mem_of_getElem? hln
      have zll := zln.2 ln lnm
      have etk2 : lines.take (i + 1) = lines.take i ++ [ln] := by rw [List.take_add_one, hln]; rfl
      have gl2 : atI (nv ln) (-1) = some (.int (ln.getLastD 0 : Nat)) := by
        refine atI_last (by rw [nv_len]; omega) ?_
        rw [nv_len]
        refine nv_at ?_
        rw [List.getLastD_eq_getLast?, ← List.getLast?_eq_getElem?]
        cases e : ln.getLast? with
        | none => rw [List.getLast?_eq_none_iff] at e; rw [e] at zll; simp at zll
        | some x => rfl
      have gh : atI (nv ln) 0 = some (.int (ln.headD 0 : Nat)) := by
        cases ln with
        | nil => simp at zll
        | cons x r =>
          have := atI_nat (nv_at (l := x :: r) (i := 0) (v := x) rfl)
          exact this
      walk_at "go"
      refine x_sz (by show 2 ≤ 100000; decide) fun t ht => ?_
      have tT : t ≠ Th := (ne_of_none hT4 ht).symm
      refine ⟨_, new_at ht hT4, sz_lt (by omega), vs ++ [.ref t], same_mut (s4.trans (same_new ht)) hTh, upd_same, ?_, by rw [List.length_append]; show vs.length + 1 ≤ _; omega⟩
      rw [etk2, List.map_append]
      exact ((hTT4.same (same_new ht)).upd (new_at ht hT4)).snoc ⟨t, rfl, upd_at tT upd_same⟩
    rintro H4 ⟨vth, s4, hT4, hTT4, zvs⟩
    rw [hRM3.len, List.take_length] at hTT4
    generalize lines.map (fun (l : List Nat) => (l.headD 0, l.getLastD 0)) = there at *
    have s04 := (s2.trans s3).trans s4
    have hwa4 := s04 _ _ hwa
    have hra4 := s04 _ _ hra
    have ha04 := ha0 _ s04
    walk_at "go"
    refine x_sz (by decide) fun Fo hFo => ?_
    have F0 : H Fo = none := s04.free hFo
    have F4 := hFo
    have hT5 := new_at (o := .lst []) hFo hT4
    have hTT5 := hTT4.same (same_new (o := .lst []) hFo)
    have hwa5 := new_at (o := .lst []) hFo hwa4
    have hra5 := new_at (o := .lst []) hFo hra4
    have ha05 := new_at (o := .lst []) hFo ha04
    have FT : Th ≠ Fo := ne_of_none hT4 hFo
    walk_at "go"
    refine x_fwL (xs := nv (rss.getD w0 [])) (fun i σ' H' => ∃ y8 vs, σ' = [some (.ref ra), some (.ref wa), some (.ref M), y3, y4, y5, some (.ref Th), some (.ref Fo), y8, none, none] ∧ Same H4 H' ∧ H' Fo = some (.lst vs) ∧ TieL H' vs (((rss.getD w0 []).take i).flatMap fun (h : Nat) => ((rss.getD wl []).filter fun (k : Nat) => decide ((h, k) ∉ there)).map fun (k : Nat) => (h, k)) ∧ vs.length ≤ i * 2)
      ⟨none, [], rfl, same_new hFo, upd_same, .nil, Nat.le_refl _⟩ (fun i σ' H' _ ⟨_, _, _, s, _⟩ => sq_l (s _ _ ha04)) ?_ ?_
    · rintro i y _ H6 hi ⟨y8, vs, rfl, s6, hF6, hTF6, zvs6⟩
      obtain ⟨hh, rfl, hv⟩ := of_nv hi
      have zi := (List.getElem?_eq_some_iff.mp hv).1
      have etk3 : (rss.getD w0 []).take (i + 1) = (rss.getD w0 []).take i ++ [hh] := by rw [List.take_add_one, hv]; rfl
      have hra6 := s6 _ _ hra4
      have hwa6 := s6 _ _ hwa4
      have hal6 := hal _ (s04.trans s6)
      have hT6 := s6 _ _ hT4
      have hTT6 := hTT4.same s6
      walk_at "go"
      intro D hD
      have FD : Fo ≠ D := ne_of_none hF6 hD
      refine x_lwL (xs := nv (rss.getD wl [])) (fun t H7 => ∃ vd, Same H6 H7 ∧ H7 D = some (.lst vd) ∧ TieL H7 vd ((((rss.getD wl []).take t).filter fun (k : Nat) => decide ((hh, k) ∉ there)).map fun (k : Nat) => (hh, k)) ∧ vd.length ≤ t) ⟨[], same_new hD, upd_same, .nil, Nat.le_refl _⟩ (fun t H7 _ ⟨_, s, _⟩ => sq_l (s _ _ hal6)) ?_ ?_
      · rintro t y H7 ht ⟨vd, s7, hD7, hTD7, zvd⟩
        obtain ⟨kk, rfl, hv2⟩ := of_nv ht
        have zt := (List.getElem?_eq_some_iff.mp hv2).1
        have etk4 : (rss.getD wl []).take (t + 1) = (rss.getD wl []).take t ++ [kk] := by rw [List.take_add_one, hv2]; rfl
        walk_at "go"
        refine x_sz (by show 2 ≤ 100000; decide) fun tp htp => ?_
        have s8 := same_new (o := .tup [.int (hh : Int), .int (kk : Int)]) htp
        have hvt : TieV (upd H7 tp (.tup [.int (hh : Int), .int (kk : Int)])) (.ref tp) (hh, kk) := ⟨tp, rfl, upd_same⟩
        have hT8 := s8 _ _ (s7 _ _ hT6)
        have hTT8 := (hTT6.same s7).same s8
        have hD8 := s8 _ _ hD7
        have hTD8 := hTD7.same s8
        walk_at "go"
        refine x_ninT hvt hT8 hTT8 ?_
        walk_at "go"
        refine x_iten (fun c => ?_) (fun c => ?_)
        · walk_at "go"
          refine x_sz (by show 2 ≤ 100000; decide) fun tq htq => ?_
          have s9 := same_new (o := .tup [.int (hh : Int), .int (kk : Int)]) htq
          have qD : tq ≠ D := (ne_of_none hD8 htq).symm
          refine ⟨_, s9 _ _ hD8, sz_lt (by omega), vd ++ [.ref tq], same_mut ((s7.trans s8).trans s9) hD, upd_same, ?_, by rw [List.length_append]; show vd.length + 1 ≤ _; omega⟩
          rw [etk4, List.filter_append, List.filter_cons_of_pos (by rw [decide_eq_true_eq]; exact c), List.map_append]
          exact ((hTD8.same s9).upd (s9 _ _ hD8)).snoc ⟨tq, rfl, upd_at qD upd_same⟩
        · refine ⟨vd, s7.trans s8, hD8, ?_, by omega⟩
          rw [etk4, List.filter_append, List.filter_cons_of_neg (by rw [decide_eq_true_eq]; exact fun z => z c), List.filter_nil, List.append_nil]
          exact hTD8
      · rintro H7 ⟨vd, s7, hD7, hTD7, zvd⟩
        rw [nv_len, List.take_length] at hTD7
        rw [nv_len] at zvd
        have hF7 := s7 _ _ hF6
        walk_at "go"
        refine x_ext hF7 hD7 (by omega) ?_
        refine ⟨_, _, rfl, same_mut (s6.trans s7) F4, upd_same, ?_, by rw [List.length_append]; omega⟩
        rw [etk3, List.flatMap_append, List.flatMap_cons, List.flatMap_nil, List.append_nil]
        exact ((hTF6.same s7).upd hF7).app (hTD7.upd hF7)
    · rintro _ H6 ⟨y8, vs, rfl, s6, hF6, hTF6, zvs6⟩
      rw [nv_len, List.take_length] at hTF6
      walk_at "go"
      exact q' Fo H6 vs F0 (s04.trans s6) hF6 hTF6
end
/-! ### the law -/
def spRight : Sp := fun vs H Q _ => ∃ (u : Addr), vs = [.ref u] ∧ UrnZ H u (2 ^ 40) ∧ ∀ H', Keep u H H' → Q (.bl true) H'
abbrev s_l_right : Stmt := topS 30
theorem sc_l_right : FnScope ["urn", "places", "ties", "way", "rows", "due", "built", "passed", "asked", "turn", "found", "place"] ["urn"] (defScope s_l_right) := ⟨rfl, rfl, rfl, by decide +kernel, rfl, by decide +kernel, by decide +kernel⟩
section
variable {P : Program} {w : World} {K : PySem.W.Frag} {mg : Str → Option Value} {base : Heap}
theorem c_l_right {C CL : Addr} (T : Tx mg) (O_Web : Own K mg "Web" C) (F : DefAt K mg "_law_right" s_l_right ["urn"])
    (c_l_way_web : Cal P w K mg base CX0 3 "_law_way_web" spWayWeb) (c_l_way_lists : Cal P w K mg base CX0 4 "_law_way_lists" spWayLists) (c_l_due : Cal P w K mg base CX0 1 "_law_due" spDue) (c_l_copies : Cal P w K mg base CX0 1 "_law_copies" spCopies)
    (c_barred_pairs : Cal P w K mg base CX0 5 "barred_pairs" (spBarred C)) (c_l_pairs : Cal P w K mg base CX0 2 "_law_pairs" spPairs)
    (m_WebD_initD : Met P w K mg base CX0 3 C "__init__" (spInitW C)) : Cal P w K mg base CX0 6 "_law_right" spRight := by
  refine F.cal sc_l_right (fun vs H Q E h => ?_) (fun f cdv A outer s H vs Q E hr h => ?_)
  · obtain ⟨u, rfl, _⟩ := h
    rfl
  · obtain ⟨u, rfl, hu, q⟩ := h
    refine ⟨_, (pss_cons (ps_asg (pe_cal c_l_way_web hr (by decide) rfl pass0 (pa_cons (pv 0) (pa_cons pe_int pa_nil))) (k_tup (n := 3) K rfl (pgs_cons (pg_name (i := 1) sc_l_right.nd rfl (Or.inl rfl)) (pgs_cons (pg_name (i := 2) sc_l_right.nd rfl (Or.inl rfl)) (pgs_cons (pg_name (i := 3) sc_l_right.nd rfl (Or.inr rfl)) pgs_nil)))))
      (pss_cons (ps_set (i := 4) sc_l_right.nd rfl (Or.inr rfl) (pe_cal c_l_way_lists hr (by decide) rfl pass0 (pa_cons (pv 0) (pa_cons (pv 1) (pa_cons (pv 3) pa_nil)))))
      (pss_cons (ps_set (i := 5) sc_l_right.nd rfl (Or.inl rfl) (pe_cal c_l_due hr (by decide) rfl pass0 (pa_cons (pv 4) (pa_cons (pv 3) pa_nil))))
      (pss_cons (ps_set (i := 6) sc_l_right.nd rfl (Or.inl rfl) (pe_mak m_WebD_initD O_Web hr (by decide) rfl pass0 (pa_cons (pv 1) (pa_cons (pe_callTy (cl_listOf K) (by rfl) T.z_list (by decide +kernel) (pa_cons (pv 2) pa_nil)) pa_nil))))
      (pss_cons (ps_set (i := 7) sc_l_right.nd rfl (Or.inl rfl) (pe_cal c_l_copies hr (by decide) rfl pass0 (pa_cons (pv 4) pa_nil)))
      (pss_cons (ps_set (i := 8) sc_l_right.nd rfl (Or.inl rfl) (pe_callTy (cl_listOf K) (by rfl) T.z_list (by decide +kernel) (pa_cons (pv 3) pa_nil)))
      (pss_cons (ps_for PassesOwn.never rfl (pi_range1 rfl T.z_range (pa_cons pe_int pa_nil)) (pg_name (i := 9) sc_l_right.nd rfl (Or.inl rfl))
        (pss_cons (ps_set (i := 10) sc_l_right.nd rfl (Or.inl rfl) (pe_cal c_barred_pairs hr (by decide) rfl pass0 (pa_cons (pv 6) (pa_cons (pv 7) (pa_cons (pv 8) pa_nil)))))
      (pss_cons (ps_if (PW.pt (pw_or (pt_not (pt_val (pe_cal c_l_pairs hr (by decide) rfl pass0 (pa_cons (pv 10) pa_nil)))) (pw_or (pt_cmpR (k_neD K hr.units) (pv 10) (pv 5) (nomark _)) (pw_or (pt_cmpR (k_neD K hr.units) (pv 7) (pv 4) (nomark _)) (pw_or1 (pt_cmpR (k_neD K hr.units) (pv 8) (pv 3) (nomark _)))))))
        (pss_one (ps_ret pe_bl)) pss_nil)
      (pss_cons (ps_if (PW.pt (pw_or (pt_cmpR op_ne (pe_cmpR op_eq (pe_callB (cl_len K) (by rfl) T.z_len PySem.boot_len (pa_cons (pv 10) pa_nil)) pe_int (nomark _)) (pe_callB (cl_all K rfl) (by rfl) T.z_all (by decide +kernel) (pa_cons (pe_lc (own := [("place", 11)]) (g := gName 11) rfl sc_l_right.nd (k_pil K (pv 3)) (blkOk_by (own := [("place", 11)]) (N := ["urn", "places", "ties", "way", "rows", "due", "built", "passed", "asked", "turn", "found", "place"]) (sc := defScope s_l_right) (by decide +kernel)) (fun _ _ _ _ _ => (pg_name (i := 11) sc_l_right.nd rfl (Or.inl rfl))) (fun _ _ _ _ _ => pts_nil) (fun _ _ _ _ _ => (pe_cmpR (k_eqD K hr.units) (pe_ix (ix_l K) (pv 4) (pv 11) (fun _ _ => rfl)) (pe_ix (ix_l K) (pv 4) (pe_ix (ix_l K) (pv 3) pe_int (fun _ _ => rfl)) (fun _ _ => rfl)) (nomark _)))) pa_nil)) (nomark _)) (pw_or1 (pt_cmpR op_gt (pe_callB (cl_len K) (by rfl) T.z_len PySem.boot_len (pa_cons (pv 10) pa_nil)) pe_int (nomark _)))))
        (pss_one (ps_ret pe_bl)) pss_nil)
      (pss_cons (ps_expr (k_bm K PySem.F.plainAttrs_list PySem.F.slot_list_append PySem.F.type_list_append mt_append (pv 10) (pa_cons (pe_tup (pa_cons (pv 9) (pa_cons (pv 9) pa_nil))) pa_nil)))
      (pss_one (ps_expr (k_bm0 K PySem.F.plainAttrs_list PySem.F.slot_list_reverse PySem.F.type_list_reverse mt_reverse (pv 10)))))))))
      (pss_one (ps_ret pe_bl))))))))), ?_⟩
    walk_at "go"
    refine ⟨u, 8, 2 ^ 40 - 2000, rfl, by omega, by omega, hu.mono (by omega), fun r H1 N t wa vt ps l hr ht hwa twa k1 u1 hr1 ht1 hT1 tok srt hwa1 iw hl2 hN hlen => ?_⟩
    have tu : t ≠ u := (hu.ne ht).symm
    have wau : wa ≠ u := (hu.ne hwa).symm
    have zl := way_len iw
    obtain ⟨us1, hus1⟩ := u1.some
    walk_at "go"
    refine ⟨u, wa, N, 0, l, rfl, by omega, hwa1, wau, iw.nd, iw.lt, u1.mono (by omega), fun D H2 vl rss hD k2 u2 hD2 hRU hrl hok two => ?_⟩
    have hwa2 := k2.at hwa1 wau
    have ht2 := k2.at ht1 tu
    have hT2 := hT1.keep k2 hus1
    have hR2 := hRU.rowL
    have k02 := k1.trans k2
    have zvl := hR2.len
    obtain ⟨w0, wt, rfl⟩ : ∃ w0 wt, l = w0 :: wt := by
      cases l with
      | nil => exact absurd rfl iw.ne
      | cons a b => exact ⟨a, b, rfl⟩
    rw [List.length_cons] at hl2 zl
    have tw : ∀ r ∈ rowsOf rss (w0 :: wt), Two r ∧ Asc r := fun r hr => by
      obtain ⟨v, hv, rfl⟩ := List.mem_map.mp hr
      have vn := iw.lt v hv
      have er : rss[v]? = some (rss[v]'(by omega)) := List.getElem?_eq_getElem (by omega)
      have e2 : rss.getD v [] = rss[v]'(by omega) := by rw [List.getD_eq_getElem?_getD, er]; rfl
      have asc := (hok _ (List.mem_of_getElem? er)).1
      refine ⟨⟨?_, two v hv⟩, ?_⟩ <;> rw [e2]
      · exact nodup_of_lt asc
      · exact asc
    have wtne : rowsOf rss wt ≠ [] := fun e => by
      have := congrArg List.length e
      unfold rowsOf at this
      rw [List.length_map] at this
      simp at this
      rw [this] at hl2
      simp at hl2
    have elast : (rowsOf rss (w0 :: wt)).getLastD [] = (rowsOf rss wt).getLastD [] := by
      have e1 : rowsOf rss (w0 :: wt) = rss.getD w0 [] :: rowsOf rss wt := rfl
      rw [e1, List.getLastD_eq_getLast?, List.getLastD_eq_getLast?, List.getLast?_cons, List.getLast?_eq_some_getLast wtne]
      rfl
    have edue : dueOf (rss.getD w0 []) (rowsOf rss wt) ((rowsOf rss (w0 :: wt)).getLastD []) = barOf rss (w0 :: wt) := by
      rw [elast, due_barred wtne fun r hr => (tw r (List.mem_cons_of_mem _ hr)).1]
      unfold barOf
      rw [elast]
      rfl
    have ebar := bar_len (last := (rowsOf rss (w0 :: wt)).getLastD []) (tw (rss.getD w0 []) (List.mem_cons_self ..)).1 (tw (rss.getD w0 []) (List.mem_cons_self ..)).2 (fun r hr => (tw r (List.mem_cons_of_mem _ hr)).1) (fun r hr => (tw r (List.mem_cons_of_mem _ hr)).2)
    have ebar : ((barOf rss (w0 :: wt)).length = 2 ↔ ∀ r ∈ rowsOf rss wt, r = rss.getD w0 []) ∧ (barOf rss (w0 :: wt)).length ≤ 2 := ebar
    walk_at "go"
    refine ⟨D, wa, vl, rss, w0, wt, rfl, hD2, hR2, hwa2, fun v hv => by rw [hrl]; exact iw.lt v hv, two, by omega, fun Du H3 vdu hDu s3 hDu3 hTdu => ?_⟩
    rw [edue] at hTdu
    have ht3 := s3 _ _ ht2
    have hT3 := hT2.same s3
    have k03 := k02.same s3
    walk_at "go"
    refine x_listOf ht3 fun t2 ht2' => ?_
    have s4 := same_new (o := .lst vt) ht2'
    have ht24 : (upd H3 t2 (.lst vt)) t2 = some (.lst vt) := upd_same
    have s24 := s3.trans s4
    have hT4 := hT3.same s4
    have hDu4 := s4 _ _ hDu3
    have hTdu4 := hTdu.same s4
    have k04 := k03.same s4
    generalize upd H3 t2 (.lst vt) = H4 at *
    walk_at "go"
    intro x dx hx hdx dxx
    have s56 : Same H4 (upd (upd H4 dx (.own x)) x (.ins C dx [])) := fun b o e => by
      rw [upd_ne (ne_of_none e hx), upd_ne (ne_of_none e hdx)]
      exact e
    refine ⟨x, dx, t2, N, vt, ps, rfl, upd_same, s56 _ _ ht24, hT4.same s56, tok, by omega, by omega, fun H5 k5 w5 => ⟨rfl, ?_⟩⟩
    have s45 : Same H4 H5 := fun b o e => k5 b o (s56 b o e) (ne_of_none e hx)
    have w5 : WebAt C H5 x N (eOf ps) := w5.same nw_same
    have s25 := s24.trans s45
    have hD5 := s25 _ _ hD2
    have hR5 := hR2.same s25
    have k05 := k04.same s45
    walk_at "go"
    refine ⟨D, vl, rss, rfl, hD5, hR5, by omega, fun pa H6 rows L => ?_⟩
    have s26 := s25.trans L.sm
    have w6 := w5.same L.sm
    have hpa6 := L.hD
    have hRp6 := L.rowL
    have hwa6 := s26 _ _ hwa2
    have hDu6 := L.sm _ _ (s45 _ _ hDu4)
    have hTdu6 := (hTdu4.same s45).same L.sm
    have k06 := k05.same L.sm
    walk_at "go"
    refine x_listOf hwa6 fun ask hask => ?_
    have s7 := same_new (o := .lst (nv (w0 :: wt))) hask
    have hask7 : (upd H6 ask (.lst (nv (w0 :: wt)))) ask = some (.lst (nv (w0 :: wt))) := upd_same
    have s27 := s26.trans s7
    have w7 := w6.same s7
    have hpa7 := s7 _ _ hpa6
    have hRp7 := hRp6.same s7
    have hDu7 := s7 _ _ hDu6
    have hTdu7 := hTdu6.same s7
    have k07 := k06.same s7
    generalize upd H6 ask (.lst (nv (w0 :: wt))) = H7 at *
    have hD7 := s27 _ _ hD2
    have hR7 := hR2.same s27
    have hwa7 := s27 _ _ hwa2
    clear L hRp6 hpa6 w6 hR5 hD5 w5 k5 s56 hx hdx
    walk_at "go"
    refine x_fwR0 (fun i σ' H' => ∃ y9 y10, σ' = [some (.ref u), some (.int (N : Int)), some (.ref t), some (.ref wa), some (.ref D), some (.ref Du), some (.ref x), some (.ref pa), some (.ref ask), y9, y10, none] ∧ Same H7 H') ⟨none, none, rfl, Same.refl _⟩ ?_ ?_
    · rintro i _ H8 hi ⟨y9, y10, rfl, s8⟩
      walk_at "go"
      refine ⟨x, pa, ask, N, _, _, rss, w0 :: wt, rfl, w7.same s8, by omega, s8 _ _ hpa7, hRp7.same s8, fun r hr => ⟨(hok r hr).1, by have := (hok r hr).2; omega⟩, hrl, s8 _ _ hask7, iw, by rw [List.length_cons]; omega, two, fun fo H9 vf hfo s9 hfo9 hTf => ?_⟩
      have s89 := s8.trans s9
      have zf := hTf.len
      walk_at "go"
      refine ⟨fo, vf, _, rfl, hfo9, hTf, by omega, fun H10 s10 => ?_⟩
      have s810 := s89.trans s10
      have hfo10 := s10 _ _ hfo9
      have hTf10 := hTf.same s10
      walk_at "go"
      refine x_neT hfo10 hTf10 (s810 _ _ hDu7) (hTdu7.same s810) ?_
      rw [decide_eq_true rfl]
      walk_at "go"
      refine x_neLL (s810 _ _ hpa7) (hRp7.same s810) (s810 _ _ hD7) (hR7.same s810) ?_
      rw [decide_eq_true rfl]
      walk_at "go"
      refine x_neN (s810 _ _ hask7) (s810 _ _ hwa7) ?_
      rw [decide_eq_true rfl]
      have hwa10 := s810 _ _ hwa7
      walk_at "go"
      intro B hB
      refine x_lwL (xs := nv (w0 :: wt)) (fun j H' => Same H10 H' ∧ H' B = some (.lst ((((w0 :: wt).take j).map fun (v : Nat) => decide (rss.getD v [] = rss.getD w0 [])).map V.bl))) ⟨same_new hB, upd_same⟩ (fun j H' _ h => sq_l (h.1 _ _ hwa10)) ?_ ?_
      · rintro j y H11 hj ⟨s11, hB11⟩
        obtain ⟨v, rfl, hv⟩ := of_nv hj
        have hjl := (List.getElem?_eq_some_iff.mp hv).1
        rw [List.length_cons] at hjl
        have etk : (w0 :: wt).take (j + 1) = (w0 :: wt).take j ++ [v] := by rw [List.take_add_one, hv]; rfl
        have s711 := s810.trans s11
        have hR11 := hR7.same s711
        have row : ∀ v, v < N → ∃ a, atI vl (v : Int) = some (.ref a) ∧ H11 a = some (.lst (nv (rss.getD v []))) := fun v hv => by
          have ev : vl[v]? = some (vl[v]'(by omega)) := List.getElem?_eq_getElem (by omega)
          obtain ⟨r, hr1, a, ea, ha⟩ := A2.get hR11 ev
          refine ⟨a, atI_nat (by rw [ev, ea]), ?_⟩
          rw [List.getD_eq_getElem?_getD, hr1]
          exact ha
        obtain ⟨a1, ga1, ha1⟩ := row v (iw.lt v (List.mem_of_getElem? hv))
        obtain ⟨a0, ga0, ha0⟩ := row w0 (iw.lt w0 (List.mem_cons_self ..))
        have hD11 := s711 _ _ hD7
        have hwa11 := s11 _ _ hwa10
        have g0 : atI (nv (w0 :: wt)) 0 = some (.int (w0 : Int)) := by
          have := atI_nat (nv_at (l := w0 :: wt) (i := 0) (v := w0) rfl)
          exact this
        walk_at "go"
        refine x_eqN ha1 ha0 ?_
        refine ⟨_, hB11, sz_lt (by rw [List.length_map, List.length_map, List.length_take, List.length_cons]; omega), same_mut s11 hB, ?_⟩
        rw [upd_same, etk, List.map_append, List.map_append]
        rfl
      · rintro H11 ⟨s11, hB11⟩
        rw [nv_len, List.take_length] at hB11
        walk_at "go"
        refine x_all (b := decide ((vf.length : Int) = 2)) hB11 ?_ ?_
        · rw [List.all_map, Bool.eq_iff_iff, List.all_eq_true, decide_eq_true_eq]
          have e2 : (vf.length : Int) = 2 ↔ (barOf rss (w0 :: wt)).length = 2 := by omega
          rw [e2, ebar.1]
          constructor
          · intro h r hr
            obtain ⟨v, hv, rfl⟩ := List.mem_map.mp hr
            have := h v (List.mem_cons_of_mem _ hv)
            simpa using this
          · intro h v hv
            show id (decide (rss.getD v [] = rss.getD w0 [])) = true
            rcases List.mem_cons.mp hv with rfl | hv
            · exact decide_eq_true rfl
            · exact decide_eq_true (h _ (List.mem_map.mpr ⟨v, hv, rfl⟩))
        · walk_at "go"
          refine x_ne rfl ?_
          rw [decide_eq_true rfl]
          have hfo11 := s11 _ _ hfo10
          walk_at "go"
          refine x_sz (by show 2 ≤ 100000; decide) fun tq htq => ?_
          have hfo12 := new_at (o := .tup [.int (i : Int), .int (i : Int)]) htq hfo11
          have zvf : vf.length < 100000 := by omega
          have fo7 : H7 fo = none := s8.free hfo
          walk_at "go"
          exact ⟨_, _, rfl, same_mut (same_mut ((s810.trans s11).trans (same_new htq)) fo7) fo7⟩
    · rintro _ Hz ⟨y9, y10, rfl, sz⟩
      walk_at "go"
      exact q Hz (k07.same sz)
end
abbrev s_law : Stmt := topS 31
theorem sc_law : FnScope ["script", "k"] ["script"] (defScope s_law) := ⟨rfl, rfl, rfl, by decide +kernel, rfl, by decide +kernel, by decide +kernel⟩
section
variable {P : Program} {w : World} {K : PySem.W.Frag} {mg : Str → Option Value} {base : Heap}
theorem ok_law {f : Addr} {fd : FuncData} (T : Tx mg) (F : Fun K "law" "law" s_law f fd) (c_l_urn : Cal P w K mg base CX0 1 "_law_urn" (spUrn K)) (c_l_right : Cal P w K mg base CX0 6 "_law_right" spRight) : FnOk P w K mg base CX0 (6 + 1) f fd ["script"] (spLaw K) := by
  refine F.ok sc_law (fun vs H Q E h => ?_) (fun cdv A outer s H vs Q E hr h => ?_)
  · obtain ⟨a, ns, rfl, _⟩ := h
    rfl
  · obtain ⟨a, ns, rfl, hs, hl, q⟩ := h
    refine ⟨_, (pss_cons (ps_for PassesOwn.never rfl (pi_range1 rfl T.z_range (pa_cons (pe_callB (cl_max2 rfl) (by rfl) T.z_max (by decide +kernel) (pa_cons pe_int (pa_cons (pe_callB (cl_min2 rfl) (by rfl) T.z_min (by decide +kernel) (pa_cons pe_int (pa_cons (pe_callB (cl_len K) (by rfl) T.z_len PySem.boot_len (pa_cons (pv 0) pa_nil)) pa_nil))) pa_nil))) pa_nil)) (pg_name (i := 1) sc_law.nd rfl (Or.inl rfl))
        (pss_one (ps_if (pt_not (pt_val (pe_cal c_l_right hr (by decide) rfl pass0 (pa_cons (pe_cal c_l_urn hr (by decide) rfl pass0 (pa_cons (pv 0) (pa_cons (pv 1) pa_nil))) pa_nil))))
        (pss_one (ps_ret pe_bl)) pss_nil)))
      (pss_one (ps_ret pe_bl))), ?_⟩
    walk_at "go"
    refine x_lenS hs ?_
    walk_at "go"
    refine x_fwR0 (fun i σ' H' => ∃ y, σ' = [some (.ref a), y] ∧ Same H H') ⟨none, rfl, Same.refl H⟩ ?_ ?_
    · rintro i _ H1 hi ⟨y, rfl, s1⟩
      have hi4 : i < 5 := by
        revert hi
        split <;> split <;> omega
      walk_at "go"
      refine ⟨a, ns, i, rfl, s1.seq hs, by omega, by omega, fun p H2 hp s2 u2 => ?_⟩
      walk_at "go"
      refine ⟨p, rfl, u2, fun H3 k3 => ?_⟩
      walk_at "go"
      exact ⟨_, rfl, same_keep (s1.trans s2) k3 (s1.free hp)⟩
    · rintro _ H1 ⟨y, rfl, s1⟩
      walk_at "go"
      exact q H1
end
theorem all_mk {l : PySem.W.OpenLaw} {w : World} {K : PySem.W.Frag} {h : Heap} {mg : Str → Option Value} {fa : Addr} {C_Web : Addr} {E_InvalidLists : Addr} {f0 : Addr} {oc0 kV0 dc0 pm0 cd0 ct0 : Value} {od0 an0 : Option Addr} {sl0 : Array (Option Value)} {f1 : Addr} {oc1 kV1 dc1 pm1 cd1 ct1 : Value} {od1 an1 : Option Addr} {sl1 : Array (Option Value)} {f2 : Addr} {oc2 kV2 dc2 pm2 cd2 ct2 : Value} {od2 an2 : Option Addr} {sl2 : Array (Option Value)} {f3 : Addr} {oc3 kV3 dc3 pm3 cd3 ct3 : Value} {od3 an3 : Option Addr} {sl3 : Array (Option Value)} {f4 : Addr} {oc4 kV4 dc4 pm4 cd4 ct4 : Value} {od4 an4 : Option Addr} {sl4 : Array (Option Value)} {f5 : Addr} {oc5 kV5 dc5 pm5 cd5 ct5 : Value} {od5 an5 : Option Addr} {sl5 : Array (Option Value)} {f6 : Addr} {oc6 kV6 dc6 pm6 cd6 ct6 : Value} {od6 an6 : Option Addr} {sl6 : Array (Option Value)} {f7 : Addr} {oc7 kV7 dc7 pm7 cd7 ct7 : Value} {od7 an7 : Option Addr} {sl7 : Array (Option Value)} {f8 : Addr} {oc8 kV8 dc8 pm8 cd8 ct8 : Value} {od8 an8 : Option Addr} {sl8 : Array (Option Value)} {f9 : Addr} {oc9 kV9 dc9 pm9 cd9 ct9 : Value} {od9 an9 : Option Addr} {sl9 : Array (Option Value)} {f10 : Addr} {oc10 kV10 dc10 pm10 cd10 ct10 : Value} {od10 an10 : Option Addr} {sl10 : Array (Option Value)} {f11 : Addr} {oc11 kV11 dc11 pm11 cd11 ct11 : Value} {od11 an11 : Option Addr} {sl11 : Array (Option Value)} {f12 : Addr} {oc12 kV12 dc12 pm12 cd12 ct12 : Value} {od12 an12 : Option Addr} {sl12 : Array (Option Value)} {f13 : Addr} {oc13 kV13 dc13 pm13 cd13 ct13 : Value} {od13 an13 : Option Addr} {sl13 : Array (Option Value)} {f14 : Addr} {oc14 kV14 dc14 pm14 cd14 ct14 : Value} {od14 an14 : Option Addr} {sl14 : Array (Option Value)} {f15 : Addr} {oc15 kV15 dc15 pm15 cd15 ct15 : Value} {od15 an15 : Option Addr} {sl15 : Array (Option Value)} {f16 : Addr} {oc16 kV16 dc16 pm16 cd16 ct16 : Value} {od16 an16 : Option Addr} {sl16 : Array (Option Value)} {f17 : Addr} {oc17 kV17 dc17 pm17 cd17 ct17 : Value} {od17 an17 : Option Addr} {sl17 : Array (Option Value)} {f18 : Addr} {oc18 kV18 dc18 pm18 cd18 ct18 : Value} {od18 an18 : Option Addr} {sl18 : Array (Option Value)} {f19 : Addr} {oc19 kV19 dc19 pm19 cd19 ct19 : Value} {od19 an19 : Option Addr} {sl19 : Array (Option Value)} {f20 : Addr} {oc20 kV20 dc20 pm20 cd20 ct20 : Value} {od20 an20 : Option Addr} {sl20 : Array (Option Value)} {f21 : Addr} {oc21 kV21 dc21 pm21 cd21 ct21 : Value} {od21 an21 : Option Addr} {sl21 : Array (Option Value)} {f22 : Addr} {oc22 kV22 dc22 pm22 cd22 ct22 : Value} {od22 an22 : Option Addr} {sl22 : Array (Option Value)} {f23 : Addr} {oc23 kV23 dc23 pm23 cd23 ct23 : Value} {od23 an23 : Option Addr} {sl23 : Array (Option Value)}
    (X : K.In h) (G : h.Ns mainGlobals mg) (hfa : mg "law" = some (.ref fa))
    (aC_Web : PySem.W.nsIn K mainGlobals "Web" = some (some (.ref C_Web)))
    (pg_Web : PySem.W.plainGet K C_Web Str.empty = true)
    (hd_Web : PySem.W.hasDictIn K C_Web = true)
    (po_Web : PySem.W.plainOver K C_Web = true)
    (sa_Web : PySem.W.findIn K (.ref C_Web) "__setattr__" = some (some (.builtin "object.__setattr__")))
    (mk_Web : PySem.W.makesIn K C_Web = true)
    (kc_Web : PySem.W.keepIn K (.ref C_Web) = true)
    (n_Web_beside : PySem.W.findIn K (.ref C_Web) "beside" = some none)
    (gE_InvalidLists : PySem.W.nsIn K mainGlobals "InvalidLists" = some (some (.ref E_InvalidLists)))
    (xE_InvalidLists : PySem.W.excIn K E_InvalidLists [.type "ValueError", .type "Exception", .type "BaseException", .type "object"] "ValueError.__new__" = true)
    (kE_InvalidLists : PySem.W.keepIn K (.ref E_InvalidLists) = true)
    (bE_InvalidLists : PySem.W.subIn K (.ref E_InvalidLists) (.type "BaseException") = some true)
    (tE_InvalidLists : PySem.W.typeIn K (.ref E_InvalidLists) = some (.type "type"))
    (iE_InvalidLists : PySem.W.isClsIn K E_InvalidLists = true)
    (sE_InvalidLists : PySem.W.subIn K (.ref E_InvalidLists) (.ref E_InvalidLists) = some true)
    (z_all : PySem.W.nsIn K mainGlobals "all" = some none)
    (z_bool : PySem.W.nsIn K mainGlobals "bool" = some none)
    (z_int : PySem.W.nsIn K mainGlobals "int" = some none)
    (z_isinstance : PySem.W.nsIn K mainGlobals "isinstance" = some none)
    (z_len : PySem.W.nsIn K mainGlobals "len" = some none)
    (z_list : PySem.W.nsIn K mainGlobals "list" = some none)
    (z_max : PySem.W.nsIn K mainGlobals "max" = some none)
    (z_min : PySem.W.nsIn K mainGlobals "min" = some none)
    (z_property : PySem.W.nsIn K mainGlobals "property" = some none)
    (z_range : PySem.W.nsIn K mainGlobals "range" = some none)
    (z_sorted : PySem.W.nsIn K mainGlobals "sorted" = some none)
    (z_tuple : PySem.W.nsIn K mainGlobals "tuple" = some none)
    (z_zip : PySem.W.nsIn K mainGlobals "zip" = some none)
    (a0 : PySem.W.nsIn K mainGlobals "is_integer" = some (some (.ref f0)))
    (l0 : K.lookup f0 = some ⟨oc0, od0, .func (PySem.W.fnOf "is_integer" "is_integer" (defArgs s_is_integer) (defBody s_is_integer) (defScope s_is_integer) .none kV0 dc0 pm0 an0 cd0 ct0), sl0⟩)
    (c0 : PySem.W.codeIn K cd0 "is_integer" = true)
    (k0 : PySem.W.keepIn K (.ref f0) = true)
    (a1 : PySem.W.nsIn K mainGlobals "is_tie" = some (some (.ref f1)))
    (l1 : K.lookup f1 = some ⟨oc1, od1, .func (PySem.W.fnOf "is_tie" "is_tie" (defArgs s_is_tie) (defBody s_is_tie) (defScope s_is_tie) .none kV1 dc1 pm1 an1 cd1 ct1), sl1⟩)
    (c1 : PySem.W.codeIn K cd1 "is_tie" = true)
    (k1 : PySem.W.keepIn K (.ref f1) = true)
    (a2 : PySem.W.findIn K (.ref C_Web) "__init__" = some (some (.ref f2)))
    (i2 : PySem.W.isFn K (.ref f2) = true)
    (l2 : K.lookup f2 = some ⟨oc2, od2, .func (PySem.W.fnOf "__init__" "Web.__init__" (defArgs s_WebD_initD) (defBody s_WebD_initD) (defScope s_WebD_initD) .none kV2 dc2 pm2 an2 cd2 ct2), sl2⟩)
    (c2 : PySem.W.codeIn K cd2 "Web.__init__" = true)
    (k2 : PySem.W.keepIn K (.ref f2) = true)
    (a3 : PySem.W.findIn K (.ref C_Web) "__len__" = some (some (.ref f3)))
    (i3 : PySem.W.isFn K (.ref f3) = true)
    (l3 : K.lookup f3 = some ⟨oc3, od3, .func (PySem.W.fnOf "__len__" "Web.__len__" (defArgs s_WebD_lenD) (defBody s_WebD_lenD) (defScope s_WebD_lenD) .none kV3 dc3 pm3 an3 cd3 ct3), sl3⟩)
    (c3 : PySem.W.codeIn K cd3 "Web.__len__" = true)
    (k3 : PySem.W.keepIn K (.ref f3) = true)
    (a4 : PySem.W.findIn K (.ref C_Web) "is_place" = some (some (.ref f4)))
    (i4 : PySem.W.isFn K (.ref f4) = true)
    (l4 : K.lookup f4 = some ⟨oc4, od4, .func (PySem.W.fnOf "is_place" "Web.is_place" (defArgs s_Web_is_place) (defBody s_Web_is_place) (defScope s_Web_is_place) .none kV4 dc4 pm4 an4 cd4 ct4), sl4⟩)
    (c4 : PySem.W.codeIn K cd4 "Web.is_place" = true)
    (k4 : PySem.W.keepIn K (.ref f4) = true)
    (a5 : PySem.W.findIn K (.ref C_Web) "is_way" = some (some (.ref f5)))
    (i5 : PySem.W.isFn K (.ref f5) = true)
    (l5 : K.lookup f5 = some ⟨oc5, od5, .func (PySem.W.fnOf "is_way" "Web.is_way" (defArgs s_Web_is_way) (defBody s_Web_is_way) (defScope s_Web_is_way) .none kV5 dc5 pm5 an5 cd5 ct5), sl5⟩)
    (c5 : PySem.W.codeIn K cd5 "Web.is_way" = true)
    (k5 : PySem.W.keepIn K (.ref f5) = true)
    (a6 : PySem.W.nsIn K mainGlobals "is_hue" = some (some (.ref f6)))
    (l6 : K.lookup f6 = some ⟨oc6, od6, .func (PySem.W.fnOf "is_hue" "is_hue" (defArgs s_is_hue) (defBody s_is_hue) (defScope s_is_hue) .none kV6 dc6 pm6 an6 cd6 ct6), sl6⟩)
    (c6 : PySem.W.codeIn K cd6 "is_hue" = true)
    (k6 : PySem.W.keepIn K (.ref f6) = true)
    (a7 : PySem.W.nsIn K mainGlobals "is_hues" = some (some (.ref f7)))
    (l7 : K.lookup f7 = some ⟨oc7, od7, .func (PySem.W.fnOf "is_hues" "is_hues" (defArgs s_is_hues) (defBody s_is_hues) (defScope s_is_hues) .none kV7 dc7 pm7 an7 cd7 ct7), sl7⟩)
    (c7 : PySem.W.codeIn K cd7 "is_hues" = true)
    (k7 : PySem.W.keepIn K (.ref f7) = true)
    (a8 : PySem.W.nsIn K mainGlobals "check_lists" = some (some (.ref f8)))
    (l8 : K.lookup f8 = some ⟨oc8, od8, .func (PySem.W.fnOf "check_lists" "check_lists" (defArgs s_check_lists) (defBody s_check_lists) (defScope s_check_lists) .none kV8 dc8 pm8 an8 cd8 ct8), sl8⟩)
    (c8 : PySem.W.codeIn K cd8 "check_lists" = true)
    (k8 : PySem.W.keepIn K (.ref f8) = true)
    (a9 : PySem.W.nsIn K mainGlobals "other_hue" = some (some (.ref f9)))
    (l9 : K.lookup f9 = some ⟨oc9, od9, .func (PySem.W.fnOf "other_hue" "other_hue" (defArgs s_other_hue) (defBody s_other_hue) (defScope s_other_hue) .none kV9 dc9 pm9 an9 cd9 ct9), sl9⟩)
    (c9 : PySem.W.codeIn K cd9 "other_hue" = true)
    (k9 : PySem.W.keepIn K (.ref f9) = true)
    (a10 : PySem.W.nsIn K mainGlobals "barred_pairs" = some (some (.ref f10)))
    (l10 : K.lookup f10 = some ⟨oc10, od10, .func (PySem.W.fnOf "barred_pairs" "barred_pairs" (defArgs s_barred_pairs) (defBody s_barred_pairs) (defScope s_barred_pairs) .none kV10 dc10 pm10 an10 cd10 ct10), sl10⟩)
    (c10 : PySem.W.codeIn K cd10 "barred_pairs" = true)
    (k10 : PySem.W.keepIn K (.ref f10) = true)
    (a11 : PySem.W.nsIn K mainGlobals "_law_urn" = some (some (.ref f11)))
    (l11 : K.lookup f11 = some ⟨oc11, od11, .func (PySem.W.fnOf "_law_urn" "_law_urn" (defArgs s_l_urn) (defBody s_l_urn) (defScope s_l_urn) .none kV11 dc11 pm11 an11 cd11 ct11), sl11⟩)
    (c11 : PySem.W.codeIn K cd11 "_law_urn" = true)
    (k11 : PySem.W.keepIn K (.ref f11) = true)
    (a12 : PySem.W.nsIn K mainGlobals "_law_pick" = some (some (.ref f12)))
    (l12 : K.lookup f12 = some ⟨oc12, od12, .func (PySem.W.fnOf "_law_pick" "_law_pick" (defArgs s_l_pick) (defBody s_l_pick) (defScope s_l_pick) .none kV12 dc12 pm12 an12 cd12 ct12), sl12⟩)
    (c12 : PySem.W.codeIn K cd12 "_law_pick" = true)
    (k12 : PySem.W.keepIn K (.ref f12) = true)
    (a13 : PySem.W.nsIn K mainGlobals "_law_whole" = some (some (.ref f13)))
    (l13 : K.lookup f13 = some ⟨oc13, od13, .func (PySem.W.fnOf "_law_whole" "_law_whole" (defArgs s_l_whole) (defBody s_l_whole) (defScope s_l_whole) .none kV13 dc13 pm13 an13 cd13 ct13), sl13⟩)
    (c13 : PySem.W.codeIn K cd13 "_law_whole" = true)
    (k13 : PySem.W.keepIn K (.ref f13) = true)
    (a14 : PySem.W.nsIn K mainGlobals "_law_pairs" = some (some (.ref f14)))
    (l14 : K.lookup f14 = some ⟨oc14, od14, .func (PySem.W.fnOf "_law_pairs" "_law_pairs" (defArgs s_l_pairs) (defBody s_l_pairs) (defScope s_l_pairs) .none kV14 dc14 pm14 an14 cd14 ct14), sl14⟩)
    (c14 : PySem.W.codeIn K cd14 "_law_pairs" = true)
    (k14 : PySem.W.keepIn K (.ref f14) = true)
    (a15 : PySem.W.nsIn K mainGlobals "_law_shuffled" = some (some (.ref f15)))
    (l15 : K.lookup f15 = some ⟨oc15, od15, .func (PySem.W.fnOf "_law_shuffled" "_law_shuffled" (defArgs s_l_shuffled) (defBody s_l_shuffled) (defScope s_l_shuffled) .none kV15 dc15 pm15 an15 cd15 ct15), sl15⟩)
    (c15 : PySem.W.codeIn K cd15 "_law_shuffled" = true)
    (k15 : PySem.W.keepIn K (.ref f15) = true)
    (a16 : PySem.W.nsIn K mainGlobals "_law_pool" = some (some (.ref f16)))
    (l16 : K.lookup f16 = some ⟨oc16, od16, .func (PySem.W.fnOf "_law_pool" "_law_pool" (defArgs s_l_pool) (defBody s_l_pool) (defScope s_l_pool) .none kV16 dc16 pm16 an16 cd16 ct16), sl16⟩)
    (c16 : PySem.W.codeIn K cd16 "_law_pool" = true)
    (k16 : PySem.W.keepIn K (.ref f16) = true)
    (a17 : PySem.W.nsIn K mainGlobals "_law_row" = some (some (.ref f17)))
    (l17 : K.lookup f17 = some ⟨oc17, od17, .func (PySem.W.fnOf "_law_row" "_law_row" (defArgs s_l_row) (defBody s_l_row) (defScope s_l_row) .none kV17 dc17 pm17 an17 cd17 ct17), sl17⟩)
    (c17 : PySem.W.codeIn K cd17 "_law_row" = true)
    (k17 : PySem.W.keepIn K (.ref f17) = true)
    (a18 : PySem.W.nsIn K mainGlobals "_law_copies" = some (some (.ref f18)))
    (l18 : K.lookup f18 = some ⟨oc18, od18, .func (PySem.W.fnOf "_law_copies" "_law_copies" (defArgs s_l_copies) (defBody s_l_copies) (defScope s_l_copies) .none kV18 dc18 pm18 an18 cd18 ct18), sl18⟩)
    (c18 : PySem.W.codeIn K cd18 "_law_copies" = true)
    (k18 : PySem.W.keepIn K (.ref f18) = true)
    (a19 : PySem.W.nsIn K mainGlobals "_law_way_web" = some (some (.ref f19)))
    (l19 : K.lookup f19 = some ⟨oc19, od19, .func (PySem.W.fnOf "_law_way_web" "_law_way_web" (defArgs s_l_way_web) (defBody s_l_way_web) (defScope s_l_way_web) .none kV19 dc19 pm19 an19 cd19 ct19), sl19⟩)
    (c19 : PySem.W.codeIn K cd19 "_law_way_web" = true)
    (k19 : PySem.W.keepIn K (.ref f19) = true)
    (a20 : PySem.W.nsIn K mainGlobals "_law_way_lists" = some (some (.ref f20)))
    (l20 : K.lookup f20 = some ⟨oc20, od20, .func (PySem.W.fnOf "_law_way_lists" "_law_way_lists" (defArgs s_l_way_lists) (defBody s_l_way_lists) (defScope s_l_way_lists) .none kV20 dc20 pm20 an20 cd20 ct20), sl20⟩)
    (c20 : PySem.W.codeIn K cd20 "_law_way_lists" = true)
    (k20 : PySem.W.keepIn K (.ref f20) = true)
    (a21 : PySem.W.nsIn K mainGlobals "_law_due" = some (some (.ref f21)))
    (l21 : K.lookup f21 = some ⟨oc21, od21, .func (PySem.W.fnOf "_law_due" "_law_due" (defArgs s_l_due) (defBody s_l_due) (defScope s_l_due) .none kV21 dc21 pm21 an21 cd21 ct21), sl21⟩)
    (c21 : PySem.W.codeIn K cd21 "_law_due" = true)
    (k21 : PySem.W.keepIn K (.ref f21) = true)
    (a22 : PySem.W.nsIn K mainGlobals "_law_right" = some (some (.ref f22)))
    (l22 : K.lookup f22 = some ⟨oc22, od22, .func (PySem.W.fnOf "_law_right" "_law_right" (defArgs s_l_right) (defBody s_l_right) (defScope s_l_right) .none kV22 dc22 pm22 an22 cd22 ct22), sl22⟩)
    (c22 : PySem.W.codeIn K cd22 "_law_right" = true)
    (k22 : PySem.W.keepIn K (.ref f22) = true)
    (a23 : PySem.W.nsIn K mainGlobals "law" = some (some (.ref f23)))
    (l23 : K.lookup f23 = some ⟨oc23, od23, .func (PySem.W.fnOf "law" "law" (defArgs s_law) (defBody s_law) (defScope s_law) .none kV23 dc23 pm23 an23 cd23 ct23), sl23⟩)
    (c23 : PySem.W.codeIn K cd23 "law" = true)
    (k23 : PySem.W.keepIn K (.ref f23) = true) :
    ∃ fd : FuncData, (∀ (s : Shared) (v : Value), BindsTo s fd ⟨[v], []⟩ [("script", v)]) ∧ ∀ base : Heap, K.In base → base.Ns mainGlobals mg → FnOk l.prog w K mg base CX0 7 fa fd ["script"] (spLaw K) := by
  have e := hfa.symm.trans (PySem.W.mg_of X G a23)
  cases e
  have O_Web : Own K mg "Web" C_Web := own_mk X G aC_Web pg_Web hd_Web po_Web sa_Web mk_Web kc_Web
  have n_Web_beside : NoAttr K C_Web "beside" := n_Web_beside
  have X_InvalidLists : Exq K mg "InvalidLists" E_InvalidLists := ⟨PySem.W.mg_of X G gE_InvalidLists, xE_InvalidLists, kE_InvalidLists, bE_InvalidLists, tE_InvalidLists, iE_InvalidLists, sE_InvalidLists⟩
  have T : Tx mg := ⟨PySem.W.mg_none_of X G z_all, PySem.W.mg_none_of X G z_bool, PySem.W.mg_none_of X G z_int, PySem.W.mg_none_of X G z_isinstance, PySem.W.mg_none_of X G z_len, PySem.W.mg_none_of X G z_list, PySem.W.mg_none_of X G z_max, PySem.W.mg_none_of X G z_min, PySem.W.mg_none_of X G z_property, PySem.W.mg_none_of X G z_range, PySem.W.mg_none_of X G z_sorted, PySem.W.mg_none_of X G z_tuple, PySem.W.mg_none_of X G z_zip⟩
  have D_is_integer : DefAt K mg "is_integer" s_is_integer ["value"] := defAt_mk X G a0 l0 c0 k0 (fun _ _ _ _ _ _ us hl => match us, hl with | [_], _ => rfl)
  have D_is_tie : DefAt K mg "is_tie" s_is_tie ["places", "value"] := defAt_mk X G a1 l1 c1 k1 (fun _ _ _ _ _ _ us hl => match us, hl with | [_, _], _ => rfl)
  have D_WebD_initD : MetAt K C_Web "__init__" "Web.__init__" s_WebD_initD ["self", "places", "ties"] := metAt_mk a2 i2 l2 c2 k2 (fun _ _ _ _ _ _ us hl => match us, hl with | [_, _, _], _ => rfl)
  have D_WebD_lenD : MetAt K C_Web "__len__" "Web.__len__" s_WebD_lenD ["self"] := metAt_mk a3 i3 l3 c3 k3 (fun _ _ _ _ _ _ us hl => match us, hl with | [_], _ => rfl)
  have D_Web_is_place : MetAt K C_Web "is_place" "Web.is_place" s_Web_is_place ["self", "value"] := metAt_mk a4 i4 l4 c4 k4 (fun _ _ _ _ _ _ us hl => match us, hl with | [_, _], _ => rfl)
  have D_Web_is_way : MetAt K C_Web "is_way" "Web.is_way" s_Web_is_way ["self", "value"] := metAt_mk a5 i5 l5 c5 k5 (fun _ _ _ _ _ _ us hl => match us, hl with | [_, _], _ => rfl)
  have D_is_hue : DefAt K mg "is_hue" s_is_hue ["value"] := defAt_mk X G a6 l6 c6 k6 (fun _ _ _ _ _ _ us hl => match us, hl with | [_], _ => rfl)
  have D_is_hues : DefAt K mg "is_hues" s_is_hues ["value"] := defAt_mk X G a7 l7 c7 k7 (fun _ _ _ _ _ _ us hl => match us, hl with | [_], _ => rfl)
  have D_check_lists : DefAt K mg "check_lists" s_check_lists ["web", "lists"] := defAt_mk X G a8 l8 c8 k8 (fun _ _ _ _ _ _ us hl => match us, hl with | [_, _], _ => rfl)
  have D_other_hue : DefAt K mg "other_hue" s_other_hue ["row", "hue"] := defAt_mk X G a9 l9 c9 k9 (fun _ _ _ _ _ _ us hl => match us, hl with | [_, _], _ => rfl)
  have D_barred_pairs : DefAt K mg "barred_pairs" s_barred_pairs ["web", "lists", "way"] := defAt_mk X G a10 l10 c10 k10 (fun _ _ _ _ _ _ us hl => match us, hl with | [_, _, _], _ => rfl)
  have D_l_urn : DefAt K mg "_law_urn" s_l_urn ["script", "k"] := defAt_mk X G a11 l11 c11 k11 (fun _ _ _ _ _ _ us hl => match us, hl with | [_, _], _ => rfl)
  have D_l_pick : DefAt K mg "_law_pick" s_l_pick ["urn", "many"] := defAt_mk X G a12 l12 c12 k12 (fun _ _ _ _ _ _ us hl => match us, hl with | [_, _], _ => rfl)
  have D_l_whole : DefAt K mg "_law_whole" s_l_whole ["value"] := defAt_mk X G a13 l13 c13 k13 (fun _ _ _ _ _ _ us hl => match us, hl with | [_], _ => rfl)
  have D_l_pairs : DefAt K mg "_law_pairs" s_l_pairs ["value"] := defAt_mk X G a14 l14 c14 k14 (fun _ _ _ _ _ _ us hl => match us, hl with | [_], _ => rfl)
  have D_l_shuffled : DefAt K mg "_law_shuffled" s_l_shuffled ["urn", "things"] := defAt_mk X G a15 l15 c15 k15 (fun _ _ _ _ _ _ us hl => match us, hl with | [_, _], _ => rfl)
  have D_l_pool : DefAt K mg "_law_pool" s_l_pool ["urn", "many"] := defAt_mk X G a16 l16 c16 k16 (fun _ _ _ _ _ _ us hl => match us, hl with | [_, _], _ => rfl)
  have D_l_row : DefAt K mg "_law_row" s_l_row ["urn", "pool", "size"] := defAt_mk X G a17 l17 c17 k17 (fun _ _ _ _ _ _ us hl => match us, hl with | [_, _, _], _ => rfl)
  have D_l_copies : DefAt K mg "_law_copies" s_l_copies ["rows"] := defAt_mk X G a18 l18 c18 k18 (fun _ _ _ _ _ _ us hl => match us, hl with | [_], _ => rfl)
  have D_l_way_web : DefAt K mg "_law_way_web" s_l_way_web ["urn", "most"] := defAt_mk X G a19 l19 c19 k19 (fun _ _ _ _ _ _ us hl => match us, hl with | [_, _], _ => rfl)
  have D_l_way_lists : DefAt K mg "_law_way_lists" s_l_way_lists ["urn", "places", "way"] := defAt_mk X G a20 l20 c20 k20 (fun _ _ _ _ _ _ us hl => match us, hl with | [_, _, _], _ => rfl)
  have D_l_due : DefAt K mg "_law_due" s_l_due ["rows", "way"] := defAt_mk X G a21 l21 c21 k21 (fun _ _ _ _ _ _ us hl => match us, hl with | [_, _], _ => rfl)
  have D_l_right : DefAt K mg "_law_right" s_l_right ["urn"] := defAt_mk X G a22 l22 c22 k22 (fun _ _ _ _ _ _ us hl => match us, hl with | [_], _ => rfl)
  refine ⟨PySem.W.fnOf "law" "law" (defArgs s_law) (defBody s_law) (defScope s_law) .none kV23 dc23 pm23 an23 cd23 ct23, fun s v => .of_eq rfl, fun base _ _ => ?_⟩
  have q1 := c_is_integer (base := base) (P := l.prog) (w := w) (K := K) T D_is_integer
  have q2 := c_is_tie (base := base) (P := l.prog) (w := w) (K := K) T D_is_tie q1
  have q3 := m_Web_init (base := base) (P := l.prog) (w := w) T O_Web n_Web_beside D_WebD_initD q1 q2
  have q4 := o_Web_len (base := base) (P := l.prog) (w := w) T O_Web n_Web_beside D_WebD_lenD
  have q5 := m_Web_is_place (base := base) (P := l.prog) (w := w) T O_Web n_Web_beside D_Web_is_place q1
  have q6 := c_l_urn (base := base) (P := l.prog) (w := w) (K := K) T D_l_urn
  have q7 := c_pick (base := base) (P := l.prog) (w := w) (K := K) T D_l_pick
  have q8 := m_Web_is_way (base := base) (P := l.prog) (w := w) T O_Web n_Web_beside D_Web_is_way q5
  have q9 := c_l_whole (base := base) (P := l.prog) (w := w) (K := K) T D_l_whole
  have q10 := c_l_shuffled (base := base) (P := l.prog) (w := w) (K := K) T D_l_shuffled q7
  have q11 := c_l_pairs (base := base) (P := l.prog) (w := w) (K := K) T D_l_pairs q9
  have q12 := c_is_hue (base := base) (P := l.prog) (w := w) (K := K) T D_is_hue q1
  have q13 := c_is_hues (base := base) (P := l.prog) (w := w) (K := K) T D_is_hues q12
  have q14 := c_check_lists (base := base) (P := l.prog) (w := w) (K := K) (C := C_Web) T X_InvalidLists D_check_lists q13 q4
  have q15 := c_other_hue (base := base) (P := l.prog) (w := w) (K := K) T D_other_hue
  have q16 := c_l_pool (base := base) (P := l.prog) (w := w) (K := K) T D_l_pool q7
  have q17 := c_l_row (base := base) (P := l.prog) (w := w) (K := K) T D_l_row q10
  have q18 := c_barred_pairs (base := base) (P := l.prog) (w := w) (K := K) T O_Web D_barred_pairs q8 q14 q15
  have q19 := c_l_copies (base := base) (P := l.prog) (w := w) (K := K) T D_l_copies
  have q20 := c_l_way_web (base := base) (P := l.prog) (w := w) (K := K) T D_l_way_web q7 q10
  have q22 := c_l_way_lists (base := base) (P := l.prog) (w := w) (K := K) T D_l_way_lists q7 q16 q17
  have q23 := c_l_due (base := base) (P := l.prog) (w := w) (K := K) T D_l_due
  have q21 := c_l_right (base := base) (P := l.prog) (w := w) (CL := E_InvalidLists) T O_Web D_l_right q20 q22 q23 q19 q18 q11 q3
  exact ok_law T (fun_mk l23 c23 k23) q6 q21
end OC
open PySem PySem.W PyProof.Rows
set_option maxRecDepth 100000 in
set_option maxHeartbeats 0 in
theorem PySem.Challenge.cw_ownhues_k19_pairs_that_short_ways_bar_holds : PySem.Challenge.rw_ownhues_k19_pairs_that_short_ways_bar.Holds := by
  w_on; o_law; k_head; (case hw => w_witness2)
  k_fill
  refine L2.walk_of (l := PySem.Challenge.rw_ownhues_k19_pairs_that_short_ways_bar) (n := 63) (k := 7) (x := "script") (CX := fun _ => L2.CX0) (sp := fun w => OC.spLaw _) rfl (by decide) rfl ⟨rfl, by decide, by decide⟩ (fun w h Y => PySem.W.kIn_of Y) ?F (fun _ _ a ns hl _ hS => ⟨a, ns, rfl, hS, hl, fun _ => rfl⟩) (fun _ _ _ _ _ h => h)
  case F =>
    intro w mg fa h KX G hmg
    refine' OC.all_mk KX G hmg ?aC_Web ?pg_Web ?hd_Web ?po_Web ?sa_Web ?mk_Web ?kc_Web ?n_Web_beside ?gE_InvalidLists ?xE_InvalidLists ?kE_InvalidLists ?bE_InvalidLists ?tE_InvalidLists ?iE_InvalidLists ?sE_InvalidLists ?z_all ?z_bool ?z_int ?z_isinstance ?z_len ?z_list ?z_max ?z_min ?z_property ?z_range ?z_sorted ?z_tuple ?z_zip ?a0 ?l0 ?c0 ?k0 ?a1 ?l1 ?c1 ?k1 ?a2 ?i2 ?l2 ?c2 ?k2 ?a3 ?i3 ?l3 ?c3 ?k3 ?a4 ?i4 ?l4 ?c4 ?k4 ?a5 ?i5 ?l5 ?c5 ?k5 ?a6 ?l6 ?c6 ?k6 ?a7 ?l7 ?c7 ?k7 ?a8 ?l8 ?c8 ?k8 ?a9 ?l9 ?c9 ?k9 ?a10 ?l10 ?c10 ?k10 ?a11 ?l11 ?c11 ?k11 ?a12 ?l12 ?c12 ?k12 ?a13 ?l13 ?c13 ?k13 ?a14 ?l14 ?c14 ?k14 ?a15 ?l15 ?c15 ?k15 ?a16 ?l16 ?c16 ?k16 ?a17 ?l17 ?c17 ?k17 ?a18 ?l18 ?c18 ?k18 ?a19 ?l19 ?c19 ?k19 ?a20 ?l20 ?c20 ?k20 ?a21 ?l21 ?c21 ?k21 ?a22 ?l22 ?c22 ?k22 ?a23 ?l23 ?c23 ?k23
    (case aC_Web => k_is); (case pg_Web => k_is); (case hd_Web => k_is); (case po_Web => k_is); (case sa_Web => k_is); (case mk_Web => k_is); (case kc_Web => k_is); (case n_Web_beside => k_is)
    (case gE_InvalidLists => k_is); (case xE_InvalidLists => k_exc); (case kE_InvalidLists => k_is); (case bE_InvalidLists => k_is); (case tE_InvalidLists => k_is); (case iE_InvalidLists => k_is); (case sE_InvalidLists => first | rfl | k_is); (case z_all => k_is)
    (case z_bool => k_is); (case z_int => k_is); (case z_isinstance => k_is); (case z_len => k_is); (case z_list => k_is); (case z_max => k_is); (case z_min => k_is); (case z_property => k_is)
    (case z_range => k_is); (case z_sorted => k_is); (case z_tuple => k_is); (case z_zip => k_is); (case a0 => k_is); (case l0 => k_is); (case c0 => k_is); (case k0 => k_is)
    (case a1 => k_is); (case l1 => k_is); (case c1 => k_is); (case k1 => k_is); (case a2 => k_is); (case i2 => k_is); (case l2 => k_is); (case c2 => k_is)
    (case k2 => k_is); (case a3 => k_is); (case i3 => k_is); (case l3 => k_is); (case c3 => k_is); (case k3 => k_is); (case a4 => k_is); (case i4 => k_is)
    (case l4 => k_is); (case c4 => k_is); (case k4 => k_is); (case a5 => k_is); (case i5 => k_is); (case l5 => k_is); (case c5 => k_is); (case k5 => k_is)
    (case a6 => k_is); (case l6 => k_is); (case c6 => k_is); (case k6 => k_is); (case a7 => k_is); (case l7 => k_is); (case c7 => k_is); (case k7 => k_is)
    (case a8 => k_is); (case l8 => k_is); (case c8 => k_is); (case k8 => k_is); (case a9 => k_is); (case l9 => k_is); (case c9 => k_is); (case k9 => k_is)
    (case a10 => k_is); (case l10 => k_is); (case c10 => k_is); (case k10 => k_is); (case a11 => k_is); (case l11 => k_is); (case c11 => k_is); (case k11 => k_is)
    (case a12 => k_is); (case l12 => k_is); (case c12 => k_is); (case k12 => k_is); (case a13 => k_is); (case l13 => k_is); (case c13 => k_is); (case k13 => k_is)
    (case a14 => k_is); (case l14 => k_is); (case c14 => k_is); (case k14 => k_is); (case a15 => k_is); (case l15 => k_is); (case c15 => k_is); (case k15 => k_is)
    (case a16 => k_is); (case l16 => k_is); (case c16 => k_is); (case k16 => k_is); (case a17 => k_is); (case l17 => k_is); (case c17 => k_is); (case k17 => k_is)
    (case a18 => k_is); (case l18 => k_is); (case c18 => k_is); (case k18 => k_is); (case a19 => k_is); (case l19 => k_is); (case c19 => k_is); (case k19 => k_is)
    (case a20 => k_is); (case l20 => k_is); (case c20 => k_is); (case k20 => k_is); (case a21 => k_is); (case l21 => k_is); (case c21 => k_is); (case k21 => k_is)
    (case a22 => k_is); (case l22 => k_is); (case c22 => k_is); (case k22 => k_is); (case a23 => k_is); (case l23 => k_is); (case c23 => k_is); (case k23 => k_is)
