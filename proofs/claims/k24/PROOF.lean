import PyProof.Rows.All
import Wide.All
import OpenK.AllK
import Wide.FinOn
import HandS.ForMost
import HandS.ForExc
import HandS.Wide
import HandS.SortInts
import HandS.SortRule
import HandS.Conv
import HandS.IsInst
import HandS.Deep
import HandS.Property
import HandS.Evl
import HandS.Style
import HandS.More
import PySem.Challenge.RW_ownhues_k24_whole_places_struck_in_order

set_option Elab.async false
set_option linter.all false
set_option maxRecDepth 100000
set_option maxHeartbeats 4000000
/-! OC: short steps through a reading, own lemmas. -/
namespace OC
open PySem PySem.Spec PyProof.Rows L2
abbrev St := L2.St

/-! ### heaps -/
/-- all but u is as it was -/
def Keep (u : Addr) (H H' : Hp) : Prop := ∀ a o, H a = some o → a ≠ u → H' a = some o
theorem Keep.refl {u : Addr} (H : Hp) : Keep u H H := fun _ _ h _ => h
theorem Keep.trans {u : Addr} {H H1 H2 : Hp} (a : Keep u H H1) (b : Keep u H1 H2) : Keep u H H2 := fun x o h n => b x o (a x o h n) n
theorem Keep.same {u : Addr} {H H1 H2 : Hp} (a : Keep u H H1) (b : Same H1 H2) : Keep u H H2 := fun x o h n => b x o (a x o h n)
theorem Same.keep {u : Addr} {H H1 H2 : Hp} (a : Same H H1) (b : Keep u H1 H2) : Keep u H H2 := fun x o h n => b x o (a x o h) n
theorem Same.toKeep {u : Addr} {H H1 : Hp} (a : Same H H1) : Keep u H H1 := fun x o h _ => a x o h
theorem Keep.at {u a : Addr} {H H' : Hp} {o : HO} (k : Keep u H H') (h : H a = some o) (n : a ≠ u) : H' a = some o := k a o h n
theorem sat {a : Addr} {H H' : Hp} {o : HO} (k : Same H H') (h : H a = some o) : H' a = some o := k a o h
theorem same_new {H : Hp} {p : Addr} {o : HO} (h : H p = none) : Same H (upd H p o) := fun b x e => by
  rw [upd_ne (ne_of_none e h)]
  exact e
theorem new_at {H : Hp} {p a : Addr} {o x : HO} (h : H p = none) (e : H a = some x) : upd H p o a = some x := same_new h a x e
theorem upd_at {H : Hp} {p a : Addr} {o x : HO} (n : a ≠ p) (e : H a = some x) : upd H p o a = some x := by
  rw [upd_ne n]
  exact e
theorem upd_none {H : Hp} {p a : Addr} {o : HO} (n : a ≠ p) (e : H a = none) : upd H p o a = none := by
  rw [upd_ne n]
  exact e
/-- what H does not know may change -/
theorem same_mut {H H' : Hp} {p : Addr} {o : HO} (e : Same H H') (h : H p = none) : Same H (upd H' p o) := fun a x q => by
  rw [upd_ne (ne_of_none q h)]
  exact e a x q
theorem keep_mut {u p : Addr} {H H' : Hp} {o : HO} (e : Keep u H H') (h : H p = none) : Keep u H (upd H' p o) := fun a x q n => by
  rw [upd_ne (ne_of_none q h)]
  exact e a x q n
theorem keep_self {u : Addr} {H H' : Hp} {o : HO} (e : Keep u H H') : Keep u H (upd H' u o) := fun a x q n => by
  rw [upd_ne n]
  exact e a x q n
theorem keep_new {u p : Addr} {H H' : Hp} {o : HO} (e : Keep u H H') (h : H' p = none) : Keep u H (upd H' p o) := e.same (same_new h)
theorem sq_l {K : PySem.W.Frag} {H : Hp} {a : Addr} {xs : List V} (h : H a = some (.lst xs)) : SqL K H a xs := .inl (.inl h)
theorem sq_t {K : PySem.W.Frag} {H : Hp} {a : Addr} {xs : List V} (h : H a = some (.tup xs)) : SqT K H a xs := .inl (.inl h)

/-! ### steps through a reading -/
section
variable {K : PySem.W.Frag} {σ : St} {H : Hp} {ta tb te tc : TE} {t u : TT} {ts us : TS} {Q : VK} {n r b c : St → Hp → Prop} {rt : VK} {bk ct : St → Hp → Prop}
theorem x_seq (h : ts ⟨us ⟨n, rt, bk, ct⟩, rt, bk, ct⟩ σ H) : tSeq ts us ⟨n, rt, bk, ct⟩ σ H := h
theorem x_next (h : n σ H) : tNext ⟨n, rt, bk, ct⟩ σ H := h
theorem x_break (h : bk σ H) : tBreak ⟨n, rt, bk, ct⟩ σ H := h
theorem x_cont (h : ct σ H) : tCont ⟨n, rt, bk, ct⟩ σ H := h
theorem x_asg {g : TG} (h : te σ H fun x H1 => g x σ H1 n) : tAsg te g ⟨n, rt, bk, ct⟩ σ H := h
theorem x_name {i : Nat} {v : V} {Qs : St → Hp → Prop} {σ' : St} (e : σ.set i (some v) = σ') (h : Qs σ' H) : gName i v σ H Qs := by
  subst e
  exact h
theorem x_drop (h : te σ H fun _ H1 => n σ H1) : tDrop te ⟨n, rt, bk, ct⟩ σ H := h
theorem x_ret (h : te σ H rt) : tRet te ⟨n, rt, bk, ct⟩ σ H := h
theorem x_retN (h : rt .non H) : tRetN ⟨n, rt, bk, ct⟩ σ H := h
theorem x_ifs (h : t σ H fun z H1 => if z = true then ts ⟨n, rt, bk, ct⟩ σ H1 else us ⟨n, rt, bk, ct⟩ σ H1) : tIfS t ts us ⟨n, rt, bk, ct⟩ σ H := h
theorem x_var {i : Nat} {v : V} (e : σ[i]? = some (some v)) (h : Q v H) : tVar i σ H Q := ⟨v, e, h⟩
theorem x_c {v : V} (h : Q v H) : tC v σ H Q := h
theorem x_op {r : R2} (h : ta σ H fun x H1 => tb σ H1 fun y H2 => r x y H2 Q) : tOp r ta tb σ H Q := h
theorem x_un {r : V → Hp → VK → Prop} (h : ta σ H fun x H1 => r x H1 Q) : tUn r ta σ H Q := h
theorem x_I0 {g : Int → Int → V} {i j : Int} (h : Q (g i j) H) : rI0 g (.int i) (.int j) H Q := ⟨i, j, rfl, rfl, h⟩
theorem x_I {C : Int → Int → Prop} {g : Int → Int → V} {i j : Int} (c : C i j) (h : Q (g i j) H) : rI C g (.int i) (.int j) H Q := ⟨i, j, rfl, rfl, c, h⟩
theorem x_U {g : Int → V} {i : Int} (h : Q (g i) H) : rU g (.int i) H Q := ⟨i, rfl, h⟩
theorem x_test {Qb : Bool → Hp → Prop} {f : TE} (h : f σ H fun x H1 => ∃ k, x = .bl k ∧ Qb k H1) : tTest f σ H Qb := h
theorem x_B {Qb : Bool → Hp → Prop} (h : te σ H fun x H1 => ∃ k, x = .bl k ∧ Qb k H1) : tB te σ H Qb := h
theorem x_bl {z : Bool} {P : Bool → Prop} (h : P z) : ∃ k, V.bl z = .bl k ∧ P k := ⟨z, rfl, h⟩
theorem x_not {Qb : Bool → Hp → Prop} (h : t σ H fun z H1 => Qb (!z) H1) : tNot t σ H Qb := h
theorem x_and {Qb : Bool → Hp → Prop} (h : t σ H fun z H1 => if z = true then u σ H1 Qb else Qb false H1) : tAnd t u σ H Qb := h
theorem x_or {Qb : Bool → Hp → Prop} (h : t σ H fun z H1 => if z = true then Qb true H1 else u σ H1 Qb) : tOr t u σ H Qb := h
theorem x_and' {p q : Prop} {dp : Decidable p} {dq : Decidable q} {Qb : Bool → Hp → Prop} (h1 : ∀ R : Bool → Hp → Prop, R (decide p) H → t σ H R) (h2 : p → ∀ R : Bool → Hp → Prop, R (decide q) H → u σ H R) (h : Qb (decide (p ∧ q)) H) : tAnd t u σ H Qb := by
  refine h1 _ ?_
  by_cases c : p
  · rw [decide_eq_true c]
    refine h2 c _ ?_
    have e : decide (p ∧ q) = decide q := by simp [c]
    rw [e] at h
    exact h
  · rw [decide_eq_false c]
    have e : decide (p ∧ q) = false := by simp [c]
    rw [e] at h
    exact h
theorem x_or' {p q : Prop} {dp : Decidable p} {dq : Decidable q} {Qb : Bool → Hp → Prop} (h1 : ∀ R : Bool → Hp → Prop, R (decide p) H → t σ H R) (h2 : ¬ p → ∀ R : Bool → Hp → Prop, R (decide q) H → u σ H R) (h : Qb (decide (p ∨ q)) H) : tOr t u σ H Qb := by
  refine h1 _ ?_
  by_cases c : p
  · rw [decide_eq_true c]
    have e : decide (p ∨ q) = true := by simp [c]
    rw [e] at h
    exact h
  · rw [decide_eq_false c]
    refine h2 c _ ?_
    have e : decide (p ∨ q) = decide q := by simp [c]
    rw [e] at h
    exact h
theorem x_andV (h : ta σ H fun x H1 => ∃ k, x = .bl k ∧ if k = true then tb σ H1 Q else Q (.bl false) H1) : tAndV ta tb σ H Q := h
theorem x_orV (h : ta σ H fun x H1 => ∃ k, x = .bl k ∧ if k = true then Q (.bl true) H1 else tb σ H1 Q) : tOrV ta tb σ H Q := h
theorem x_notV (h : ta σ H fun x H1 => ∃ k, x = .bl k ∧ Q (.bl (!k)) H1) : tNotV ta σ H Q := h
theorem x_if {t : TT} (h : t σ H fun z H1 => if z = true then ta σ H1 Q else tb σ H1 Q) : tIf t ta tb σ H Q := h
theorem x_eq {x y : V} (s : scal x y = true) (h : Q (.bl (decide (x = y))) H) : rEq x y H Q := ⟨s, h⟩
theorem x_ne {x y : V} (s : scal x y = true) (h : Q (.bl (!decide (x = y))) H) : rNe x y H Q := ⟨s, h⟩
theorem x_eqI {i j : Int} (h : Q (.bl (decide (i = j))) H) : rEq (.int i) (.int j) H Q := ⟨rfl, by
  have e : decide (V.int i = V.int j) = decide (i = j) := by
    by_cases q : i = j
    · subst q; simp
    · rw [decide_eq_false q, decide_eq_false fun z => q (V.int.inj z)]
  rw [e]; exact h⟩
theorem x_neI {i j : Int} (h : Q (.bl (!decide (i = j))) H) : rNe (.int i) (.int j) H Q := ⟨rfl, by
  have e : decide (V.int i = V.int j) = decide (i = j) := by
    by_cases q : i = j
    · subst q; simp
    · rw [decide_eq_false q, decide_eq_false fun z => q (V.int.inj z)]
  rw [e]; exact h⟩
theorem x_ixL {p : Addr} {xs : List V} {i : Int} {v : V} (s : H p = some (.lst xs)) (a : atI xs i = some v) (h : Q v H) : rIxL K (.ref p) (.int i) H Q := ⟨p, xs, i, v, rfl, rfl, sq_l s, a, h⟩
theorem x_ixLs {p : Addr} {xs : List V} {i : Int} {v : V} (s : SqL K H p xs) (a : atI xs i = some v) (h : Q v H) : rIxL K (.ref p) (.int i) H Q := ⟨p, xs, i, v, rfl, rfl, s, a, h⟩
theorem x_ixT {p : Addr} {xs : List V} {i : Int} {v : V} (s : H p = some (.tup xs)) (a : atI xs i = some v) (h : Q v H) : rIxT K (.ref p) (.int i) H Q := ⟨p, xs, i, v, rfl, rfl, sq_t s, a, h⟩
theorem x_nil {Qa : List V → Hp → Prop} (h : Qa [] H) : tNil σ H Qa := h
theorem x_cons {tr : TA} {Qa : List V → Hp → Prop} (h : ta σ H fun x H1 => tr σ H1 fun xs H2 => Qa (x :: xs) H2) : tCons ta tr σ H Qa := h
theorem x_cb {r : List V → Hp → VK → Prop} {tr : TA} (h : tr σ H fun vs H1 => r vs H1 Q) : tCB r tr σ H Q := h
theorem x_call {sp : Sp} {E : XK} {tr : TA} (h : tr σ H fun vs H1 => sp vs H1 Q E) : tCall sp [] E tr σ H Q := by
  have e : (fun (vs : List V) (H1 : Hp) => sp (vs ++ []) H1 Q E) = fun vs H1 => sp vs H1 Q E := by
    funext vs H1
    rw [List.append_nil]
  show tr σ H fun vs H1 => sp (vs ++ []) H1 Q E
  rw [e]
  exact h
theorem x_meth0 {C : Addr} {m : Str} {sp : Sp} {E : XK} (h : ta σ H fun x H1 => ∃ a dx fs, x = .ref a ∧ H1 a = some (.ins C dx fs) ∧ fs.lookup m = none ∧ sp [x] H1 Q E) : tMeth C m sp [] E ta tNil σ H Q := h
theorem x_meth {C : Addr} {m : Str} {sp : Sp} {E : XK} {tr : TA} (h : ta σ H fun x H1 => ∃ a dx fs, x = .ref a ∧ H1 a = some (.ins C dx fs) ∧ fs.lookup m = none ∧ tr σ H1 fun vs H2 => sp (x :: vs) H2 Q E) : tMeth C m sp [] E ta tr σ H Q := by
  have e : (fun (x : V) (vs : List V) (H1 : Hp) => sp (x :: (vs ++ [])) H1 Q E) = fun x vs H1 => sp (x :: vs) H1 Q E := by
    funext x vs H1
    rw [List.append_nil]
  show ta σ H fun x H1 => ∃ a dx fs, x = .ref a ∧ H1 a = some (.ins C dx fs) ∧ fs.lookup m = none ∧ tr σ H1 fun vs H2 => (fun (x : V) (vs : List V) (H1 : Hp) => sp (x :: (vs ++ [])) H1 Q E) x vs H2
  rw [e]
  exact h
theorem x_make {C : Addr} {sp : Sp} {E : XK} {tr : TA} (h : tr σ H fun vs H1 => ∀ x dx, H1 x = none → H1 dx = none → dx ≠ x → sp (.ref x :: vs) (upd (upd H1 dx (.own x)) x (.ins C dx [])) (fun v H2 => v = .non ∧ Q (.ref x) H2) E) : tMake C sp [] E tr σ H Q := by
  have e : (fun (vs : List V) (H1 : Hp) => ∀ x dx, H1 x = none → H1 dx = none → dx ≠ x → sp (.ref x :: (vs ++ [])) (upd (upd H1 dx (.own x)) x (.ins C dx [])) (fun v H2 => v = .non ∧ Q (.ref x) H2) E) =
      fun vs H1 => ∀ x dx, H1 x = none → H1 dx = none → dx ≠ x → sp (.ref x :: vs) (upd (upd H1 dx (.own x)) x (.ins C dx [])) (fun v H2 => v = .non ∧ Q (.ref x) H2) E := by
    funext vs H1
    rw [List.append_nil]
  show tr σ H (fun (vs : List V) (H1 : Hp) => ∀ x dx, H1 x = none → H1 dx = none → dx ≠ x → sp (.ref x :: (vs ++ [])) (upd (upd H1 dx (.own x)) x (.ins C dx [])) (fun v H2 => v = .non ∧ Q (.ref x) H2) E)
  rw [e]
  exact h
theorem x_ins {C : Addr} {m : Str} {P : Prop} {a dx : Addr} {fs : List (Str × V)} (h : H a = some (.ins C dx fs)) (l : fs.lookup m = none) (k : P) : ∃ a' dx' fs', V.ref a = .ref a' ∧ H a' = some (.ins C dx' fs') ∧ fs'.lookup m = none ∧ P := ⟨a, dx, fs, rfl, h, l, k⟩
theorem x_prop {C : Addr} {sp : Sp} {E : XK} (h : te σ H fun x H1 => ∃ a dx fs, x = .ref a ∧ H1 a = some (.ins C dx fs) ∧ sp [.ref a] H1 Q E) : tProp C sp [] E te σ H Q := h
theorem x_inp {C : Addr} {sp : Sp} {E : XK} {a dx : Addr} {fs : List (Str × V)} (h : H a = some (.ins C dx fs)) (k : sp [.ref a] H Q E) : ∃ a' dx' fs', V.ref a = .ref a' ∧ H a' = some (.ins C dx' fs') ∧ sp [.ref a'] H Q E := ⟨a, dx, fs, rfl, h, k⟩
theorem x_tup {tr : TA} (h : tr σ H fun xs H1 => xs.length ≤ sizeLine ∧ ∀ p, H1 p = none → Q (.ref p) (upd H1 p (.tup xs))) : tTup tr σ H Q := h
theorem x_lst {tr : TA} (h : tr σ H fun xs H1 => xs.length ≤ sizeLine ∧ ∀ p, H1 p = none → Q (.ref p) (upd H1 p (.lst xs))) : tLst tr σ H Q := h
theorem x_bm {T : String} {r : V → List V → Hp → VK → Prop} {tr : TA} (h : ta σ H fun x H1 => tyV K T x H1 ∧ tr σ H1 fun xs H2 => r x xs H2 Q) : tBM K T r ta tr σ H Q := h
theorem x_bm0 {T : String} {r : V → List V → Hp → VK → Prop} (h : ta σ H fun x H1 => tyV K T x H1 ∧ r x [] H1 Q) : tBM0 K T r ta σ H Q := h
theorem x_tyL {p : Addr} {xs : List V} {P : Prop} (s : H p = some (.lst xs)) (h : P) : tyV K "list" (.ref p) H ∧ P := ⟨.inl ⟨rfl, _, sq_l s⟩, h⟩
theorem x_append {p : Addr} {xs : List V} {v : V} (s : H p = some (.lst xs)) (l : xs.length < sizeLine) (h : Q .non (upd H p (.lst (xs ++ [v])))) : rAppend (.ref p) [v] H Q := ⟨p, xs, v, rfl, rfl, s, l, h⟩
theorem x_setL {p : Addr} {xs : List V} {k : Int} {v : V} {Qh : Hp → Prop} (s : H p = some (.lst xs)) (a : 0 ≤ k) (l : k < xs.length) (h : Qh (upd H p (.lst (xs.set k.toNat v)))) : rSetL (.ref p) (.int k) v H Qh :=
  ⟨p, xs, k, k.toNat, rfl, rfl, s, by unfold ixN; rw [if_pos a, if_pos l], h⟩
theorem x_sub {to ti : TE} {tset : TSet} {v : V} {Qs : St → Hp → Prop} (h : to σ H fun o H1 => ti σ H1 fun i H2 => tset o i v H2 fun H3 => Qs σ H3) : gSub to ti tset v σ H Qs := h
theorem x_gTup {nn : Nat} {g : TGs} {p : Addr} {xs : List V} {Qs : St → Hp → Prop} (s : H p = some (.tup xs)) (l : xs.length = nn) (h : g xs σ H Qs) : gTup K nn g (.ref p) σ H Qs := ⟨p, xs, rfl, sq_t s, l, h⟩
theorem x_gCons {g : TG} {gs : TGs} {v : V} {vs : List V} {Qs : St → Hp → Prop} (h : g v σ H fun σ' H' => gs vs σ' H' Qs) : gCons g gs (v :: vs) σ H Qs := ⟨v, vs, rfl, h⟩
theorem x_gNil {Qs : St → Hp → Prop} (h : Qs σ H) : gNil [] σ H Qs := ⟨rfl, h⟩
theorem x_augI {i : Nat} {f : Int → Int → Int} {a : Int} (e : σ[i]? = some (some (.int a))) (h : te σ H fun y H1 => ∃ b, y = .int b ∧ n (σ.set i (some (.int (f a b)))) H1) : tAug i te (ipI f) ⟨n, rt, bk, ct⟩ σ H := ⟨.int a, e, by
  have w : ∀ (y : V) (H1 : Hp), (∃ b, y = .int b ∧ n (σ.set i (some (.int (f a b)))) H1) → ipI f (.int a) y H1 fun z H2 => n (σ.set i (some z)) H2 := fun y H1 ⟨b, e1, q⟩ => ⟨a, b, rfl, e1, q⟩
  have e : (fun (y : V) (H1 : Hp) => ∃ b, y = .int b ∧ n (σ.set i (some (.int (f a b)))) H1) = fun y H1 => ipI f (.int a) y H1 fun z H2 => n (σ.set i (some z)) H2 := by
    funext y H1
    exact propext ⟨w y H1, fun ⟨i1, j1, e1, e2, q⟩ => ⟨j1, e2, by cases e1; exact q⟩⟩
  show te σ H fun y H1 => ipI f (.int a) y H1 fun z H2 => n (σ.set i (some z)) H2
  rw [← e]
  exact h⟩
theorem x_int {i : Int} {P : Int → Prop} (h : P i) : ∃ b, V.int i = .int b ∧ P b := ⟨i, rfl, h⟩
theorem x_it {p : Prop} {_d : Decidable p} {A B : Prop} (c : p) (h : A) : if decide p = true then A else B := by rw [decide_eq_true c]; exact h
theorem x_if0 {p : Prop} {_d : Decidable p} {A B : Prop} (c : ¬ p) (h : B) : if decide p = true then A else B := by rw [decide_eq_false c]; exact h
theorem x_ite {p : Prop} {_d : Decidable p} {A B : Prop} (h1 : p → A) (h2 : ¬ p → B) : if decide p = true then A else B := by
  by_cases q : p
  · rw [decide_eq_true q]; exact h1 q
  · rw [decide_eq_false q]; exact h2 q
theorem x_iten {p : Prop} {_d : Decidable p} {A B : Prop} (h1 : ¬ p → A) (h2 : p → B) : if (!decide p) = true then A else B := by
  by_cases q : p
  · rw [decide_eq_true q]; exact h2 q
  · rw [decide_eq_false q]; exact h1 q
theorem x_itb {z : Bool} {A B : Prop} (h1 : z = true → A) (h2 : z = false → B) : if z = true then A else B := by
  cases z
  · exact h2 rfl
  · exact h1 rfl
theorem x_itn0 {p : Prop} {_d : Decidable p} {A B : Prop} (c : p) (h : B) : if (!decide p) = true then A else B := by rw [decide_eq_true c]; exact h
theorem x_itn1 {p : Prop} {_d : Decidable p} {A B : Prop} (c : ¬ p) (h : A) : if (!decide p) = true then A else B := by rw [decide_eq_false c]; exact h
theorem x_cut (Mid : St → Hp → Prop) (h : ts ⟨Mid, rt, bk, ct⟩ σ H) (k : ∀ σ' H', Mid σ' H' → us ⟨n, rt, bk, ct⟩ σ' H') : Evl.tCut ts us ⟨n, rt, bk, ct⟩ σ H := ⟨Mid, h, k⟩
theorem x_nT {A B : Prop} (h : B) : if (!true) = true then A else B := h
theorem x_nF {A B : Prop} (h : A) : if (!false) = true then A else B := h
theorem x_T {A B : Prop} (h : A) : if true = true then A else B := h
theorem x_F {A B : Prop} (h : B) : if false = true then A else B := h
theorem x_intI {i : Int} {C : Prop} (h : Q (.int i) H) : (∃ j, [V.int i] = [.int j] ∧ Q (.int j) H) ∨ C := .inl ⟨i, rfl, h⟩
end
section
variable {σ : St} {H : Hp} {ta : TE} {Q : VK}
theorem x_tRg1 {Qr : Int → Int → Hp → Prop} (h : ta σ H fun x H1 => ∃ n, x = .int n ∧ Qr 0 n H1) : tRg1 ta σ H Qr := h
theorem x_rgN {N : Int} {Qr : Int → Prop} (h : Qr N) : ∃ n, V.int N = .int n ∧ Qr n := ⟨N, rfl, h⟩
theorem x_rgOk {N : Int} {A : Prop} (a : 0 ≤ N) (b : N ≤ 100000) (h : A) : RgOk 0 N ∧ A := ⟨RgOk.of_le (by decide) (by omega) (by decide) a, h⟩
theorem x_lstRg {te : St → Hp → (Int → Int → Hp → Prop) → Prop} (h : te σ H fun a b H1 => RgOk a b ∧ ∀ q, H1 q = none → Q (.ref q) (upd H1 q (.lst (rgV a b)))) : tLstRg te σ H Q := h
end
theorem sz_ok {n : Nat} (h : n ≤ 100000) : n ≤ sizeLine := Nat.le_trans h (by decide)
theorem sz_lt {n : Nat} (h : n < 100000) : n < sizeLine := Nat.lt_of_lt_of_le h (by decide)
theorem mul_l {i j : Int} (h1 : -(2 ^ 64) < i) (h2 : i < 2 ^ 64) : CMul i j := .inl ⟨h1, h2⟩
theorem mul_r {i j : Int} (h1 : -(2 ^ 64) < j) (h2 : j < 2 ^ 64) : CMul i j := .inr ⟨h1, h2⟩

section
variable {H : Hp} {Q : VK} {g : Int → Int → V} {i j : Int}
theorem x_div (a : 0 < j) (b : j < 1073741824) (h : Q (g i j) H) : rI CDiv g (.int i) (.int j) H Q := x_I ⟨a, b⟩ h
theorem x_mod (a : 0 < j) (h : Q (g i j) H) : rI (fun _ j => 0 < j) g (.int i) (.int j) H Q := x_I a h
theorem x_mull (a : -(2 ^ 64) < i) (b : i < 2 ^ 64) (h : Q (g i j) H) : rI CMul g (.int i) (.int j) H Q := x_I (mul_l a b) h
theorem x_mulr (a : -(2 ^ 64) < j) (b : j < 2 ^ 64) (h : Q (g i j) H) : rI CMul g (.int i) (.int j) H Q := x_I (mul_r a b) h
theorem x_pow (a : 0 ≤ j) (b : j ≤ 1000000) (c : i.natAbs < 2 ^ 64) (h : Q (g i j) H) : rI CPow g (.int i) (.int j) H Q := x_I ⟨a, b, c⟩ h
theorem x_divW (a : 0 < j) (b : j.natAbs < 2 ^ 64) (h : Q (g i j) H) : rI CDivW g (.int i) (.int j) H Q := x_I (wide_div a b (by decide) (by decide)) h
end
/-! ### built-ins, their readings by name -/
def rInt : List V → Hp → VK → Prop := fun xs H Q => (∃ i, xs = [.int i] ∧ Q (.int i) H) ∨ ∃ k, xs = [.bl k] ∧ Q (.int (if k then 1 else 0)) H
def rLen (K : PySem.W.Frag) : List V → Hp → VK → Prop := fun xs H Q => ∃ p ys, xs = [.ref p] ∧ (SqL K H p ys ∨ SqT K H p ys) ∧ Q (.int ys.length) H
def rListOf (K : PySem.W.Frag) : List V → Hp → VK → Prop := fun xs H Q => ∃ p ys, xs = [.ref p] ∧ (SqL K H p ys ∨ SqT K H p ys) ∧ ∀ l, H l = none → Q (.ref l) (upd H l (.lst ys))
def rMax2 : List V → Hp → VK → Prop := fun xs H Q => ∃ i j, xs = [.int i, .int j] ∧ Q (.int (if j > i then j else i)) H
def rMin2 : List V → Hp → VK → Prop := fun xs H Q => ∃ i j, xs = [.int i, .int j] ∧ Q (.int (if j < i then j else i)) H
section
variable {X : Cx}
theorem cl_int : CallR X (.type "int") rInt := call_int1
theorem cl_max2 (hc : X.calm = true) : CallR X (.builtin "max") rMax2 := call_max2 hc
theorem cl_min2 (hc : X.calm = true) : CallR X (.builtin "min") rMin2 := call_min2 hc
end
section
variable {K : PySem.W.Frag} {H : Hp} {Q : VK}
theorem x_int_i {i : Int} (h : Q (.int i) H) : rInt [.int i] H Q := .inl ⟨i, rfl, h⟩
theorem x_int_b {b : Bool} (h : Q (.int (if b then 1 else 0)) H) : rInt [.bl b] H Q := .inr ⟨b, rfl, h⟩
theorem x_len {p : Addr} {ys : List V} (s : H p = some (.lst ys)) (h : Q (.int ys.length) H) : rLen K [.ref p] H Q := ⟨p, ys, rfl, .inl (sq_l s), h⟩
theorem x_lenT {p : Addr} {ys : List V} (s : H p = some (.tup ys)) (h : Q (.int ys.length) H) : rLen K [.ref p] H Q := ⟨p, ys, rfl, .inr (sq_t s), h⟩
theorem x_lenS {p : Addr} {ys : List V} (s : SqL K H p ys) (h : Q (.int ys.length) H) : rLen K [.ref p] H Q := ⟨p, ys, rfl, .inl s, h⟩
theorem x_listOf {p : Addr} {ys : List V} (s : H p = some (.lst ys)) (h : ∀ l, H l = none → Q (.ref l) (upd H l (.lst ys))) : rListOf K [.ref p] H Q := ⟨p, ys, rfl, .inl (sq_l s), h⟩
theorem x_max2 {i j : Int} (h : Q (.int (if j > i then j else i)) H) : rMax2 [.int i, .int j] H Q := ⟨i, j, rfl, h⟩
theorem x_min2 {i j : Int} (h : Q (.int (if j < i then j else i)) H) : rMin2 [.int i, .int j] H Q := ⟨i, j, rfl, h⟩
theorem x_sz {n : Nat} {A : Prop} (s : n ≤ 100000) (h : A) : n ≤ sizeLine ∧ A := ⟨sz_ok s, h⟩
theorem x_isi {x c : V} {t u : Value} {b : Bool} (k : ClsV c u) (ty : TyX K H x t) (e : PySem.W.kitOne K t u = some b) (h : Q (.bl b) H) : rIsi K [x, c] H Q := ⟨x, c, t, u, b, rfl, k, ty, e, h⟩
theorem x_ext {l b : Addr} {xs zs : List V} (s : H l = some (.lst xs)) (s2 : H b = some (.lst zs)) (z : xs.length + zs.length ≤ 100000) (h : Q .non (upd H l (.lst (xs ++ zs)))) : rExtend (.ref l) [.ref b] H Q := ⟨l, b, xs, zs, rfl, rfl, s, s2, sz_ok z, h⟩
theorem x_rev {l : Addr} {xs : List V} (s : H l = some (.lst xs)) (h : Q .non (upd H l (.lst xs.reverse))) : rReverse (.ref l) [] H Q := ⟨l, xs, rfl, rfl, s, h⟩
theorem x_popAt {l : Addr} {xs : List V} {k : Int} {y : V} (s : H l = some (.lst xs)) (z : xs.length ≤ 100000) (a : 0 ≤ k) (e : xs[k.toNat]? = some y) (h : Q y (upd H l (.lst (xs.eraseIdx k.toNat)))) : rPopAt (.ref l) [.int k] H Q := by
  have hk := (List.getElem?_eq_some_iff.mp e).1
  exact ⟨l, xs, k, k.toNat, y, rfl, rfl, s, by omega, by omega, PySem.seqIndex_of a (by omega), e, h⟩
end

/-! ### rules with the written part by name (within a block, too) -/
section
variable {X : Cx} (K : PySem.W.Frag) (hK : X.K = K := by rfl)
include hK
theorem cl_len : CallR X (.builtin "len") (rLen K) := by subst hK; exact call_len_seq
theorem cl_listOf : CallR X (.type "list") (rListOf K) := by subst hK; exact call_list_of
theorem cl_isi : CallR X (.builtin "isinstance") (rIsi K) := by subst hK; exact call_isi
theorem cl_sortedI : CallR X (.builtin "sorted") (rSortedI K) := by subst hK; exact cr_sortedI
theorem cl_sortedPO : CallR X (.builtin "sorted") (rSortedPO K) := by subst hK; exact cr_sortedPO
theorem ix_l : IxR X (rIxL K) := by subst hK; exact ix_list
theorem ix_t : IxR X (rIxT K) := by subst hK; exact ix_tup
theorem k_in : OpR X (compareOp .In) (rIn K false) := by subst hK; exact op_in_seq
theorem k_nin : OpR X (compareOp .NotIn) (rIn K true) := by subst hK; exact op_notIn_seq
theorem k_sll : SlR X (rSlL K) := by subst hK; exact sl_list
theorem k_slt : SlR X (rSlT K) := by subst hK; exact sl_tup
end
section
variable {X : Cx} (K : PySem.W.Frag)
theorem cl_all (hc : X.calm = true) (hK : X.K = K := by rfl) : CallR X (.builtin "all") (rAll K) := by subst hK; exact cr_all hc
theorem cl_any (hc : X.calm = true) (hK : X.K = K := by rfl) : CallR X (.builtin "any") (rAny K) := by subst hK; exact cr_any hc
theorem cl_sum (hc : X.calm = true) (hK : X.K = K := by rfl) : CallR X (.builtin "sum") (rSum K) := by subst hK; exact cr_sum hc
theorem cl_max (hc : X.calm = true) (hK : X.K = K := by rfl) : CallR X (.builtin "max") (rMax K) := by subst hK; exact cr_max hc
theorem cl_min (hc : X.calm = true) (hK : X.K = K := by rfl) : CallR X (.builtin "min") (rMin K) := by subst hK; exact cr_min hc
theorem k_eqD (hu : X.A.units + 64 < cLine) (hK : X.K = K := by rfl) : OpR X (compareOp .Eq) (rEqD K) := by subst hK; exact op_eqD hu
theorem k_neD (hu : X.A.units + 64 < cLine) (hK : X.K = K := by rfl) : OpR X (compareOp .NotEq) (rNeD K) := by subst hK; exact op_neD hu
theorem k_inD (hu : X.A.units + 65 < cLine) (hK : X.K = K := by rfl) : OpR X (compareOp .In) (rInD K) := by subst hK; exact op_inD hu
theorem k_ninD (hu : X.A.units + 65 < cLine) (hK : X.K = K := by rfl) : OpR X (compareOp .NotIn) (rNotInD K) := by subst hK; exact op_notInD hu
variable {e o value : Expr} {f : Str} {pos pos' apos cpos : Pos} {ta tv to te : TE}
theorem k_fld (he : PE X e ta) (hb : attributeBase e f X.env (eval e X.env) = eval e X.env) (hK : X.K = K := by rfl) : PE X (.Attribute e f pos) (tFld K ta f) := by subst hK; exact pe_fld he hb
theorem k_sfld (ha : PE X o ta) (hv : PE X value tv) (hs : swapsWith value (some (.Attribute o f pos')) pos.line X.env = pure false) (hK : X.K = K := by rfl) : PS X (.Assign [.Attribute o f pos'] value pos) (sFld K ta tv f) := by subst hK; exact ps_fld ha hv hs
theorem k_tup {es : List Expr} {k : Nat} {t : TGs} {n : Nat} (hc : X.calm = true) (h : PGs X es t)
    (hn : (assignEach es X.env).length = n := by rfl) (hst : (assignEach es X.env).findIdx? (·.1) = none := by rfl) (hK : X.K = K := by rfl) : PG X (.Tuple es k pos) (gTup K n t) := by subst hK; exact pg_tup hc h hn hst
theorem k_pil {tg l : Expr} {tl : TE} (hl : PE X l tl) (hK : X.K = K := by rfl) : PI X tg l (iList K tl) := by subst hK; exact pi_list hl
theorem k_pit {tg l : Expr} {tl : TE} (hl : PE X l tl) (hK : X.K = K := by rfl) : PI X tg l (iTup K tl) := by subst hK; exact pi_tup hl
theorem k_bm {T : String} {name : Str} {id : String} {r : V → List V → Hp → VK → Prop} {es : List Expr} {t : TA} (pa : PlainAttrs T) (slot : Slot T name id) (hty : typeOf (.builtin id) = pure (.type "method_descriptor")) (hm : MtR X id r) (ho : PE X o to) (ha : PA X (e :: es) t)
    (hbase : attributeBase o name X.env (eval o X.env) = eval o X.env := by rfl)
    (hfew : ((backTo cpos (starEach (e :: es) X.env)).all (fun x => !x.1) && (backToKw cpos (keywordEach [] X.env)).all (fun x => x.1.isSome)
      && decide ((e :: es).length + ([] : List Keyword).length + (if ([] : List Keyword).isEmpty then 0 else 1) < 30)) = true := by rfl)
    (hline : (apos.endLine == cpos.line) = true := by rfl) (hs : starEach (e :: es) X.env = (false, eval e X.env) :: starEach es X.env := by rfl) (hplain : (backTo cpos (starEach es X.env)).any (·.1) = false := by rfl) (hK : X.K = K := by rfl) :
    PE X (.Call (.Attribute o name apos) (e :: es) [] cpos) (tBM K T r to t) := by subst hK; exact pe_bm pa slot hty hm ho ha hbase hfew hline hs hplain
theorem k_bm0 {T : String} {name : Str} {id : String} {r : V → List V → Hp → VK → Prop} (pa : PlainAttrs T) (slot : Slot T name id) (hty : typeOf (.builtin id) = pure (.type "method_descriptor")) (hm : MtR X id r) (ho : PE X o to)
    (hbase : attributeBase o name X.env (eval o X.env) = eval o X.env := by rfl) (hline : (apos.endLine == cpos.line) = true := by rfl) (hK : X.K = K := by rfl) : PE X (.Call (.Attribute o name apos) [] [] cpos) (tBM0 K T r to) := by subst hK; exact pe_bm0 pa slot hty hm ho hbase hline
end
theorem hu65 {k : Nat} {A : Around} (hr : Room k A) : A.units + 65 < cLine := by
  have := hr.un
  omega

/-! ### calls by name, with what may leave -/
structure Cal (P : Program) (w : World) (K : PySem.W.Frag) (mg : Str → Option Value) (base : Heap) (CX : CXT) (k : Nat) (x : Str) (sp : Sp) : Prop where
  ex : ∃ (f : Addr) (fd : FuncData) (ps : List Str), FnOk P w K mg base CX k f fd ps sp ∧ mg x = some (.ref f) ∧ PySem.W.keepIn K (.ref f) = true ∧ Binds K fd ps []
theorem pe_cal {X : Cx} {CX : CXT} {k j : Nat} {x : Str} {sp : Sp} {E : XK} {e : Expr} {es : List Expr} {t : TA} {p pos : Pos} (c : Cal X.prog X.w X.K X.mg X.base CX k x sp) (hr : Room j X.A) (hk : k ≤ j) (hg : Gl X x) (hx : Passes CX X E) (ht : PA X (e :: es) t)
    (hdb : (x == ("__debug__" : Str)) = false := by decide) (he : starEach (e :: es) X.env = (false, eval e X.env) :: starEach es X.env := by rfl) (hpl : (backTo pos (starEach es X.env)).any (·.1) = false := by rfl) :
    PE X (.Call (.Name x p) (e :: es) [] pos) (tCall sp [] E t) := by
  obtain ⟨f, fd, ps, F, hm, kp, b⟩ := c.ex
  exact pe_call F (hr.mono hk) hg hm kp b .nil hx ht hdb he hpl
/-! ### loops, comprehensions: the questions by name -/
/-- a for over what J walks -/
def FW (J : It) (g : TG) (tb : TS) (D : Ends) (σ : St) (H1 : Hp) : Prop := ∃ W : Nat → Nat → St → Hp → Prop, (∃ m, W 0 m σ H1) ∧ ∀ i m σ H, W i m σ H →
  (J.stop i H ∧ D.nx σ H) ∨ (J.go i H ∧ ∃ N : St → Hp → Prop, (∀ σ' H', N σ' H' → ∃ m', m' < m ∧ W (i + 1) m' σ' H') ∧ ∀ x H', J.yld i H x H' → g x σ H' fun σ2 H2 => tb { D with nx := N, ct := N, bk := D.nx } σ2 H2)
/-- a comprehension over what J walks, its list at D -/
def LW (J : It) (D : Addr) (g : TG) (tt : TT) (te : TE) (vs : List Nat) (σ : St) (H1 : Hp) (Q : VK) : Prop := ∃ W : Nat → Nat → Hp → Prop, (∃ m, W 0 m (upd H1 D (.lst []))) ∧ ∀ i m H, W i m H →
  (J.stop i H ∧ Q (.ref D) H) ∨ (J.go i H ∧ ∃ Nx : Hp → Prop, (∀ H', Nx H' → ∃ m', m' < m ∧ W (i + 1) m' H') ∧ ∀ x H', J.yld i H x H' → g x (wipe σ vs) H' fun σ2 H2 => wipe σ2 vs = wipe σ vs ∧ tt σ2 H2 fun b H3 =>
    if b = true then te σ2 H3 fun y H4 => ∃ acc, H4 D = some (.lst acc) ∧ acc.length < sizeLine ∧ Nx (upd H4 D (.lst (acc ++ [y]))) else Nx H3)
def Rg1 (vs : List V) (H : Hp) (R : It → Hp → Prop) : Prop := ∃ j : Int, vs = [.int j] ∧ -(2 ^ 62) ≤ j ∧ j < 2 ^ 62 ∧ R (Itr 0 j.toNat) H
def Rg2 (vs : List V) (H : Hp) (R : It → Hp → Prop) : Prop := ∃ i j : Int, vs = [.int i, .int j] ∧ (-(2 ^ 62) ≤ i ∧ i < 2 ^ 62 ∧ -(2 ^ 62) ≤ j ∧ j < 2 ^ 62) ∧ R (Itr i (j - i).toNat) H
def Il (K : PySem.W.Frag) (x : V) (H : Hp) (R : It → Hp → Prop) : Prop := ∃ a, x = .ref a ∧ (∃ xs, SqL K H a xs) ∧ R (Itl K a) H
section
variable {K : PySem.W.Frag} {σ : St} {H : Hp} {ta : TA} {te tl : TE} {tt : TT} {wi : TI} {g : TG} {tb : TS} {Q : VK} {D : Ends} {R : It → Hp → Prop} {vs : List Nat}
theorem x_for {n : St → Hp → Prop} {rt : VK} {bk ct : St → Hp → Prop} (h : wi σ H fun J H1 => FW J g tb ⟨n, rt, bk, ct⟩ σ H1) : tFor wi g tb ⟨n, rt, bk, ct⟩ σ H := h
theorem x_lc (h : wi σ H fun J H1 => ∀ D, H1 D = none → LW J D g tt te vs σ H1 Q) : tLc wi g tt te vs σ H Q := h
theorem x_rg1 (h : ta σ H fun vs H1 => Rg1 vs H1 R) : iRng1 ta σ H R := h
theorem x_rg2 (h : ta σ H fun vs H1 => Rg2 vs H1 R) : iRng2 ta σ H R := h
theorem x_il (h : tl σ H fun x H1 => Il K x H1 R) : iList K tl σ H R := h
theorem x_r1 {j : Int} (a : -(2 ^ 62) ≤ j) (b : j < 2 ^ 62) (h : R (Itr 0 j.toNat) H) : Rg1 [.int j] H R := ⟨j, rfl, a, b, h⟩
theorem x_r2 {i j : Int} (a : -(2 ^ 62) ≤ i) (a' : i < 2 ^ 62) (b : -(2 ^ 62) ≤ j) (b' : j < 2 ^ 62) (h : R (Itr i (j - i).toNat) H) : Rg2 [.int i, .int j] H R := ⟨i, j, rfl, ⟨a, a', b, b'⟩, h⟩
theorem x_ill {a : Addr} {xs : List V} (s : H a = some (.lst xs)) (h : R (Itl K a) H) : Il K (.ref a) H R := ⟨a, rfl, ⟨xs, sq_l s⟩, h⟩
theorem x_ils {a : Addr} {xs : List V} (s : SqL K H a xs) (h : R (Itl K a) H) : Il K (.ref a) H R := ⟨a, rfl, ⟨xs, s⟩, h⟩
/-- for i in range: the invariant, its start, a turn, the end -/
theorem x_fwR {lo : Int} {n : Nat} {nx : St → Hp → Prop} {rt : VK} {bk ct : St → Hp → Prop} (Pv : Nat → St → Hp → Prop) (h0 : Pv 0 σ H)
    (hs : ∀ i σ H, i < n → Pv i σ H → g (.int (lo + (i : Int))) σ H fun σ2 H2 => tb ⟨Pv (i + 1), rt, nx, Pv (i + 1)⟩ σ2 H2) (hd : ∀ σ H, Pv n σ H → nx σ H) : FW (Itr lo n) g tb ⟨nx, rt, bk, ct⟩ σ H :=
  for_range (D := ⟨nx, rt, bk, ct⟩) Pv h0 hs hd
theorem x_fwL {a : Addr} {xs : List V} {nx : St → Hp → Prop} {rt : VK} {bk ct : St → Hp → Prop} (Pv : Nat → St → Hp → Prop) (h0 : Pv 0 σ H) (hl : ∀ i σ H, i ≤ xs.length → Pv i σ H → SqL K H a xs)
    (hs : ∀ i x σ H, xs[i]? = some x → Pv i σ H → g x σ H fun σ2 H2 => tb ⟨Pv (i + 1), rt, nx, Pv (i + 1)⟩ σ2 H2) (hd : ∀ σ H, Pv xs.length σ H → nx σ H) : FW (Itl K a) g tb ⟨nx, rt, bk, ct⟩ σ H :=
  for_list (D := ⟨nx, rt, bk, ct⟩) Pv h0 hl hs hd
/-- comprehensions -/
theorem x_lwR {lo : Int} {n : Nat} {Dl : Addr} (Pv : Nat → Hp → Prop) (h0 : Pv 0 (upd H Dl (.lst [])))
    (hs : ∀ i H, i < n → Pv i H → g (.int (lo + (i : Int))) (wipe σ vs) H fun σ2 H2 => wipe σ2 vs = wipe σ vs ∧ tt σ2 H2 fun b H3 =>
      if b = true then te σ2 H3 fun y H4 => ∃ acc, H4 Dl = some (.lst acc) ∧ acc.length < sizeLine ∧ Pv (i + 1) (upd H4 Dl (.lst (acc ++ [y]))) else Pv (i + 1) H3) (hd : ∀ H, Pv n H → Q (.ref Dl) H) :
    LW (Itr lo n) Dl g tt te vs σ H Q := lc_range (Qd := fun H => Q (.ref Dl) H) Pv h0 hs hd
theorem x_lwL {a : Addr} {xs : List V} {Dl : Addr} (Pv : Nat → Hp → Prop) (h0 : Pv 0 (upd H Dl (.lst []))) (hl : ∀ i H, i ≤ xs.length → Pv i H → SqL K H a xs)
    (hs : ∀ i x H, xs[i]? = some x → Pv i H → g x (wipe σ vs) H fun σ2 H2 => wipe σ2 vs = wipe σ vs ∧ tt σ2 H2 fun b H3 =>
      if b = true then te σ2 H3 fun y H4 => ∃ acc, H4 Dl = some (.lst acc) ∧ acc.length < sizeLine ∧ Pv (i + 1) (upd H4 Dl (.lst (acc ++ [y]))) else Pv (i + 1) H3) (hd : ∀ H, Pv xs.length H → Q (.ref Dl) H) :
    LW (Itl K a) Dl g tt te vs σ H Q := lc_list (Qd := fun H => Q (.ref Dl) H) Pv h0 hl hs hd
theorem x_fwR0 {n : Nat} {nx : St → Hp → Prop} {rt : VK} {bk ct : St → Hp → Prop} (Pv : Nat → St → Hp → Prop) (h0 : Pv 0 σ H)
    (hs : ∀ i σ H, i < n → Pv i σ H → g (.int (i : Int)) σ H fun σ2 H2 => tb ⟨Pv (i + 1), rt, nx, Pv (i + 1)⟩ σ2 H2) (hd : ∀ σ H, Pv n σ H → nx σ H) : FW (Itr 0 n) g tb ⟨nx, rt, bk, ct⟩ σ H :=
  x_fwR Pv h0 (fun i σ H hi p => by rw [Int.zero_add]; exact hs i σ H hi p) hd
theorem x_lwR0 {n : Nat} {Dl : Addr} (Pv : Nat → Hp → Prop) (h0 : Pv 0 (upd H Dl (.lst [])))
    (hs : ∀ i H, i < n → Pv i H → g (.int (i : Int)) (wipe σ vs) H fun σ2 H2 => wipe σ2 vs = wipe σ vs ∧ tt σ2 H2 fun b H3 =>
      if b = true then te σ2 H3 fun y H4 => ∃ acc, H4 Dl = some (.lst acc) ∧ acc.length < sizeLine ∧ Pv (i + 1) (upd H4 Dl (.lst (acc ++ [y]))) else Pv (i + 1) H3) (hd : ∀ H, Pv n H → Q (.ref Dl) H) :
    LW (Itr 0 n) Dl g tt te vs σ H Q := x_lwR Pv h0 (fun i H hi p => by rw [Int.zero_add]; exact hs i H hi p) hd
theorem x_while {c : TT} {nx : St → Hp → Prop} {rt : VK} {bk ct : St → Hp → Prop} (W : Nat → St → Hp → Prop) (m0 : Nat) (h0 : W m0 σ H)
    (hs : ∀ m σ H, W m σ H → c σ H fun b H1 => if b = true then ∃ N : St → Hp → Prop, (∀ σ' H', N σ' H' → ∃ m', m' < m ∧ W m' σ' H') ∧ tb ⟨N, rt, nx, N⟩ σ H1 else nx σ H1) : tWhile c tb ⟨nx, rt, bk, ct⟩ σ H := ⟨W, ⟨m0, h0⟩, hs⟩
theorem x_wgo {nx : St → Hp → Prop} {rt : VK} {W : Nat → St → Hp → Prop} {m : Nat} (h : tb ⟨fun σ' H' => ∃ m', m' < m ∧ W m' σ' H', rt, nx, fun σ' H' => ∃ m', m' < m ∧ W m' σ' H'⟩ σ H) :
    ∃ N : St → Hp → Prop, (∀ σ' H', N σ' H' → ∃ m', m' < m ∧ W m' σ' H') ∧ tb ⟨N, rt, nx, N⟩ σ H := ⟨_, fun _ _ h => h, h⟩
theorem x_yes {Qb : Bool → Hp → Prop} (h : Qb true H) : tYes σ H Qb := h
theorem x_wipe {σ2 σ1 : St} {A : Prop} (e : σ2 = σ1) (h : A) : σ2 = σ1 ∧ A := ⟨e, h⟩
theorem x_acc {Dl : Addr} {acc : List V} {P : Hp → Prop} {y : V} (s : H Dl = some (.lst acc)) (z : acc.length < 100000) (h : P (upd H Dl (.lst (acc ++ [y])))) :
    ∃ acc, H Dl = some (.lst acc) ∧ acc.length < sizeLine ∧ P (upd H Dl (.lst (acc ++ [y]))) := ⟨acc, s, sz_lt z, h⟩
end

/-- a comprehension of two fors, its list at D; the inner walk -/
def LI (J1 : It) (D : Addr) (Nx : Hp → Prop) (g1 : TG) (tt1 : TT) (te : TE) (vs1 : List Nat) (σ2 : St) (H4 : Hp) : Prop := ∃ W1 : Nat → Nat → Hp → Prop, (∃ m, W1 0 m H4) ∧ ∀ j k H, W1 j k H →
      (J1.stop j H ∧ Nx H) ∨ (J1.go j H ∧ ∃ Nx1 : Hp → Prop, (∀ H', Nx1 H' → ∃ k', k' < k ∧ W1 (j + 1) k' H') ∧ ∀ x H', J1.yld j H x H' → g1 x (wipe σ2 vs1) H' fun σ3 H5 => wipe σ3 vs1 = wipe σ2 vs1 ∧ tt1 σ3 H5 fun b H6 =>
        if b = true then te σ3 H6 fun y H7 => ∃ acc, H7 D = some (.lst acc) ∧ acc.length < sizeLine ∧ Nx1 (upd H7 D (.lst (acc ++ [y]))) else Nx1 H6)
def LW2 (J : It) (D : Addr) (g : TG) (tt : TT) (wi1 : TI) (g1 : TG) (tt1 : TT) (te : TE) (vs vs1 : List Nat) (σ : St) (H1 : Hp) (Q : VK) : Prop := ∃ W : Nat → Nat → Hp → Prop, (∃ m, W 0 m (upd H1 D (.lst []))) ∧ ∀ i m H, W i m H →
  (J.stop i H ∧ Q (.ref D) H) ∨ (J.go i H ∧ ∃ Nx : Hp → Prop, (∀ H', Nx H' → ∃ m', m' < m ∧ W (i + 1) m' H') ∧ ∀ x H', J.yld i H x H' → g x (wipe σ vs) H' fun σ2 H2 => wipe σ2 vs = wipe σ vs ∧ tt σ2 H2 fun b H3 =>
    if b = true then wi1 σ2 H3 fun J1 H4 => LI J1 D Nx g1 tt1 te vs1 σ2 H4 else Nx H3)
theorem x_lc2 {σ : St} {H : Hp} {wi wi1 : TI} {g g1 : TG} {tt tt1 : TT} {te : TE} {vs vs1 : List Nat} {Q : VK} (h : wi σ H fun J H1 => ∀ D, H1 D = none → LW2 J D g tt wi1 g1 tt1 te vs vs1 σ H1 Q) : tLc2 wi g tt wi1 g1 tt1 te vs vs1 σ H Q := h
section
variable {K : PySem.W.Frag} {σ σ2 : St} {H1 H4 : Hp} {wi1 : TI} {g g1 : TG} {tt tt1 : TT} {te : TE} {vs vs1 : List Nat} {Q : VK} {D : Addr} {Nx : Hp → Prop}
theorem x_lw2R {lo : Int} {n : Nat} (Pv : Nat → Hp → Prop) (h0 : Pv 0 (upd H1 D (.lst [])))
    (hs : ∀ i H, i < n → Pv i H → g (.int (lo + (i : Int))) (wipe σ vs) H fun σ2 H2 => wipe σ2 vs = wipe σ vs ∧ tt σ2 H2 fun b H3 => if b = true then wi1 σ2 H3 fun J1 H4 => LI J1 D (Pv (i + 1)) g1 tt1 te vs1 σ2 H4 else Pv (i + 1) H3)
    (hd : ∀ H, Pv n H → Q (.ref D) H) : LW2 (Itr lo n) D g tt wi1 g1 tt1 te vs vs1 σ H1 Q := by
  refine ⟨fun i m H => m = n - i ∧ i ≤ n ∧ Pv i H, ⟨n, by simp, Nat.zero_le _, h0⟩, ?_⟩
  rintro i m H ⟨rfl, hi, p⟩
  by_cases hlt : i < n
  · refine .inr ⟨hlt, Pv (i + 1), fun H' p' => ⟨n - (i + 1), by omega, rfl, hlt, p'⟩, fun x H' y => ?_⟩
    obtain ⟨e, y⟩ := y
    subst e y
    exact hs i _ hlt p
  · have e : i = n := by omega
    subst e
    exact .inl ⟨Nat.le_refl _, hd _ p⟩
theorem x_lw2L {a : Addr} {xs : List V} (Pv : Nat → Hp → Prop) (h0 : Pv 0 (upd H1 D (.lst []))) (hl : ∀ i H, i ≤ xs.length → Pv i H → SqL K H a xs)
    (hs : ∀ i x H, xs[i]? = some x → Pv i H → g x (wipe σ vs) H fun σ2 H2 => wipe σ2 vs = wipe σ vs ∧ tt σ2 H2 fun b H3 => if b = true then wi1 σ2 H3 fun J1 H4 => LI J1 D (Pv (i + 1)) g1 tt1 te vs1 σ2 H4 else Pv (i + 1) H3)
    (hd : ∀ H, Pv xs.length H → Q (.ref D) H) : LW2 (Itl K a) D g tt wi1 g1 tt1 te vs vs1 σ H1 Q := by
  refine ⟨fun i m H => m = xs.length - i ∧ i ≤ xs.length ∧ Pv i H, ⟨xs.length, by simp, Nat.zero_le _, h0⟩, ?_⟩
  rintro i m H ⟨rfl, hi, p⟩
  have q := hl i H hi p
  by_cases hlt : i < xs.length
  · refine .inr ⟨⟨xs, xs[i], q, by simp [hlt]⟩, Pv (i + 1), fun H' p' => ⟨xs.length - (i + 1), by omega, rfl, hlt, p'⟩, fun x H' y => ?_⟩
    obtain ⟨e, y⟩ := y
    subst e
    exact hs i x _ (y xs q) p
  · have e : i = xs.length := by omega
    subst e
    exact .inl ⟨⟨xs, q, by omega⟩, hd _ p⟩
theorem x_liR {lo : Int} {n : Nat} (Pv : Nat → Hp → Prop) (h0 : Pv 0 H4)
    (hs : ∀ i H, i < n → Pv i H → g1 (.int (lo + (i : Int))) (wipe σ2 vs1) H fun σ3 H5 => wipe σ3 vs1 = wipe σ2 vs1 ∧ tt1 σ3 H5 fun b H6 =>
      if b = true then te σ3 H6 fun y H7 => ∃ acc, H7 D = some (.lst acc) ∧ acc.length < sizeLine ∧ Pv (i + 1) (upd H7 D (.lst (acc ++ [y]))) else Pv (i + 1) H6) (hd : ∀ H, Pv n H → Nx H) :
    LI (Itr lo n) D Nx g1 tt1 te vs1 σ2 H4 := by
  refine ⟨fun i m H => m = n - i ∧ i ≤ n ∧ Pv i H, ⟨n, by simp, Nat.zero_le _, h0⟩, ?_⟩
  rintro i m H ⟨rfl, hi, p⟩
  by_cases hlt : i < n
  · refine .inr ⟨hlt, Pv (i + 1), fun H' p' => ⟨n - (i + 1), by omega, rfl, hlt, p'⟩, fun x H' y => ?_⟩
    obtain ⟨e, y⟩ := y
    subst e y
    exact hs i _ hlt p
  · have e : i = n := by omega
    subst e
    exact .inl ⟨Nat.le_refl _, hd _ p⟩
theorem x_liL {a : Addr} {xs : List V} (Pv : Nat → Hp → Prop) (h0 : Pv 0 H4) (hl : ∀ i H, i ≤ xs.length → Pv i H → SqL K H a xs)
    (hs : ∀ i x H, xs[i]? = some x → Pv i H → g1 x (wipe σ2 vs1) H fun σ3 H5 => wipe σ3 vs1 = wipe σ2 vs1 ∧ tt1 σ3 H5 fun b H6 =>
      if b = true then te σ3 H6 fun y H7 => ∃ acc, H7 D = some (.lst acc) ∧ acc.length < sizeLine ∧ Pv (i + 1) (upd H7 D (.lst (acc ++ [y]))) else Pv (i + 1) H6) (hd : ∀ H, Pv xs.length H → Nx H) :
    LI (Itl K a) D Nx g1 tt1 te vs1 σ2 H4 := by
  refine ⟨fun i m H => m = xs.length - i ∧ i ≤ xs.length ∧ Pv i H, ⟨xs.length, by simp, Nat.zero_le _, h0⟩, ?_⟩
  rintro i m H ⟨rfl, hi, p⟩
  have q := hl i H hi p
  by_cases hlt : i < xs.length
  · refine .inr ⟨⟨xs, xs[i], q, by simp [hlt]⟩, Pv (i + 1), fun H' p' => ⟨xs.length - (i + 1), by omega, rfl, hlt, p'⟩, fun x H' y => ?_⟩
    obtain ⟨e, y⟩ := y
    subst e
    exact hs i x _ (y xs q) p
  · have e : i = xs.length := by omega
    subst e
    exact .inl ⟨⟨xs, q, by omega⟩, hd _ p⟩
theorem x_lw2R0 {n : Nat} (Pv : Nat → Hp → Prop) (h0 : Pv 0 (upd H1 D (.lst [])))
    (hs : ∀ i H, i < n → Pv i H → g (.int (i : Int)) (wipe σ vs) H fun σ2 H2 => wipe σ2 vs = wipe σ vs ∧ tt σ2 H2 fun b H3 => if b = true then wi1 σ2 H3 fun J1 H4 => LI J1 D (Pv (i + 1)) g1 tt1 te vs1 σ2 H4 else Pv (i + 1) H3)
    (hd : ∀ H, Pv n H → Q (.ref D) H) : LW2 (Itr 0 n) D g tt wi1 g1 tt1 te vs vs1 σ H1 Q := x_lw2R Pv h0 (fun i H hi p => by rw [Int.zero_add]; exact hs i H hi p) hd
theorem x_liR0 {n : Nat} (Pv : Nat → Hp → Prop) (h0 : Pv 0 H4)
    (hs : ∀ i H, i < n → Pv i H → g1 (.int (i : Int)) (wipe σ2 vs1) H fun σ3 H5 => wipe σ3 vs1 = wipe σ2 vs1 ∧ tt1 σ3 H5 fun b H6 =>
      if b = true then te σ3 H6 fun y H7 => ∃ acc, H7 D = some (.lst acc) ∧ acc.length < sizeLine ∧ Pv (i + 1) (upd H7 D (.lst (acc ++ [y]))) else Pv (i + 1) H6) (hd : ∀ H, Pv n H → Nx H) :
    LI (Itr 0 n) D Nx g1 tt1 te vs1 σ2 H4 := x_liR Pv h0 (fun i H hi p => by rw [Int.zero_add]; exact hs i H hi p) hd
end

/-! ### instances -/
structure Own (K : PySem.W.Frag) (mg : Str → Option Value) (nm : Str) (C : Addr) : Prop where
  cl : Cls K C
  mgC : mg nm = some (.ref C)
  makes : PySem.W.makesIn K C = true
  kp : PySem.W.keepIn K (.ref C) = true
section
variable {K : PySem.W.Frag} {σ : St} {H : Hp} {te ta : TE} {Q : VK}
theorem x_fld {a C dx : Addr} {fs : List (Str × V)} {f : Str} {v : V} {P : V → Prop} (h : H a = some (.ins C dx fs)) (c : Cls K C) (n : NoAttr K C f) (l : fs.lookup f = some v) (k : P v) :
    ∃ a' C' dx' fs' v', V.ref a = .ref a' ∧ H a' = some (.ins C' dx' fs') ∧ Cls K C' ∧ NoAttr K C' f ∧ fs'.lookup f = some v' ∧ P v' := ⟨a, C, dx, fs, v, rfl, h, c, n, l, k⟩
theorem x_tfld {f : Str} (h : te σ H fun x H1 => ∃ a C dx fs v, x = .ref a ∧ H1 a = some (.ins C dx fs) ∧ Cls K C ∧ NoAttr K C f ∧ fs.lookup f = some v ∧ Q v H1) : tFld K te f σ H Q := h
end
section
variable {K : PySem.W.Frag} {σ : St} {H : Hp} {tv ta : TE} {n : St → Hp → Prop} {rt : VK} {bk ct : St → Hp → Prop} {f : Str}
theorem x_sfld (h : tv σ H fun y H1 => ta σ H1 fun x H2 => ∃ a C dx fs, x = .ref a ∧ H2 a = some (.ins C dx fs) ∧ Cls K C ∧ NoAttr K C f ∧ fs.length < 1000 ∧ n σ (upd H2 a (.ins C dx (putF f y fs)))) : sFld K ta tv f ⟨n, rt, bk, ct⟩ σ H := h
theorem x_sfl {a C dx : Addr} {fs : List (Str × V)} {P : Addr → Addr → Addr → List (Str × V) → Prop} (h : H a = some (.ins C dx fs)) (c : Cls K C) (nA : NoAttr K C f) (l : fs.length < 1000) (k : P a C dx fs) :
    ∃ a' C' dx' fs', V.ref a = .ref a' ∧ H a' = some (.ins C' dx' fs') ∧ Cls K C' ∧ NoAttr K C' f ∧ fs'.length < 1000 ∧ P a' C' dx' fs' := ⟨a, C, dx, fs, rfl, h, c, nA, l, k⟩
theorem x_sortedI {p : Addr} {ns : List Int} {Q : VK} (h : H p = some (.lst (ns.map V.int))) (k : ∀ (ns' : List Int) (q : Addr), ns'.Perm ns → ns'.Pairwise (· ≤ ·) → H q = none → Q (.ref q) (upd H q (.lst (ns'.map V.int)))) : rSortedI K [.ref p] H Q :=
  ⟨p, ns, rfl, sq_l h, k⟩
theorem x_in {p : Addr} {x : V} {xs : List V} {Q : VK} (h : H p = some (.lst xs)) (fx : flatV x = true) (fs : xs.all flatV = true) (k : Q (.bl (inV x xs)) H) : rIn K false x (.ref p) H Q := ⟨p, xs, rfl, .inl (sq_l h), fx, fs, k⟩
theorem x_nin {p : Addr} {x : V} {xs : List V} {Q : VK} (h : H p = some (.lst xs)) (fx : flatV x = true) (fs : xs.all flatV = true) (k : Q (.bl (!inV x xs)) H) : rIn K true x (.ref p) H Q := ⟨p, xs, rfl, .inl (sq_l h), fx, fs, k⟩
end
theorem x_all {K : PySem.W.Frag} {H : Hp} {p : Addr} {bs : List Bool} {b : Bool} {Q : VK} (h : H p = some (.lst (bs.map V.bl))) (e : bs.all id = b) (k : Q (.bl b) H) : rAll K [.ref p] H Q := ⟨p, bs, rfl, sq_l h, by rw [e]; exact k⟩
theorem x_any {K : PySem.W.Frag} {H : Hp} {p : Addr} {bs : List Bool} {b : Bool} {Q : VK} (h : H p = some (.lst (bs.map V.bl))) (e : bs.any id = b) (k : Q (.bl b) H) : rAny K [.ref p] H Q := ⟨p, bs, rfl, sq_l h, by rw [e]; exact k⟩
/-! ### dicts of ints -/
section
variable {σ : St} {H : Hp} {ty td tv : TE} {Q : VK} {n : St → Hp → Prop} {rt : VK} {bk ct : St → Hp → Prop}
theorem x_dnew (h : ∀ p, H p = none → Q (.ref p) (upd H p (.dK []))) : tDNewK σ H Q := h
theorem x_din (h : ty σ H fun y H1 => td σ H1 fun x H2 => ∃ a o, x = .ref a ∧ DGet H2 a y o ∧ Q (.bl o.isSome) H2) : tDIn ty td σ H Q := h
theorem x_dnin (h : ty σ H fun y H1 => td σ H1 fun x H2 => ∃ a o, x = .ref a ∧ DGet H2 a y o ∧ Q (.bl (!o.isSome)) H2) : tDNotIn ty td σ H Q := h
theorem x_dput (h : tv σ H fun v H1 => td σ H1 fun x H2 => ty σ H2 fun y H3 => ∃ a H4, x = .ref a ∧ DPut H3 a y v H4 ∧ n σ H4) : sDPut td ty tv ⟨n, rt, bk, ct⟩ σ H := h
/-- the dict of the ints of S, each with the value f gives -/
def sD (S : List (Int × V)) : List (Key × V) := S.map fun p => (Sum.inl p.1, p.2)
theorem sD_val (S : List (Int × V)) (k : Int) : valV (sD S) (Sum.inl k : Key) = (S.find? fun p => decide (p.1 = k)).map (·.2) := by
  induction S with
  | nil => rfl
  | cons p r ih =>
    show valV ((Sum.inl p.1, p.2) :: sD r) (Sum.inl k) = _
    by_cases e : p.1 = k
    · rw [valV_pos (by rw [e]), List.find?_cons_of_pos (by simpa using e)]
      rfl
    · rw [valV_neg (fun z => e (Sum.inl.inj z)), List.find?_cons_of_neg (by simpa using e), ih]
theorem x_dgetI {d : Addr} {k : Int} {kvs : List (Key × V)} {P : Option V → Prop} (h : H d = some (.dK kvs)) (p : P (valV kvs (Sum.inl k : Key))) : ∃ a o, V.ref d = .ref a ∧ DGet H a (.int k) o ∧ P o := ⟨d, _, rfl, DGet.k (k := Sum.inl k) h, p⟩
theorem x_dputI {d : Addr} {k : Int} {kvs : List (Key × V)} {v : V} {P : Hp → Prop} (h : H d = some (.dK kvs)) (z : kvs.length < 100000) (p : P (upd H d (.dK (putK kvs (Sum.inl k : Key) v)))) : ∃ a H4, V.ref d = .ref a ∧ DPut H a (.int k) v H4 ∧ P H4 :=
  ⟨d, _, rfl, DPut.k (k := Sum.inl k) h (sz_lt z), p⟩
end
/-- a method -/
structure MetAt (K : PySem.W.Frag) (C : Addr) (m qual : Str) (st : Stmt) (ps : List Str) : Prop where
  ex : ∃ (f : Addr) (fd : FuncData), Fun K m qual st f fd ∧ PySem.W.findIn K (.ref C) m = some (some (.ref f)) ∧ PySem.W.isFn K (.ref f) = true ∧ Binds K fd ps []
structure Met (P : Program) (w : World) (K : PySem.W.Frag) (mg : Str → Option Value) (base : Heap) (CX : CXT) (k : Nat) (C : Addr) (m : Str) (sp : Sp) : Prop where
  ex : ∃ (f : Addr) (fd : FuncData) (ps : List Str), FnOk P w K mg base CX k f fd ps sp ∧ PySem.W.findIn K (.ref C) m = some (some (.ref f)) ∧ PySem.W.isFn K (.ref f) = true ∧ PySem.W.keepIn K (.ref f) = true ∧ Binds K fd ps []
/-- a property's getter -/
structure PrpAt (K : PySem.W.Frag) (C : Addr) (m qual : Str) (st : Stmt) : Prop where
  ex : ∃ (p f : Addr) (fd : FuncData), Fun K m qual st f fd ∧ PropOf K C m p f ∧ Binds K fd ["self"] []
structure Prp (P : Program) (w : World) (K : PySem.W.Frag) (mg : Str → Option Value) (base : Heap) (CX : CXT) (k : Nat) (C : Addr) (m : Str) (sp : Sp) : Prop where
  ex : ∃ (p f : Addr) (fd : FuncData) (ps : List Str), FnOk P w K mg base CX k f fd ps sp ∧ PropOf K C m p f ∧ Binds K fd ps []
section
variable {P : Program} {w : World} {K : PySem.W.Frag} {mg : Str → Option Value} {base : Heap}
/-- a def under its name -/
structure DefAt (K : PySem.W.Frag) (mg : Str → Option Value) (x : Str) (st : Stmt) (ps : List Str) : Prop where
  ex : ∃ (f : Addr) (fd : FuncData), Fun K x x st f fd ∧ mg x = some (.ref f) ∧ Binds K fd ps []
abbrev Bdy (P : Program) (w : World) (K : PySem.W.Frag) (mg : Str → Option Value) (base : Heap) (N : List Str) (qual : Str) (st : Stmt) (k : Nat) (sp : Sp) : Prop :=
  ∀ (f : Addr) (cdv : Value) (A : Around) (outer : List Env) (s : Shared) (H : Hp) (vs : List V) (Q : VK) (E : XK), Room k (A.deeper (envOfC qual (defScope st) s.heap.objs.size f cdv)) → sp vs H Q E →
      ∃ t, PSs (cxOf CX0 P w K mg base N qual (defScope st) f cdv A outer s H E).nox (defBody st) t ∧ t { nx := fun _ H' => Q .non H', rt := Q } (start N vs) H
/-- its promise, by its body; nothing leaves it but by return -/
theorem DefAt.cal {x : Str} {st : Stmt} {N ps : List Str} {k : Nat} {sp : Sp} (F : DefAt K mg x st ps) (S : FnScope N ps (defScope st)) (len : ∀ vs H Q E, sp vs H Q E → vs.length = ps.length)
    (hbody : Bdy P w K mg base N x st k sp) : Cal P w K mg base CX0 (k + 1) x sp := by
  obtain ⟨f, fd, F, m, b⟩ := F.ex
  exact ⟨f, fd, ps, F.ok S len (fun cdv A outer s H vs Q E hr h => hbody f cdv A outer s H vs Q E hr h), m, F.kp, b⟩
theorem MetAt.met {C : Addr} {m qual : Str} {st : Stmt} {N ps : List Str} {k : Nat} {sp : Sp} (F : MetAt K C m qual st ps) (S : FnScope N ps (defScope st)) (len : ∀ vs H Q E, sp vs H Q E → vs.length = ps.length)
    (hbody : Bdy P w K mg base N qual st k sp) : Met P w K mg base CX0 (k + 1) C m sp := by
  obtain ⟨f, fd, F, m1, m2, b⟩ := F.ex
  exact ⟨f, fd, ps, F.ok S len (fun cdv A outer s H vs Q E hr h => hbody f cdv A outer s H vs Q E hr h), m1, m2, F.kp, b⟩
theorem PrpAt.prp {C : Addr} {m qual : Str} {st : Stmt} {N : List Str} {k : Nat} {sp : Sp} (F : PrpAt K C m qual st) (S : FnScope N ["self"] (defScope st)) (len : ∀ vs H Q E, sp vs H Q E → vs.length = 1)
    (hbody : Bdy P w K mg base N qual st k sp) : Prp P w K mg base CX0 (k + 1) C m sp := by
  obtain ⟨p, f, fd, F, m1, b⟩ := F.ex
  exact ⟨p, f, fd, ["self"], F.ok S len (fun cdv A outer s H vs Q E hr h => hbody f cdv A outer s H vs Q E hr h), m1, b⟩
end
section
variable {X : Cx} {CX : CXT} {k j : Nat} {C : Addr} {m : Str} {sp : Sp} {E : XK} {o e : Expr} {es : List Expr} {pos apos : Pos} {ta : TE} {t : TA}
theorem pe_prp (p : Prp X.prog X.w X.K X.mg X.base CX k C m sp) (c : Cls X.K C) (hr : Room j X.A) (hk : k + 1 ≤ j) (hx : Passes CX X.nox E) (he : PE X e ta) (hab : attributeBase e m X.env (eval e X.env) = eval e X.env) : PE X (.Attribute e m pos) (tProp C sp [] E ta) := by
  obtain ⟨p, f, fd, ps, F, m1, b⟩ := p.ex
  exact pe_prop he c m1 F (hr.mono hk) b .nil hx hab
theorem pe_mak {x : Str} {p : Pos} (M : Met X.prog X.w X.K X.mg X.base CX k C "__init__" sp) (O : Own X.K X.mg x C) (hr : Room j X.A) (hk : k + 1 ≤ j) (hg : Gl X x) (hx : Passes CX X E) (ha : PA X (e :: es) t)
    (hdb : (x == ("__debug__" : Str)) = false := by decide) (he : starEach (e :: es) X.env = (false, eval e X.env) :: starEach es X.env := by rfl) (hpl : (backTo pos (starEach es X.env)).any (·.1) = false := by rfl) :
    PE X (.Call (.Name x p) (e :: es) [] pos) (tMake C sp [] E t) := by
  obtain ⟨f, fd, ps, F, m1, m2, m3, b⟩ := M.ex
  exact pe_make ⟨O.makes, m1, m2, O.kp⟩ F (hr.mono hk) hg O.mgC b .nil hx ha hdb he hpl
/-- len of an instance by its own __len__ -/
def rLenO (C : Addr) (sp : Sp) (E : XK) : List V → Hp → VK → Prop := fun xs H Q => ∃ a dx fs, xs = [.ref a] ∧ H a = some (.ins C dx fs) ∧ sp [.ref a] H (fun v H' => ∃ n : Int, v = .int n ∧ 0 ≤ n ∧ n < 2 ^ 63 ∧ Q (.int n) H') E
theorem call_lenO (M : Met X.prog X.w X.K X.mg X.base CX k C "__len__" sp) (hr : Room j X.A) (hk : k + 1 ≤ j) (hx : Passes CX X E) : CallR X (.builtin "len") (rLenO C sp E) := by
  intro pins s σ H xs us Q I r h
  obtain ⟨a, dx, fs, rfl, ha, hsp⟩ := h
  obtain ⟨u, rfl, ru⟩ := vals1 r
  obtain rfl : u = Value.ref a := ru
  obtain ⟨f, fd, ps, F, m1, m2, m3, b⟩ := M.ex
  obtain ⟨mA, J, _⟩ := ins_get I.hok ha
  obtain ⟨od, J, _⟩ := J.look
  obtain ⟨mm, hF⟩ := I.fr
  refine PySem.W.len_K hF I.ok.mod.kin J m1 m2 ?_
  have hl := F.len _ _ _ _ hsp
  have r2 : Vals [V.ref a] [Value.ref a] := .cons rfl .nil
  refine wpAny_call (codeAny_mono (F.run X.A.in1 X.stack s H ⟨[.ref a], []⟩ [.ref a] [.ref a] _ E (hr.mono hk).in1 I.env0.in1 (by
    have := b s [.ref a] I.kIn (by simpa using hl)
    simpa using this) r2 hsp) fun r s' hq => ?_)
  cases r with
  | error e => exact hx pins σ H s e s' I hq
  | ok fl =>
    cases fl with
    | ret w =>
      obtain ⟨z, H', I', rz, n, rfl, n0, n1, q⟩ := I.after hq
      obtain ⟨t', rfl⟩ := rz
      exact ⟨⟨n0, n1⟩, ⟨.int n, H', I'.tok _, ⟨_, rfl⟩, q⟩⟩
    | next => exact False.elim hq
    | brk => exact False.elim hq
    | cont => exact False.elim hq
end

/-! ### kinds of values -/
def kinds : List String := ["NoneType", "bool", "int", "str", "list", "tuple", "dict"]
/-- x is a value of the built-in kind T -/
structure Knd (K : PySem.W.Frag) (H : Hp) (x : V) (T : String) : Prop where
  ty : TyX K H x (.type T)
  mem : T ∈ kinds
theorem knd_int {K : PySem.W.Frag} {H : Hp} (i : Int) : Knd K H (.int i) "int" := ⟨.base (.int i), by decide⟩
theorem knd_bl {K : PySem.W.Frag} {H : Hp} (i : Bool) : Knd K H (.bl i) "bool" := ⟨.base (.bl i), by decide⟩
theorem knd_non {K : PySem.W.Frag} {H : Hp} : Knd K H .non "NoneType" := ⟨.base .non, by decide⟩
theorem knd_str {K : PySem.W.Frag} {H : Hp} (z : Str) : Knd K H (.str z) "str" := ⟨.base (.str z), by decide⟩
theorem knd_lst {K : PySem.W.Frag} {H : Hp} {a : Addr} {xs : List V} (h : H a = some (.lst xs)) : Knd K H (.ref a) "list" := ⟨.base (.lst h), by decide⟩
theorem knd_tup {K : PySem.W.Frag} {H : Hp} {a : Addr} {xs : List V} (h : H a = some (.tup xs)) : Knd K H (.ref a) "tuple" := ⟨.base (.tup h), by decide⟩
theorem knd_dK {K : PySem.W.Frag} {H : Hp} {a : Addr} {xs : List (Key × V)} (h : H a = some (.dK xs)) : Knd K H (.ref a) "dict" := ⟨.base (.dK h), by decide⟩
theorem kit_int {T : String} (h : T ∈ kinds) : kitB T "int" = some (T == "int" || T == "bool") := by
  simp only [kinds, List.mem_cons, List.not_mem_nil, or_false] at h
  rcases h with rfl | rfl | rfl | rfl | rfl | rfl | rfl <;> decide +kernel
theorem kit_bool {T : String} (h : T ∈ kinds) : kitB T "bool" = some (T == "bool") := by
  simp only [kinds, List.mem_cons, List.not_mem_nil, or_false] at h
  rcases h with rfl | rfl | rfl | rfl | rfl | rfl | rfl <;> decide +kernel
theorem kit_list {T : String} (h : T ∈ kinds) : kitB T "list" = some (T == "list") := by
  simp only [kinds, List.mem_cons, List.not_mem_nil, or_false] at h
  rcases h with rfl | rfl | rfl | rfl | rfl | rfl | rfl <;> decide +kernel
theorem kit_tuple {T : String} (h : T ∈ kinds) : kitB T "tuple" = some (T == "tuple") := by
  simp only [kinds, List.mem_cons, List.not_mem_nil, or_false] at h
  rcases h with rfl | rfl | rfl | rfl | rfl | rfl | rfl <;> decide +kernel
section
variable {K : PySem.W.Frag} {H : Hp} {Q : VK} {x : V} {T : String}
theorem y_isInt {b : Bool} (k : Knd K H x T) (e : (T == "int" || T == "bool") = b) (h : Q (.bl b) H) : rIsi K [x, .ty "int"] H Q := x_isi (.ty _) k.ty (kit_ty (e ▸ kit_int k.mem)) h
theorem x_isInt (k : Knd K H x T) (h : Q (.bl (T == "int" || T == "bool")) H) : rIsi K [x, .ty "int"] H Q := x_isi (.ty _) k.ty (kit_ty (kit_int k.mem)) h
theorem y_isBool {b : Bool} (k : Knd K H x T) (e : (T == "bool") = b) (h : Q (.bl b) H) : rIsi K [x, .ty "bool"] H Q := x_isi (.ty _) k.ty (kit_ty (e ▸ kit_bool k.mem)) h
theorem x_isBool (k : Knd K H x T) (h : Q (.bl (T == "bool")) H) : rIsi K [x, .ty "bool"] H Q := x_isi (.ty _) k.ty (kit_ty (kit_bool k.mem)) h
theorem y_isList {b : Bool} (k : Knd K H x T) (e : (T == "list") = b) (h : Q (.bl b) H) : rIsi K [x, .ty "list"] H Q := x_isi (.ty _) k.ty (kit_ty (e ▸ kit_list k.mem)) h
theorem x_isList (k : Knd K H x T) (h : Q (.bl (T == "list")) H) : rIsi K [x, .ty "list"] H Q := x_isi (.ty _) k.ty (kit_ty (kit_list k.mem)) h
theorem y_isTuple {b : Bool} (k : Knd K H x T) (e : (T == "tuple") = b) (h : Q (.bl b) H) : rIsi K [x, .ty "tuple"] H Q := x_isi (.ty _) k.ty (kit_ty (e ▸ kit_tuple k.mem)) h
theorem x_isTuple (k : Knd K H x T) (h : Q (.bl (T == "tuple")) H) : rIsi K [x, .ty "tuple"] H Q := x_isi (.ty _) k.ty (kit_ty (kit_tuple k.mem)) h
end

/-! ### what the top has written -/
section
variable {K : PySem.W.Frag} {h : Heap} {mg : Str → Option Value}
theorem defAt_mk {x : Str} {st : Stmt} {ps : List Str} {f : Addr} {oc : Value} {od an : Option Addr} {osl : Array (Option Value)} {kV doc pm cdv ct : Value} (X : K.In h) (G : h.Ns mainGlobals mg)
    (a : PySem.W.nsIn K mainGlobals x = some (some (.ref f))) (l : K.lookup f = some ⟨oc, od, .func (PySem.W.fnOf x x (defArgs st) (defBody st) (defScope st) .none kV doc pm an cdv ct), osl⟩) (c : PySem.W.codeIn K cdv x = true) (k : PySem.W.keepIn K (.ref f) = true)
    (b : ∀ (kV doc pm : Value) (an : Option Addr) (cdv ct : Value) (us : List Value), us.length = ps.length → bindArgs (PySem.W.fnOf x x (defArgs st) (defBody st) (defScope st) .none kV doc pm an cdv ct) ⟨us, []⟩ = pure (ps.zip us)) : DefAt K mg x st ps :=
  ⟨f, _, fun_mk l c k, PySem.W.mg_of X G a, (fun_mk l c k).binds b⟩
theorem metAt_mk {m qual : Str} {st : Stmt} {ps : List Str} {f C : Addr} {oc : Value} {od an : Option Addr} {osl : Array (Option Value)} {kV doc pm cdv ct : Value}
    (a : PySem.W.findIn K (.ref C) m = some (some (.ref f))) (i : PySem.W.isFn K (.ref f) = true) (l : K.lookup f = some ⟨oc, od, .func (PySem.W.fnOf m qual (defArgs st) (defBody st) (defScope st) .none kV doc pm an cdv ct), osl⟩) (c : PySem.W.codeIn K cdv qual = true) (k : PySem.W.keepIn K (.ref f) = true)
    (b : ∀ (kV doc pm : Value) (an : Option Addr) (cdv ct : Value) (us : List Value), us.length = ps.length → bindArgs (PySem.W.fnOf m qual (defArgs st) (defBody st) (defScope st) .none kV doc pm an cdv ct) ⟨us, []⟩ = pure (ps.zip us)) : MetAt K C m qual st ps :=
  ⟨f, _, fun_mk l c k, a, i, (fun_mk l c k).binds b⟩
theorem prpAt_mk {m qual : Str} {st : Stmt} {p f C : Addr} {oc : Value} {od an : Option Addr} {osl : Array (Option Value)} {kV doc pm cdv ct : Value} {rest : List Value}
    (a : PySem.W.findIn K (.ref C) m = some (some (.ref p))) (g : PySem.W.specialIn K (.ref p) "__get__" = some (some (.builtin "property.__get__"))) (t : PySem.W.takesIn K (.ref p) = some true) (r : PySem.W.recIn K p "property" = some (.ref f :: rest))
    (l : K.lookup f = some ⟨oc, od, .func (PySem.W.fnOf m qual (defArgs st) (defBody st) (defScope st) .none kV doc pm an cdv ct), osl⟩) (c : PySem.W.codeIn K cdv qual = true) (k : PySem.W.keepIn K (.ref f) = true)
    (b : ∀ (kV doc pm : Value) (an : Option Addr) (cdv ct : Value) (us : List Value), us.length = (["self"] : List Str).length → bindArgs (PySem.W.fnOf m qual (defArgs st) (defBody st) (defScope st) .none kV doc pm an cdv ct) ⟨us, []⟩ = pure ((["self"] : List Str).zip us)) : PrpAt K C m qual st :=
  ⟨p, f, _, fun_mk l c k, ⟨a, g, t, _, r⟩, (fun_mk l c k).binds b⟩
theorem own_mk {nm : Str} {C : Addr} (X : K.In h) (G : h.Ns mainGlobals mg) (a : PySem.W.nsIn K mainGlobals nm = some (some (.ref C))) (pg : PySem.W.plainGet K C Str.empty = true) (hd : PySem.W.hasDictIn K C = true) (po : PySem.W.plainOver K C = true)
    (sa : PySem.W.findIn K (.ref C) "__setattr__" = some (some (.builtin "object.__setattr__"))) (mk : PySem.W.makesIn K C = true) (kp : PySem.W.keepIn K (.ref C) = true) : Own K mg nm C := ⟨⟨pg, hd, po, sa⟩, PySem.W.mg_of X G a, mk, kp⟩
end
def spLaw (K : PySem.W.Frag) : Sp := fun vs H Q _ => ∃ (a : Addr) (ns : List Int), vs = [.ref a] ∧ SqL K H a (ns.map V.int) ∧ ns.length ≤ 63 ∧ ∀ H', Q (.bl true) H'
theorem same_keep {H H1 H2 : Hp} {p : Addr} (s : Same H H1) (k : Keep p H1 H2) (p0 : H p = none) : Same H H2 := fun a o h => k a o (s a o h) (ne_of_none h p0)
end OC

namespace OC
open PySem PySem.Spec PyProof.Rows L2
/-! ### the steps -/
local macro_rules | `(tactic| walk_at "look") => `(tactic| first
  | assumption
  | exact upd_same
  | (refine new_at (by assumption) ?_; walk_at "look")
  | (refine upd_at (by walk_at "ne") ?_; walk_at "look")
  | (refine Keep.at (by assumption) ?_ (by walk_at "ne"); walk_at "look")
  | (refine sat (by assumption) ?_; walk_at "look"))
local macro_rules | `(tactic| walk_at "knd") => `(tactic| first
  | exact knd_int _
  | exact knd_lst (by walk_at "look")
  | exact knd_tup (by walk_at "look")
  | exact knd_bl _
  | exact knd_non
  | exact knd_str _
  | exact knd_dK (by walk_at "look"))
local macro_rules | `(tactic| walk_at "ne") => `(tactic| first
  | assumption
  | exact Ne.symm (by assumption))
local macro_rules | `(tactic| walk_at "ar") => `(tactic| first
  | omega
  | assumption
  | (simp only [List.length_cons, List.length_nil, List.length_append, List.length_map]; omega)
  | rfl
  | decide)
local macro_rules | `(tactic| walk_at "s1") => `(tactic| first
  | with_reducible refine x_seq ?_
  | ((with_reducible refine' x_var ?k0 ?_); (case k0 => with_unfolding_all rfl))
  | with_reducible refine x_c ?_
  | with_reducible refine x_op ?_
  | with_reducible refine x_I0 ?_
  | with_reducible refine x_asg ?_
  | ((with_reducible refine' x_name ?k0 ?_); (case k0 => with_unfolding_all rfl))
  | with_reducible refine x_next ?_
  | with_reducible refine x_ret ?_
  | with_reducible refine x_drop ?_
  | with_reducible refine x_ifs ?_
  | with_reducible refine x_test ?_
  | with_reducible refine x_B ?_
  | with_reducible refine x_bl ?_
  | with_reducible refine x_cons ?_
  | with_reducible refine x_nil ?_
  | with_reducible refine x_cb ?_
  | with_reducible refine x_call ?_
  | with_reducible refine x_tup ?_
  | with_reducible refine x_lst ?_
  | with_reducible refine x_bm ?_
  | with_reducible refine x_bm0 ?_
  | with_reducible refine x_un ?_
  | with_reducible refine x_U ?_
  | with_reducible refine x_not ?_
  | with_reducible refine x_and ?_
  | with_reducible refine x_or ?_
  | with_reducible refine x_andV ?_
  | with_reducible refine x_orV ?_
  | with_reducible refine x_notV ?_
  | with_reducible refine x_if ?_
  | with_reducible refine x_sub ?_
  | with_reducible refine x_gCons ?_
  | with_reducible refine x_gNil ?_
  | with_reducible refine x_retN ?_
  | with_reducible refine x_break ?_
  | with_reducible refine x_cont ?_
  | with_reducible refine x_T ?_
  | with_reducible refine x_nT ?_
  | with_reducible refine x_nF ?_
  | with_reducible refine x_meth0 ?_
  | with_reducible refine x_meth ?_
  | with_reducible refine x_prop ?_
  | with_reducible refine x_F ?_
  | with_reducible refine x_int_i ?_
  | with_reducible refine x_int_b ?_
  | with_reducible refine x_max2 ?_
  | with_reducible refine x_min2 ?_
  | with_reducible refine x_for ?_
  | with_reducible refine x_lc ?_
  | with_reducible refine x_lc2 ?_
  | with_reducible refine x_rg1 ?_
  | with_reducible refine x_rg2 ?_
  | with_reducible refine x_il ?_
  | with_reducible refine x_yes ?_
  | with_reducible refine x_tfld ?_
  | with_reducible refine x_din ?_
  | with_reducible refine x_dnin ?_
  | with_reducible refine x_dput ?_
  | with_reducible refine x_lstRg ?_
  | with_reducible refine x_tRg1 ?_
  | with_reducible refine x_rgN ?_
  | with_reducible refine x_sfld ?_
  | with_reducible refine x_make ?_
  | with_reducible refine x_eqI ?_
  | with_reducible refine x_neI ?_)
local macro_rules | `(tactic| walk_at "s2") => `(tactic| first
  | ((with_reducible refine' x_ixL ?k0 ?k1 ?_); (case k0 => walk_at "look"); (case k1 => first | assumption | with_unfolding_all rfl))
  | ((with_reducible refine' x_ixT ?k0 ?k1 ?_); (case k0 => walk_at "look"); (case k1 => first | assumption | with_unfolding_all rfl))
  | ((with_reducible refine' x_mod ?k0 ?_); (case k0 => walk_at "ar"))
  | ((with_reducible refine' x_div ?k0 ?k1 ?_); (case k0 => walk_at "ar"); (case k1 => walk_at "ar"))
  | ((with_reducible refine' x_mull ?k0 ?k1 ?_); (case k0 => omega); (case k1 => omega))
  | ((with_reducible refine' x_mulr ?k0 ?k1 ?_); (case k0 => omega); (case k1 => omega))
  | ((with_reducible refine' x_pow ?k0 ?k1 ?k2 ?_); (case k0 => decide); (case k1 => decide); (case k2 => decide))
  | ((with_reducible refine' x_divW ?k0 ?k1 ?_); (case k0 => decide); (case k1 => decide))
  | ((with_reducible refine' x_tyL ?k0 ?_); (case k0 => walk_at "look"))
  | ((with_reducible refine' x_append ?k0 ?k1 ?_); (case k0 => walk_at "look"); (case k1 => exact sz_lt (by walk_at "ar")))
  | ((with_reducible refine' x_setL ?k0 ?k1 ?k2 ?_); (case k0 => walk_at "look"); (case k1 => walk_at "ar"); (case k2 => walk_at "ar"))
  | ((with_reducible refine' x_gTup ?k0 ?k1 ?_); (case k0 => walk_at "look"); (case k1 => with_unfolding_all rfl))
  | ((with_reducible refine' x_it ?k0 ?_); (case k0 => walk_at "ar"))
  | ((with_reducible refine' x_if0 ?k0 ?_); (case k0 => walk_at "ar"))
  | ((with_reducible refine' x_itn0 ?k0 ?_); (case k0 => walk_at "ar"))
  | ((with_reducible refine' x_itn1 ?k0 ?_); (case k0 => walk_at "ar"))
  | ((with_reducible refine' x_r1 ?k0 ?k1 ?_); (case k0 => walk_at "ar"); (case k1 => walk_at "ar"))
  | ((with_reducible refine' x_r2 ?k0 ?k1 ?k2 ?k3 ?_); (case k0 => walk_at "ar"); (case k1 => walk_at "ar"); (case k2 => walk_at "ar"); (case k3 => walk_at "ar"))
  | ((with_reducible refine' x_rgOk ?k0 ?k1 ?_); (case k0 => walk_at "ar"); (case k1 => walk_at "ar"))
  | ((with_reducible refine' x_ill ?k0 ?_); (case k0 => walk_at "look"))
  | ((with_reducible refine' x_wipe ?k0 ?_); (case k0 => with_unfolding_all rfl))
  | ((with_reducible refine' x_fld ?k0 ?k1 ?k2 ?k3 ?_); (case k0 => walk_at "look"); (case k1 => assumption); (case k2 => assumption); (case k3 => assumption))
  | ((with_reducible refine' y_isInt (b := true) ?k0 ?k1 ?_); (case k0 => walk_at "knd"); (case k1 => decide))
  | ((with_reducible refine' y_isInt (b := false) ?k0 ?k1 ?_); (case k0 => walk_at "knd"); (case k1 => decide))
  | ((with_reducible refine' y_isBool (b := true) ?k0 ?k1 ?_); (case k0 => walk_at "knd"); (case k1 => decide))
  | ((with_reducible refine' y_isBool (b := false) ?k0 ?k1 ?_); (case k0 => walk_at "knd"); (case k1 => decide))
  | ((with_reducible refine' y_isList (b := true) ?k0 ?k1 ?_); (case k0 => walk_at "knd"); (case k1 => decide))
  | ((with_reducible refine' y_isList (b := false) ?k0 ?k1 ?_); (case k0 => walk_at "knd"); (case k1 => decide))
  | ((with_reducible refine' y_isTuple (b := true) ?k0 ?k1 ?_); (case k0 => walk_at "knd"); (case k1 => decide))
  | ((with_reducible refine' y_isTuple (b := false) ?k0 ?k1 ?_); (case k0 => walk_at "knd"); (case k1 => decide))
  | ((with_reducible refine' x_inp ?k0 ?_); (case k0 => walk_at "look"))
  | ((with_reducible refine' x_len ?k0 ?_); (case k0 => walk_at "look"))
  | ((with_reducible refine' x_lenT ?k0 ?_); (case k0 => walk_at "look"))
  | ((with_reducible refine' x_rev ?k0 ?_); (case k0 => walk_at "look")))
local macro_rules | `(tactic| walk_at "go") => `(tactic| repeat (first | walk_at "s1" | walk_at "s2"))
def topS (i : Nat) : Stmt := PySem.Challenge.pw_ownhues_k24_whole_places_struck_in_order.main.body.getD i (.Pass ⟨0, 0, 0, 0⟩)
/-- what the top has left alone -/
structure Tx (mg : Str → Option Value) : Prop where
  z_abs : mg "abs" = none
  z_all : mg "all" = none
  z_bool : mg "bool" = none
  z_int : mg "int" = none
  z_isinstance : mg "isinstance" = none
  z_len : mg "len" = none
  z_list : mg "list" = none
  z_max : mg "max" = none
  z_min : mg "min" = none
  z_property : mg "property" = none
  z_range : mg "range" = none
  z_sorted : mg "sorted" = none
  z_tuple : mg "tuple" = none
/-! ### the urn: three numbers that drawing changes -/
def UrnZ (H : Hp) (u : Addr) (n : Nat) : Prop := ∃ x y z : Int, H u = some (.lst [.int x, .int y, .int z]) ∧ 0 ≤ x ∧ 0 ≤ y ∧ y < 2 ^ 104 ∧ 0 ≤ z ∧ z + n ≤ 2 ^ 40
theorem UrnZ.mono {H : Hp} {u : Addr} {m n : Nat} (h : UrnZ H u n) (q : m ≤ n) : UrnZ H u m := by
  obtain ⟨x, y, z, h1, h2, h3, h4, h5, h6⟩ := h
  exact ⟨x, y, z, h1, h2, h3, h4, h5, by omega⟩
def spPick : Sp := fun vs H Q _ => ∃ u m n, vs = [.ref u, .int m] ∧ 0 < m ∧ m < 2 ^ 30 ∧ UrnZ H u (n + 1) ∧ ∀ r H', 0 ≤ r → r < m → Keep u H H' → UrnZ H' u n → Q (.int r) H'
theorem x_pick {H : Hp} {Q : VK} {E : XK} {u : Addr} {m : Int} (n : Nat) (m0 : 0 < m) (m1 : m < 2 ^ 30) (hu : UrnZ H u (n + 1)) (h : ∀ r H', 0 ≤ r → r < m → Keep u H H' → UrnZ H' u n → Q (.int r) H') : spPick [.ref u, .int m] H Q E := ⟨u, m, n, rfl, m0, m1, hu, h⟩
theorem UrnZ.keep {H H' : Hp} {u p : Addr} {n : Nat} (h : UrnZ H u n) (k : Keep p H H') (ne : u ≠ p) : UrnZ H' u n := by
  obtain ⟨x, y, z, h1, h2⟩ := h
  exact ⟨x, y, z, k _ _ h1 ne, h2⟩
theorem UrnZ.same {H H' : Hp} {u : Addr} {n : Nat} (h : UrnZ H u n) (k : Same H H') : UrnZ H' u n := by
  obtain ⟨x, y, z, h1, h2⟩ := h
  exact ⟨x, y, z, k _ _ h1, h2⟩
theorem UrnZ.upd {H : Hp} {u p : Addr} {n : Nat} {o : HO} (h : UrnZ H u n) (ne : u ≠ p) : UrnZ (upd H p o) u n := by
  obtain ⟨x, y, z, h1, h2⟩ := h
  exact ⟨x, y, z, upd_at ne h1, h2⟩
theorem UrnZ.ne {H : Hp} {u p : Addr} {n : Nat} (h : UrnZ H u n) (hp : H p = none) : u ≠ p := by
  obtain ⟨x, y, z, h1, h2⟩ := h
  exact ne_of_none h1 hp
theorem UrnZ.some {H : Hp} {u : Addr} {n : Nat} (h : UrnZ H u n) : ∃ xs, H u = some (.lst xs) := by
  obtain ⟨x, y, z, h1, h2⟩ := h
  exact ⟨_, h1⟩
theorem Keep.free {H H' : Hp} {u p : Addr} {n : Nat} (k : Keep u H H') (h : UrnZ H' u n) (hp : H' p = none) : H p = none := by
  cases e : H p with
  | none => rfl
  | some o =>
    by_cases q : p = u
    · subst q
      obtain ⟨_, _, _, h1, _⟩ := h
      rw [hp] at h1
      cases h1
    · have := k _ _ e q
      rw [hp] at this
      cases this
theorem erase_perm {α : Type} : ∀ {l : List α} {j : Nat} {y : α}, l[j]? = some y → (y :: l.eraseIdx j).Perm l
  | [], _, _, h => by simp at h
  | a :: r, 0, y, h => by
    have e : a = y := Option.some.inj h
    subst e
    exact List.Perm.refl _
  | a :: r, j + 1, y, h => by
    have ih := erase_perm (l := r) (j := j) (y := y) h
    exact (List.Perm.swap a y (r.eraseIdx j)).trans (ih.cons a)
theorem perm_erase {fs ls xs : List V} {j : Nat} {y : V} (h : (fs ++ ls).Perm xs) (e : ls[j]? = some y) : (fs ++ [y] ++ ls.eraseIdx j).Perm xs := by
  refine List.Perm.trans ?_ h
  rw [List.append_assoc]
  exact List.Perm.append_left fs (erase_perm e)
/-! ### whether a value is an integer -/
def spIsInt (K : PySem.W.Frag) : Sp := fun vs H Q _ => ∃ x T, vs = [x] ∧ Knd K H x T ∧ Q (.bl (T == "int")) H
theorem isint_val {T : String} (h : T ∈ kinds) : (T == "int" || T == "bool") = true → (!(T == "bool")) = (T == "int") := by
  simp only [kinds, List.mem_cons, List.not_mem_nil, or_false] at h
  rcases h with rfl | rfl | rfl | rfl | rfl | rfl | rfl <;> decide
theorem isint_no {T : String} (h : (T == "int" || T == "bool") = false) : (T == "int") = false := (Bool.or_eq_false_iff.mp h).1
theorem x_spInt {K : PySem.W.Frag} {H : Hp} {Q : VK} {E : XK} {i : Int} (h : Q (.bl true) H) : spIsInt K [.int i] H Q E := ⟨.int i, "int", rfl, knd_int i, h⟩
abbrev s_is_integer : Stmt := topS 6
theorem sc_is_integer : FnScope ["value"] ["value"] (defScope s_is_integer) := ⟨rfl, rfl, rfl, by decide +kernel, rfl, by decide +kernel, by decide +kernel⟩
section
variable {P : Program} {w : World} {K : PySem.W.Frag} {mg : Str → Option Value} {base : Heap}
theorem c_is_integer (T : Tx mg) (F : DefAt K mg "is_integer" s_is_integer ["value"]) : Cal P w K mg base CX0 1 "is_integer" (spIsInt K) := by
  refine F.cal sc_is_integer (fun vs H Q E h => ?_) (fun f cdv A outer s H vs Q E hr h => ?_)
  · obtain ⟨x, T, rfl, _⟩ := h
    rfl
  · obtain ⟨x, Ty, rfl, k, q⟩ := h
    refine ⟨_, (pss_one (ps_ret (pe_and (pe_callB (cl_isi K) (by rfl) T.z_isinstance (by decide +kernel) (pa_cons (pv 0) (pa_cons (pe_bltn (v := .ty "int") (by rfl) T.z_int (by decide +kernel) rfl) pa_nil))) (pe_one (pe_not (pe_callB (cl_isi K) (by rfl) T.z_isinstance (by decide +kernel) (pa_cons (pv 0) (pa_cons (pe_bltn (v := .ty "bool") (by rfl) T.z_bool (by decide +kernel) rfl) pa_nil)))))))), ?_⟩
    walk_at "go"
    refine x_isInt k ?_
    walk_at "go"
    refine x_itb (fun c => ?_) (fun c => ?_)
    · walk_at "go"
      refine x_isBool k ?_
      walk_at "go"
      rw [isint_val k.mem c]
      exact q
    · rw [isint_no c] at q
      exact q
end
abbrev s_l_whole : Stmt := topS 16
theorem sc_l_whole : FnScope ["found"] ["found"] (defScope s_l_whole) := ⟨rfl, rfl, rfl, by decide +kernel, rfl, by decide +kernel, by decide +kernel⟩
section
variable {P : Program} {w : World} {K : PySem.W.Frag} {mg : Str → Option Value} {base : Heap}
theorem c_l_whole (T : Tx mg) (F : DefAt K mg "_law_whole" s_l_whole ["found"]) : Cal P w K mg base CX0 1 "_law_whole" (spIsInt K) := by
  refine F.cal sc_l_whole (fun vs H Q E h => ?_) (fun f cdv A outer s H vs Q E hr h => ?_)
  · obtain ⟨x, T, rfl, _⟩ := h
    rfl
  · obtain ⟨x, Ty, rfl, k, q⟩ := h
    refine ⟨_, (pss_one (ps_ret (pe_and (pe_callB (cl_isi K) (by rfl) T.z_isinstance (by decide +kernel) (pa_cons (pv 0) (pa_cons (pe_bltn (v := .ty "int") (by rfl) T.z_int (by decide +kernel) rfl) pa_nil))) (pe_one (pe_not (pe_callB (cl_isi K) (by rfl) T.z_isinstance (by decide +kernel) (pa_cons (pv 0) (pa_cons (pe_bltn (v := .ty "bool") (by rfl) T.z_bool (by decide +kernel) rfl) pa_nil)))))))), ?_⟩
    walk_at "go"
    refine x_isInt k ?_
    walk_at "go"
    refine x_itb (fun c => ?_) (fun c => ?_)
    · walk_at "go"
      refine x_isBool k ?_
      walk_at "go"
      rw [isint_val k.mem c]
      exact q
    · rw [isint_no c] at q
      exact q
end
abbrev s_is_tie : Stmt := topS 7
theorem sc_is_tie : FnScope ["places", "value"] ["places", "value"] (defScope s_is_tie) := ⟨rfl, rfl, rfl, by decide +kernel, rfl, by decide +kernel, by decide +kernel⟩
def spTie : Sp := fun vs H Q _ => ∃ (n : Int) (t : Addr) (a b : Int), vs = [.int n, .ref t] ∧ H t = some (.tup [.int a, .int b]) ∧ Q (.bl (decide (0 ≤ a ∧ a < b ∧ b < n))) H
section
variable {P : Program} {w : World} {K : PySem.W.Frag} {mg : Str → Option Value} {base : Heap}
theorem c_is_tie (T : Tx mg) (F : DefAt K mg "is_tie" s_is_tie ["places", "value"]) (c_is_integer : Cal P w K mg base CX0 1 "is_integer" (spIsInt K)) : Cal P w K mg base CX0 2 "is_tie" spTie := by
  refine F.cal sc_is_tie (fun vs H Q E h => ?_) (fun f cdv A outer s H vs Q E hr h => ?_)
  · obtain ⟨n, t, a, b, rfl, _⟩ := h
    rfl
  · obtain ⟨n, t, a, b, rfl, ht, q⟩ := h
    refine ⟨_, (pss_cons (ps_if (PW.pt (pw_or (pt_not (pt_val (pe_callB (cl_isi K) (by rfl) T.z_isinstance (by decide +kernel) (pa_cons (pv 1) (pa_cons (pe_bltn (v := .ty "tuple") (by rfl) T.z_tuple (by decide +kernel) rfl) pa_nil))))) (pw_or1 (pt_cmpR op_ne (pe_callB (cl_len K) (by rfl) T.z_len PySem.boot_len (pa_cons (pv 1) pa_nil)) pe_int (nomark _)))))
        (pss_one (ps_ret pe_bl)) pss_nil)
      (pss_cons (ps_if (PW.pt (pw_or (pt_not (pt_val (pe_cal c_is_integer hr (by decide) rfl pass0 (pa_cons (pe_ix (ix_t K) (pv 1) pe_int (fun _ _ => rfl)) pa_nil)))) (pw_or1 (pt_not (pt_val (pe_cal c_is_integer hr (by decide) rfl pass0 (pa_cons (pe_ix (ix_t K) (pv 1) pe_int (fun _ _ => rfl)) pa_nil)))))))
        (pss_one (ps_ret pe_bl)) pss_nil)
      (pss_one (ps_ret (pe_and (pe_cmpR op_le pe_int (pe_ix (ix_t K) (pv 1) pe_int (fun _ _ => rfl)) (nomark _)) (pe_and (pe_cmpR op_lt (pe_ix (ix_t K) (pv 1) pe_int (fun _ _ => rfl)) (pe_ix (ix_t K) (pv 1) pe_int (fun _ _ => rfl)) (nomark _)) (pe_one (pe_cmpR op_lt (pe_ix (ix_t K) (pv 1) pe_int (fun _ _ => rfl)) (pv 0) (nomark _))))))))), ?_⟩
    walk_at "go"
    refine x_spInt ?_
    walk_at "go"
    refine x_spInt ?_
    walk_at "go"
    refine x_ite (fun c1 => ?_) (fun c1 => ?_)
    · walk_at "go"
      refine x_ite (fun c2 => ?_) (fun c2 => ?_)
      · walk_at "go"
        have e : decide (b < n) = decide (0 ≤ a ∧ a < b ∧ b < n) := by simp [c1, c2]
        rw [e]
        exact q
      · rw [decide_eq_false (by omega)] at q
        exact q
    · rw [decide_eq_false (by omega)] at q
      exact q
end
abbrev s_l_jar : Stmt := topS 12
theorem sc_l_jar : FnScope ["script", "k", "cell", "size"] ["script", "k"] (defScope s_l_jar) := ⟨rfl, rfl, rfl, by decide +kernel, rfl, by decide +kernel, by decide +kernel⟩
def spJar (K : PySem.W.Frag) : Sp := fun vs H Q _ => ∃ (s : Addr) (ns : List Int) (k : Int), vs = [.ref s, .int k] ∧ SqL K H s (ns.map V.int) ∧ 0 ≤ k ∧ k ≤ 100 ∧ ∀ p H', H p = none → Same H H' → UrnZ H' p (2 ^ 39) → Q (.ref p) H'
abbrev s_l_draw : Stmt := topS 13
theorem sc_l_draw : FnScope ["jar", "many", "drawn", "mixed"] ["jar", "many"] (defScope s_l_draw) := ⟨rfl, rfl, rfl, by decide +kernel, rfl, by decide +kernel, by decide +kernel⟩
theorem x_mulW {H : Hp} {Q : VK} {g : Int → Int → V} {i j : Int} (a : i.natAbs < 2 ^ 140) (b : j.natAbs < 2 ^ 140) (h : Q (g i j) H) : rI CMulW g (.int i) (.int j) H Q := x_I (wide_mul a b (by decide) (by decide) (by decide)) h
theorem mix_lt {y z : Int} (y0 : 0 ≤ y) (y1 : y < 2 ^ 104) (z0 : 0 ≤ z) (z1 : z ≤ 2 ^ 40) : (y * 7368787 + z * z * 3267000013 + z).natAbs < 2 ^ 140 := by
  have h1 : z * z ≤ 2 ^ 40 * 2 ^ 40 := Int.mul_le_mul z1 z1 z0 (by decide)
  have h0 : 0 ≤ z * z := Int.mul_nonneg z0 z0
  generalize z * z = q at *
  omega
section
variable {P : Program} {w : World} {K : PySem.W.Frag} {mg : Str → Option Value} {base : Heap}
theorem c_l_jar (T : Tx mg) (F : DefAt K mg "_law_jar" s_l_jar ["script", "k"]) : Cal P w K mg base CX0 1 "_law_jar" (spJar K) := by
  refine F.cal sc_l_jar (fun vs H Q E h => ?_) (fun f cdv A outer s H vs Q E hr h => ?_)
  · obtain ⟨s, ns, k, rfl, _⟩ := h
    rfl
  · obtain ⟨t, ns, k, rfl, hs, k0, k1, q⟩ := h
    refine ⟨_, (pss_cons (ps_set (i := 2) sc_l_jar.nd rfl (Or.inl rfl) pe_int)
      (Evl.pss_cut (ps_if (pt_cmpR op_lt (pv 1) (pe_callB (cl_len K) (by rfl) T.z_len PySem.boot_len (pa_cons (pv 0) pa_nil)) (nomark _))
        (pss_one (ps_set (i := 2) sc_l_jar.nd rfl (Or.inl rfl) (pe_ix (ix_l K) (pv 0) (pv 1) (fun _ _ => rfl)))) pss_nil)
      (pss_cons (ps_set (i := 3) sc_l_jar.nd rfl (Or.inl rfl) (pe_callB call_abs (by rfl) T.z_abs (by decide +kernel) (pa_cons (pv 2) pa_nil)))
      (pss_one (ps_ret (pe_lst (pa_cons (pe_callB (cl_max2 rfl) (by rfl) T.z_max (by decide +kernel) (pa_cons pe_int (pa_cons (pe_op op_sub (pv 3) (pe_op op_pow pe_int pe_int)) pa_nil))) (pa_cons (pe_op op_add (pe_op op_mul (pe_op op_mod (pe_callTy cl_int (by rfl) T.z_int (by decide +kernel) (pa_cons (pv 3) pa_nil)) (pe_op op_add (pe_op op_pow pe_int pe_int) pe_int)) pe_int) (pe_callTy cl_int (by rfl) T.z_int (by decide +kernel) (pa_cons (pe_cmpR op_lt (pv 2) pe_int (nomark _)) pa_nil))) (pa_cons (pe_op op_add (pe_op op_mul pe_int (pv 1)) pe_int) pa_nil))))))))), ?_⟩
    walk_at "go"
    refine x_cut (fun σ' H' => ∃ c : Int, σ' = [some (.ref t), some (.int k), some (.int c), none] ∧ H' = H) ?_ ?_
    · walk_at "go"
      refine x_lenS hs ?_
      walk_at "go"
      refine x_ite (fun c => ?_) (fun c => ?_)
      · obtain ⟨j, rfl⟩ := Int.eq_ofNat_of_zero_le k0
        rw [List.length_map] at c
        have a : atI (ns.map V.int) (j : Int) = some (.int (ns.getD j 0)) := by
          refine atI_nat ?_
          rw [List.getElem?_map, List.getD_eq_getElem?_getD, List.getElem?_eq_getElem (by omega)]
          rfl
        walk_at "go"
        refine x_ixLs hs a ?_
        walk_at "go"
        exact ⟨_, rfl, rfl⟩
      · walk_at "go"
        exact ⟨_, rfl, rfl⟩
    rintro _ _ ⟨c, rfl, rfl⟩
    walk_at "go"
    refine ⟨_, rfl, ?_⟩
    generalize ha : (if c < 0 then -c else c) = a
    have a0 : 0 ≤ a := by
      subst ha
      split <;> omega
    walk_at "go"
    refine x_sz (by show 3 ≤ 100000; decide) fun p hp => ?_
    have h0 : (0 : Int) ≤ a % (10 ^ (24 : Int).toNat + 7) := Int.emod_nonneg _ (by decide)
    have h1 : a % (10 ^ (24 : Int).toNat + 7) < 10 ^ (24 : Int).toNat + 7 := Int.emod_lt_of_pos _ (by decide)
    have e : (10 : Int) ^ (24 : Int).toNat + 7 < 2 ^ 103 := by decide
    refine q p _ hp (same_new hp) ⟨_, _, _, upd_same, ?_, ?_, ?_, by omega, by omega⟩
    · split <;> omega
    · split <;> omega
    · split <;> omega
theorem c_l_draw (T : Tx mg) (F : DefAt K mg "_law_draw" s_l_draw ["jar", "many"]) : Cal P w K mg base CX0 1 "_law_draw" spPick := by
  refine F.cal sc_l_draw (fun vs H Q E h => ?_) (fun f cdv A outer s H vs Q E hr h => ?_)
  · obtain ⟨u, m, n, rfl, _⟩ := h
    rfl
  · obtain ⟨u, m, n, rfl, m0, m1, ⟨x, y, z, hu, x0, y0, y1, z0, z1⟩, k⟩ := h
    refine ⟨_, (pss_cons (ps_if (pt_cmpR op_gt (pe_ix (ix_l K) (pv 0) pe_int (fun _ _ => rfl)) pe_int (nomark _))
        (pss_cons (ps_set (i := 2) sc_l_draw.nd rfl (Or.inl rfl) (pe_op op_mod (pe_callTy cl_int (by rfl) T.z_int (by decide +kernel) (pa_cons (pe_ix (ix_l K) (pv 0) pe_int (fun _ _ => rfl)) pa_nil)) (pv 1)))
      (pss_cons (ps_asg (pe_op op_fdiv (pe_ix (ix_l K) (pv 0) pe_int (fun _ _ => rfl)) (pv 1)) (pg_sub (pv 0) pe_int set_list))
      (pss_one (ps_ret (pv 2))))) pss_nil)
      (pss_cons (ps_asg (pe_op op_add (pe_ix (ix_l K) (pv 0) pe_int (fun _ _ => rfl)) pe_int) (pg_sub (pv 0) pe_int set_list))
      (pss_cons (ps_set (i := 3) sc_l_draw.nd rfl (Or.inl rfl) (pe_op op_add (pe_op op_add (pe_op op_mul (pe_ix (ix_l K) (pv 0) pe_int (fun _ _ => rfl)) pe_int) (pe_op op_mul (pe_op op_mul (pe_ix (ix_l K) (pv 0) pe_int (fun _ _ => rfl)) (pe_ix (ix_l K) (pv 0) pe_int (fun _ _ => rfl))) pe_int)) (pe_ix (ix_l K) (pv 0) pe_int (fun _ _ => rfl))))
      (pss_cons (ps_set (i := 3) sc_l_draw.nd rfl (Or.inl rfl) (pe_op op_mod (pe_callTy cl_int (by rfl) T.z_int (by decide +kernel) (pa_cons (pe_op op_mulW (pv 3) (pv 3)) pa_nil)) (pe_op op_add (pe_op op_pow pe_int pe_int) pe_int)))
      (pss_cons (ps_set (i := 3) sc_l_draw.nd rfl (Or.inl rfl) (pe_op op_mod (pe_callTy cl_int (by rfl) T.z_int (by decide +kernel) (pa_cons (pe_op op_add (pe_op op_mulW (pv 3) (pv 3)) (pe_ix (ix_l K) (pv 0) pe_int (fun _ _ => rfl))) pa_nil)) (pe_op op_add (pe_op op_pow pe_int pe_int) pe_int)))
      (pss_one (ps_ret (pe_op op_mod (pe_callTy cl_int (by rfl) T.z_int (by decide +kernel) (pa_cons (pe_op op_fdiv (pv 3) pe_int) pa_nil)) (pv 1))))))))), ?_⟩
    walk_at "go"
    refine x_ite (fun c => ?_) (fun c => ?_)
    · walk_at "go"
      exact k _ _ (Int.emod_nonneg _ (by omega)) (Int.emod_lt_of_pos _ m0) (keep_self (Keep.refl H)) ⟨x / m, y, z, upd_same, Int.ediv_nonneg x0 (by omega), y0, y1, z0, by omega⟩
    · walk_at "go"
      have b1 := mix_lt y0 y1 (show 0 ≤ z + 1 by omega) (show z + 1 ≤ 2 ^ 40 by omega)
      generalize y * 7368787 + (z + 1) * (z + 1) * 3267000013 + (z + 1) = w1 at *
      refine x_mulW b1 b1 ?_
      walk_at "go"
      have c0 : (0 : Int) ≤ w1 * w1 % (10 ^ (27 : Int).toNat + 103) := Int.emod_nonneg _ (by decide)
      have c1 : w1 * w1 % (10 ^ (27 : Int).toNat + 103) < 10 ^ (27 : Int).toNat + 103 := Int.emod_lt_of_pos _ (by decide)
      have ce : (10 : Int) ^ (27 : Int).toNat + 103 < 2 ^ 103 := by decide
      generalize w1 * w1 % (10 ^ (27 : Int).toNat + 103) = w2 at *
      refine x_mulW (by omega) (by omega) ?_
      walk_at "go"
      exact k _ _ (Int.emod_nonneg _ (by omega)) (Int.emod_lt_of_pos _ m0) (keep_self (Keep.refl H)) ⟨x, y, z + 1, upd_same, x0, y0, y1, by omega, by omega⟩
end
/-! ### webs in plain Lean: a number of places, a relation -/
abbrev Rel := Nat → Nat → Bool
/-- a web of n places -/
structure Gr (n : Nat) (e : Rel) : Prop where
  sym : ∀ u v, e u v = e v u
  irr : ∀ u, e u u = false
  lt : ∀ u v, e u v = true → u < n
theorem Gr.lt2 {n : Nat} {e : Rel} (g : Gr n e) {u v : Nat} (h : e u v = true) : v < n := g.lt v u (by rw [g.sym]; exact h)
/-- the neighbours of a place, ascending -/
def nb (n : Nat) (e : Rel) (u : Nat) : List Nat := (List.range n).filter (e u)
theorem mem_nb {n : Nat} {e : Rel} {u v : Nat} : v ∈ nb n e u ↔ v < n ∧ e u v = true := by
  unfold nb
  rw [List.mem_filter, List.mem_range]
theorem nb_pw (n : Nat) (e : Rel) (u : Nat) : (nb n e u).Pairwise (· < ·) := List.Pairwise.filter _ List.pairwise_lt_range
theorem nodup_of_lt {l : List Nat} (h : l.Pairwise (· < ·)) : l.Nodup := h.imp fun h => Nat.ne_of_lt h
theorem nb_len (n : Nat) (e : Rel) (u : Nat) : (nb n e u).length ≤ n := by
  have h := List.length_filter_le (e u) (List.range n)
  rw [List.length_range] at h
  exact h
/-- two ascending lists of the same numbers are one -/
theorem asc_eq {l m : List Nat} (hl : l.Pairwise (· < ·)) (hm : m.Pairwise (· < ·)) (h : ∀ x, x ∈ l ↔ x ∈ m) : l = m := by
  have p : l.Perm m := (List.perm_ext_iff_of_nodup (nodup_of_lt hl) (nodup_of_lt hm)).mpr h
  exact List.Perm.eq_of_pairwise (fun a b _ _ h1 h2 => absurd (Nat.lt_trans h1 h2) (Nat.lt_irrefl _)) hl hm p
abbrev Tie := Nat × Nat
/-- the relation of a list of ties -/
def eOf (ps : List Tie) : Rel := fun u v => ps.contains (u, v) || ps.contains (v, u)
theorem eOf_iff {ps : List Tie} {u v : Nat} : eOf ps u v = true ↔ (u, v) ∈ ps ∨ (v, u) ∈ ps := by
  unfold eOf
  rw [Bool.or_eq_true, List.contains_iff_mem, List.contains_iff_mem]
/-- ties of a web of n places -/
structure TOk (n : Nat) (ps : List Tie) : Prop where
  nd : ps.Nodup
  ok : ∀ p ∈ ps, p.1 < p.2 ∧ p.2 < n
theorem TOk.gr {n : Nat} {ps : List Tie} (t : TOk n ps) : Gr n (eOf ps) where
  sym := fun u v => by unfold eOf; rw [Bool.or_comm]
  irr := fun u => by
    cases h : eOf ps u u
    · rfl
    · rcases eOf_iff.mp h with h | h <;> exact absurd (t.ok _ h).1 (Nat.lt_irrefl _)
  lt := fun u v h => by
    rcases eOf_iff.mp h with h | h
    · have := t.ok _ h
      exact Nat.lt_trans this.1 this.2
    · exact (t.ok _ h).2
theorem TOk.perm {n : Nat} {ps qs : List Tie} (t : TOk n ps) (p : qs.Perm ps) : TOk n qs := ⟨p.nodup_iff.mpr t.nd, fun x hx => t.ok x (p.mem_iff.mp hx)⟩
theorem eOf_perm {ps qs : List Tie} (p : qs.Perm ps) : eOf qs = eOf ps := by
  funext u v
  have h : eOf qs u v = true ↔ eOf ps u v = true := by rw [eOf_iff, eOf_iff, p.mem_iff, p.mem_iff]
  cases a : eOf qs u v <;> cases b : eOf ps u v <;> simp_all
/-- the other ends at j, in the order of the ties -/
def ends (j : Nat) (p : Tie) : Option Nat := if p.1 = j then some p.2 else if p.2 = j then some p.1 else none
def nbr (ps : List Tie) (j : Nat) : List Nat := ps.filterMap (ends j)
theorem nbr_snoc (ps : List Tie) (p : Tie) (j : Nat) : nbr (ps ++ [p]) j = nbr ps j ++ (ends j p).toList := by
  unfold nbr
  rw [List.filterMap_append]
  cases h : ends j p <;> simp [List.filterMap_cons, h]
theorem mem_nbr {n : Nat} {ps : List Tie} (t : TOk n ps) {j v : Nat} : v ∈ nbr ps j ↔ eOf ps j v = true := by
  unfold nbr
  rw [List.mem_filterMap, eOf_iff]
  constructor
  · rintro ⟨⟨a, b⟩, h, e⟩
    unfold ends at e
    simp only at e
    split at e
    · rename_i q
      cases e
      subst q
      exact .inl h
    · split at e
      · rename_i q
        cases e
        subst q
        exact .inr h
      · cases e
  · rintro (h | h)
    · exact ⟨_, h, by simp [ends]⟩
    · refine ⟨_, h, ?_⟩
      have := t.ok _ h
      simp only at this
      unfold ends
      simp only
      rw [if_neg (by omega)]
      simp
theorem nbr_nodup {n : Nat} : ∀ {ps : List Tie}, TOk n ps → ∀ j, (nbr ps j).Nodup
  | [], _, _ => List.nodup_nil
  | p :: r, t, j => by
    have t' : TOk n r := ⟨(List.nodup_cons.mp t.nd).2, fun x hx => t.ok x (List.mem_cons_of_mem _ hx)⟩
    have ih := nbr_nodup t' j
    show (List.filterMap (ends j) (p :: r)).Nodup
    rw [List.filterMap_cons]
    cases e : ends j p with
    | none => exact ih
    | some v =>
      refine List.nodup_cons.mpr ⟨fun hm => ?_, ih⟩
      have h1 := (mem_nbr t').mp hm
      have np := (List.nodup_cons.mp t.nd).1
      have op := t.ok p (List.mem_cons_self ..)
      obtain ⟨a, b⟩ := p
      simp only at op
      unfold ends at e
      simp only at e
      split at e
      · rename_i q
        cases e
        subst q
        rcases eOf_iff.mp h1 with h | h
        · exact np h
        · have := t'.ok _ h
          simp only at this
          omega
      · split at e
        · rename_i q
          cases e
          subst q
          rcases eOf_iff.mp h1 with h | h
          · have := t'.ok _ h
            simp only at this
            omega
          · exact np h
        · cases e
/-- in order, these are the neighbours -/
theorem nbr_sorted {n : Nat} {ps : List Tie} (t : TOk n ps) {j : Nat} {l : List Int} (p : l.Perm ((nbr ps j).map fun (v : Nat) => (v : Int))) (s : l.Pairwise (· ≤ ·)) : l = (nb n (eOf ps) j).map fun (v : Nat) => (v : Int) := by
  have q : (nb n (eOf ps) j).Perm (nbr ps j) := by
    refine (List.perm_ext_iff_of_nodup (nodup_of_lt (nb_pw _ _ _)) (nbr_nodup t j)).mpr fun v => ?_
    rw [mem_nb, mem_nbr t]
    exact ⟨fun h => h.2, fun h => ⟨t.gr.lt2 h, h⟩⟩
  refine List.Perm.eq_of_pairwise (le := (· ≤ ·)) (fun a b _ _ h1 h2 => Int.le_antisymm h1 h2) s ?_ (p.trans (q.map _).symm)
  refine List.pairwise_map.mpr ((nb_pw _ _ _).imp fun h => ?_)
  omega
/-- all ties of a web, ascending -/
def tiesOf (n : Nat) (e : Rel) : List Tie := (List.range n).flatMap fun u => ((nb n e u).filter fun v => decide (u < v)).map fun v => (u, v)
theorem mem_tiesOf {n : Nat} {e : Rel} {p : Tie} : p ∈ tiesOf n e ↔ p.1 < n ∧ p.2 < n ∧ p.1 < p.2 ∧ e p.1 p.2 = true := by
  obtain ⟨a, b⟩ := p
  unfold tiesOf
  rw [List.mem_flatMap]
  simp only [List.mem_map, List.mem_filter, mem_nb, List.mem_range, decide_eq_true_eq, Prod.mk.injEq]
  constructor
  · rintro ⟨u, hu, v, ⟨⟨h1, h2⟩, h3⟩, rfl, rfl⟩
    exact ⟨hu, h1, h3, h2⟩
  · rintro ⟨h1, h2, h3, h4⟩
    exact ⟨a, h1, b, ⟨⟨h2, h4⟩, h3⟩, rfl, rfl⟩
def ltT (p q : Tie) : Prop := p.1 < q.1 ∨ p.1 = q.1 ∧ p.2 < q.2
theorem ltT_asymm {p q : Tie} (h : ltT p q) (k : ltT q p) : False := by
  unfold ltT at h k
  omega
theorem tiesOf_pw (n : Nat) (e : Rel) : (tiesOf n e).Pairwise ltT := by
  unfold tiesOf
  rw [List.pairwise_flatMap]
  constructor
  · intro u _
    refine List.pairwise_map.mpr (List.Pairwise.filter _ ((nb_pw n e u).imp fun h => ?_))
    exact .inr ⟨rfl, h⟩
  · refine List.pairwise_lt_range.imp fun h => ?_
    intro x hx y hy
    obtain ⟨v, _, rfl⟩ := List.mem_map.mp hx
    obtain ⟨w, _, rfl⟩ := List.mem_map.mp hy
    exact .inl h
theorem ascT_eq {l m : List Tie} (hl : l.Pairwise ltT) (hm : m.Pairwise ltT) (h : ∀ x, x ∈ l ↔ x ∈ m) : l = m := by
  have nd : ∀ {k : List Tie}, k.Pairwise ltT → k.Nodup := fun hk => hk.imp fun h e => by
    subst e
    exact ltT_asymm h h
  have p : l.Perm m := (List.perm_ext_iff_of_nodup (nd hl) (nd hm)).mpr h
  exact List.Perm.eq_of_pairwise (fun a b _ _ h1 h2 => (ltT_asymm h1 h2).elim) hl hm p
theorem nodupT {k : List Tie} (hk : k.Pairwise ltT) : k.Nodup := hk.imp fun h e => by
  subst e
  exact ltT_asymm h h
/-- the ties in order are all ties of their web -/
theorem ties_eq {n : Nat} {ps : List Tie} (t : TOk n ps) (s : ps.Pairwise ltT) : tiesOf n (eOf ps) = ps := by
  refine ascT_eq (tiesOf_pw _ _) s fun p => ?_
  rw [mem_tiesOf]
  obtain ⟨a, b⟩ := p
  constructor
  · rintro ⟨h1, h2, h3, h4⟩
    rcases eOf_iff.mp h4 with h | h
    · exact h
    · have := t.ok _ h
      simp only at this h3
      omega
  · intro h
    have := t.ok _ h
    simp only at this ⊢
    exact ⟨by omega, by omega, by omega, eOf_iff.mpr (.inl h)⟩
theorem nodup_le {n : Nat} {l : List Nat} (nd : l.Nodup) (h : ∀ x ∈ l, x < n) : l.length ≤ n := by
  have s := nd.length_le_of_subset (l₂ := List.range n) fun x hx => List.mem_range.mpr (h x hx)
  rw [List.length_range] at s
  exact s
/-! ### a web in the heap -/
def nv (l : List Nat) : List V := l.map fun (v : Nat) => V.int (v : Int)
theorem nv_len (l : List Nat) : (nv l).length = l.length := by unfold nv; rw [List.length_map]
theorem nv_app (l m : List Nat) : nv (l ++ m) = nv l ++ nv m := by unfold nv; rw [List.map_append]
theorem nv_flat (l : List Nat) : (nv l).all flatV = true := by
  unfold nv
  rw [List.all_map, List.all_eq_true]
  exact fun _ _ => rfl
theorem nv_ints (l : List Nat) : nv l = (l.map fun (v : Nat) => (v : Int)).map V.int := by
  unfold nv
  rw [List.map_map]
  rfl
theorem nv_at {l : List Nat} {i v : Nat} (h : l[i]? = some v) : (nv l)[i]? = some (.int (v : Int)) := by
  unfold nv
  rw [List.getElem?_map, h]
  rfl
theorem of_nv {l : List Nat} {i : Nat} {x : V} (h : (nv l)[i]? = some x) : ∃ v : Nat, x = .int (v : Int) ∧ l[i]? = some v := by
  unfold nv at h
  rw [List.getElem?_map] at h
  cases e : l[i]? with
  | none => rw [e] at h; cases h
  | some a => rw [e] at h; exact ⟨a, (Option.some.inj h).symm, rfl⟩
theorem refs_at {l : List Addr} {i : Nat} {a : Addr} (h : l[i]? = some a) : (l.map V.ref)[i]? = some (.ref a) := by
  rw [List.getElem?_map, h]
  rfl
theorem of_refs {l : List Addr} {i : Nat} {x : V} (h : (l.map V.ref)[i]? = some x) : ∃ a, x = .ref a ∧ l[i]? = some a := by
  rw [List.getElem?_map] at h
  cases e : l[i]? with
  | none => rw [e] at h; cases h
  | some a => rw [e] at h; exact ⟨a, (Option.some.inj h).symm, rfl⟩
theorem nv_in {v : Nat} {l : List Nat} : inV (.int (v : Int)) (nv l) = decide (v ∈ l) := by
  unfold inV nv
  rw [List.any_map, Bool.eq_iff_iff, List.any_eq_true, decide_eq_true_eq]
  constructor
  · rintro ⟨a, ha, e⟩
    have e2 : (a : Int) = (v : Int) := by simpa [eqV] using e
    have : a = v := by omega
    rw [← this]; exact ha
  · intro h
    exact ⟨v, h, by simp [eqV]⟩
theorem x_inN {K : PySem.W.Frag} {H : Hp} {p : Addr} {v : Nat} {l : List Nat} {Q : VK} (h : H p = some (.lst (nv l))) (k : Q (.bl (decide (v ∈ l))) H) : rIn K false (.int (v : Int)) (.ref p) H Q := by
  refine x_in h rfl (nv_flat l) ?_
  rw [nv_in]
  exact k
theorem x_ninN {K : PySem.W.Frag} {H : Hp} {p : Addr} {v : Nat} {l : List Nat} {Q : VK} (h : H p = some (.lst (nv l))) (k : Q (.bl (!decide (v ∈ l))) H) : rIn K true (.int (v : Int)) (.ref p) H Q := by
  refine x_nin h rfl (nv_flat l) ?_
  rw [nv_in]
  exact k
/-- without u -/
def Hd (u : Addr) (H : Hp) : Hp := fun a => if a = u then none else H a
theorem hd_at {u a : Addr} {H : Hp} {o : HO} (h : H a = some o) (n : a ≠ u) : Hd u H a = some o := by unfold Hd; rw [if_neg n]; exact h
theorem hd_of {u a : Addr} {H : Hp} {o : HO} (h : Hd u H a = some o) : H a = some o ∧ a ≠ u := by
  unfold Hd at h
  split at h
  · cases h
  · rename_i n
    exact ⟨h, n⟩
theorem hd_same {u : Addr} {H : Hp} : Same (Hd u H) H := fun _ _ h => (hd_of h).1
theorem Keep.hd {u : Addr} {H H' : Hp} (k : Keep u H H') : Same (Hd u H) (Hd u H') := fun a o h => hd_at (k a o (hd_of h).1 (hd_of h).2) (hd_of h).2
theorem Same.hd {u : Addr} {H H' : Hp} (k : Same H H') : Same (Hd u H) (Hd u H') := fun a o h => hd_at (k a o (hd_of h).1) (hd_of h).2
/-- what is new, and x -/
def Nw (x : Addr) (H H' : Hp) : Hp := fun a => if a = x ∨ H a = none then H' a else none
theorem nw_at {x a : Addr} {H H' : Hp} {o : HO} (h : H' a = some o) (n : a = x ∨ H a = none) : Nw x H H' a = some o := by unfold Nw; rw [if_pos n]; exact h
theorem nw_of {x a : Addr} {H H' : Hp} {o : HO} (h : Nw x H H' a = some o) : H' a = some o ∧ (a = x ∨ H a = none) := by
  unfold Nw at h
  split at h
  · rename_i n
    exact ⟨h, n⟩
  · cases h
theorem nw_same {x : Addr} {H H' : Hp} : Same (Nw x H H') H' := fun _ _ h => (nw_of h).1
theorem nw_none {x a : Addr} {H H' : Hp} {o : HO} (h : H a = some o) (n : a ≠ x) : Nw x H H' a = none := by
  unfold Nw
  rw [if_neg]
  rintro (e | e)
  · exact n e
  · rw [h] at e; cases e
def fB (d : Addr) : List (Str × V) := putF "beside" (.ref d) []
theorem fB_beside (d : Addr) : (fB d).lookup ("beside" : Str) = some (.ref d) := by
  unfold fB
  rw [lookup_putF, if_pos rfl]
theorem fB_no (d : Addr) {m : Str} (h : ¬ m = "beside") : (fB d).lookup m = none := by
  unfold fB
  rw [lookup_putF, if_neg h]
  all_goals rfl
structure WebAt (C : Addr) (H : Hp) (x : Addr) (n : Nat) (e : Rel) : Prop where
  ex : ∃ (dx d : Addr) (rows : List Addr), H x = some (.ins C dx (fB d)) ∧ H d = some (.lst (rows.map V.ref)) ∧ rows.length = n ∧ ∀ (i : Nat) (a : Addr), rows[i]? = some a → H a = some (.lst (nv (nb n e i)))
theorem WebAt.same {C x : Addr} {H H' : Hp} {n : Nat} {e : Rel} (w : WebAt C H x n e) (k : Same H H') : WebAt C H' x n e := by
  obtain ⟨dx, d, rows, h1, h2, h3, h4⟩ := w.ex
  exact ⟨dx, d, rows, k _ _ h1, k _ _ h2, h3, fun i a h => k _ _ (h4 i a h)⟩
/-- the tuple of a tie -/
def TieV (H : Hp) (v : V) (p : Tie) : Prop := ∃ t, v = .ref t ∧ H t = some (.tup [.int (p.1 : Int), .int (p.2 : Int)])
/-- item by item -/
inductive A2 {α β : Type} (R : α → β → Prop) : List α → List β → Prop where
  | nil : A2 R [] []
  | cons {a : α} {b : β} {as : List α} {bs : List β} : R a b → A2 R as bs → A2 R (a :: as) (b :: bs)
section
variable {α β : Type} {R S : α → β → Prop}
theorem A2.len {as : List α} {bs : List β} (h : A2 R as bs) : as.length = bs.length := by
  induction h with
  | nil => rfl
  | cons _ _ ih => rw [List.length_cons, List.length_cons, ih]
theorem A2.imp {as : List α} {bs : List β} (h : A2 R as bs) (f : ∀ a b, R a b → S a b) : A2 S as bs := by
  induction h with
  | nil => exact .nil
  | cons r _ ih => exact .cons (f _ _ r) ih
theorem A2.get {as : List α} {bs : List β} (h : A2 R as bs) : ∀ {i : Nat} {a : α}, as[i]? = some a → ∃ b, bs[i]? = some b ∧ R a b := by
  induction h with
  | nil => intro i a e; simp at e
  | cons r _ ih =>
    intro i a e
    cases i with
    | zero => cases e; exact ⟨_, rfl, r⟩
    | succ i => exact ih (by simpa using e)
theorem A2.app {as cs : List α} {bs ds : List β} (h : A2 R as bs) (k : A2 R cs ds) : A2 R (as ++ cs) (bs ++ ds) := by
  induction h with
  | nil => exact k
  | cons r _ ih => exact .cons r ih
theorem A2.snoc {as : List α} {bs : List β} {a : α} {b : β} (h : A2 R as bs) (r : R a b) : A2 R (as ++ [a]) (bs ++ [b]) := h.app (.cons r .nil)
theorem A2.perm {as cs : List α} (p : cs.Perm as) : ∀ {bs : List β}, A2 R as bs → ∃ ds, ds.Perm bs ∧ A2 R cs ds := by
  induction p with
  | nil => intro bs h; exact ⟨bs, List.Perm.refl _, h⟩
  | cons x _ ih =>
    intro bs h
    cases h with
    | cons r t =>
      obtain ⟨ds, p, k⟩ := ih t
      exact ⟨_ :: ds, p.cons _, .cons r k⟩
  | swap x y l =>
    intro bs h
    cases h with
    | cons r t =>
      cases t with
      | cons r' t' => exact ⟨_, List.Perm.swap _ _ _, .cons r' (.cons r t')⟩
  | trans _ _ ih1 ih2 =>
    intro bs h
    obtain ⟨ds, p, k⟩ := ih2 h
    obtain ⟨es, q, k'⟩ := ih1 k
    exact ⟨es, q.trans p, k'⟩
end
abbrev TieL (H : Hp) (vs : List V) (ps : List Tie) : Prop := A2 (TieV H) vs ps
theorem TieV.same {H H' : Hp} {v : V} {p : Tie} (k : Same H H') (h : TieV H v p) : TieV H' v p := by
  obtain ⟨t, e, h⟩ := h
  exact ⟨t, e, k _ _ h⟩
theorem TieL.same {H H' : Hp} {vs : List V} {ps : List Tie} (k : Same H H') (h : TieL H vs ps) : TieL H' vs ps := h.imp fun _ _ => TieV.same k
theorem TieV.keep {u : Addr} {H H' : Hp} {us : List V} {v : V} {p : Tie} (k : Keep u H H') (hu : H u = some (.lst us)) (h : TieV H v p) : TieV H' v p := by
  obtain ⟨t, e, h⟩ := h
  exact ⟨t, e, k _ _ h (ne_of h hu (fun z => nomatch z))⟩
theorem TieL.keep {u : Addr} {H H' : Hp} {us : List V} {vs : List V} {ps : List Tie} (k : Keep u H H') (hu : H u = some (.lst us)) (h : TieL H vs ps) : TieL H' vs ps := h.imp fun _ _ => TieV.keep k hu
theorem TieL.upd {u : Addr} {H : Hp} {us vs : List V} {ps : List Tie} {o : HO} (hu : H u = some (.lst us)) (h : TieL H vs ps) : TieL (upd H u o) vs ps := h.keep (keep_self (Keep.refl H)) hu
/-! ### Web(places, ties) -/
/-- the rows that __init__ fills -/
structure Bs (H H1 : Hp) (D : Addr) (rows : List Addr) (f : Nat → List Nat) : Prop where
  sm : Same H H1
  nD : H D = none
  hD : H1 D = some (.lst (rows.map V.ref))
  nd : rows.Nodup
  out : D ∉ rows
  rw : ∀ (i : Nat) (a : Addr), rows[i]? = some a → H a = none ∧ H1 a = some (.lst (nv (f i)))
theorem Bs.push {H H1 : Hp} {D p : Addr} {rows : List Addr} (b : Bs H H1 D rows fun _ => []) (hp : H1 p = none) : Bs H (upd (upd H1 p (.lst [])) D (.lst (rows.map V.ref ++ [V.ref p]))) D (rows ++ [p]) fun _ => [] := by
  have nDp : D ≠ p := ne_of_none b.hD hp
  have np : p ∉ rows := fun h => by
    obtain ⟨i, e⟩ := List.mem_iff_getElem?.mp h
    have := (b.rw i p e).2
    rw [hp] at this
    cases this
  refine ⟨same_mut (b.sm.trans (same_new hp)) b.nD, b.nD, ?_, ?_, ?_, fun i a e => ?_⟩
  · rw [upd_same, List.map_append]
    rfl
  · exact List.nodup_append.mpr ⟨b.nd, by simp, fun x hx y hy => by simp only [List.mem_singleton] at hy; subst hy; exact fun z => np (z ▸ hx)⟩
  · intro h
    rcases List.mem_append.mp h with h | h
    · exact b.out h
    · exact nDp (List.mem_singleton.mp h)
  · by_cases hi : i < rows.length
    · rw [List.getElem?_append_left hi] at e
      have q := b.rw i a e
      have nDa : a ≠ D := fun z => b.out (z ▸ List.mem_of_getElem? e)
      exact ⟨q.1, upd_at nDa (new_at hp q.2)⟩
    · rw [List.getElem?_append_right (by omega)] at e
      have h0 : i - rows.length = 0 := by
        by_cases z : i - rows.length = 0
        · exact z
        · rw [List.getElem?_eq_none (by simp only [List.length_cons, List.length_nil]; omega)] at e
          cases e
      rw [h0] at e
      have ea : p = a := Option.some.inj e
      subst ea
      exact ⟨b.sm.free hp, upd_at nDp.symm upd_same⟩
theorem Bs.app {H H1 : Hp} {D a : Addr} {rows : List Addr} {f g : Nat → List Nat} {i v : Nat} (b : Bs H H1 D rows f) (e : rows[i]? = some a) (hg : g i = f i ++ [v]) (ho : ∀ j, j ≠ i → g j = f j) : Bs H (upd H1 a (.lst (nv (f i) ++ [.int (v : Int)]))) D rows g := by
  have q := b.rw i a e
  have nDa : D ≠ a := fun z => b.out (z ▸ List.mem_of_getElem? e)
  refine ⟨same_mut b.sm q.1, b.nD, upd_at nDa b.hD, b.nd, b.out, fun j c hc => ?_⟩
  by_cases hj : j = i
  · subst hj
    rw [e] at hc
    cases hc
    refine ⟨q.1, ?_⟩
    rw [upd_same, hg, nv_app]
    rfl
  · have q' := b.rw j c hc
    have nca : c ≠ a := fun z => by
      subst z
      exact hj (nd_ix b.nd hc e)
    rw [ho j hj]
    exact ⟨q'.1, upd_at nca q'.2⟩
def spInitW (C : Addr) : Sp := fun vs H Q _ => ∃ (x dx t : Addr) (n : Nat) (vs' : List V) (ps : List Tie), vs = [.ref x, .int (n : Int), .ref t] ∧ H x = some (.ins C dx []) ∧ H t = some (.lst vs') ∧ TieL H vs' ps ∧ TOk n ps ∧ n ≤ 100 ∧ ps.length ≤ 50000 ∧
  ∀ H', Keep x H H' → WebAt C (Nw x H H') x n (eOf ps) → Q .non H'
theorem x_spTie {H : Hp} {Q : VK} {E : XK} {n : Int} {t : Addr} {a b : Int} (h : H t = some (.tup [.int a, .int b])) (q : Q (.bl (decide (0 ≤ a ∧ a < b ∧ b < n))) H) : spTie [.int n, .ref t] H Q E := ⟨n, t, a, b, rfl, h, q⟩
abbrev s_WebD_initD : Stmt := inClass (topS 8) 0
theorem sc_WebD_initD : FnScope ["self", "places", "ties", "beside", "tie", "u", "v", "place", "row"] ["self", "places", "ties"] (defScope s_WebD_initD) := ⟨rfl, rfl, rfl, by decide +kernel, rfl, by decide +kernel, by decide +kernel⟩
section
variable {P : Program} {w : World} {K : PySem.W.Frag} {mg : Str → Option Value} {base : Heap}
theorem m_Web_init {C : Addr} (T : Tx mg) (O_Web : Own K mg "Web" C) (nB : NoAttr K C "beside") (F : MetAt K C "__init__" "Web.__init__" s_WebD_initD ["self", "places", "ties"]) (c_is_integer : Cal P w K mg base CX0 1 "is_integer" (spIsInt K)) (c_is_tie : Cal P w K mg base CX0 2 "is_tie" spTie) :
    Met P w K mg base CX0 3 C "__init__" (spInitW C) := by
  refine F.met sc_WebD_initD (fun vs H Q E h => ?_) (fun f cdv A outer s H vs Q E hr h => ?_)
  · obtain ⟨x, dx, t, n, vs', ps, rfl, _⟩ := h
    rfl
  · obtain ⟨x, dx, t, n, vs', ps, rfl, hx, ht, hT, tok, hn, hl, q⟩ := h
    refine ⟨_, (pss_cons (ps_if (PW.pt (pw_or (pt_not (pt_val (pe_cal c_is_integer hr (by decide) rfl pass0 (pa_cons (pv 1) pa_nil)))) (pw_or1 (pt_cmpR op_lt (pv 1) pe_int (nomark _)))))
        (pss_one ps_never) pss_nil)
      (pss_cons (ps_if (pt_not (pt_val (pe_callB (cl_isi K) (by rfl) T.z_isinstance (by decide +kernel) (pa_cons (pv 2) (pa_cons (pe_bltn (v := .ty "list") (by rfl) T.z_list (by decide +kernel) rfl) pa_nil)))))
        (pss_one ps_never) pss_nil)
      (pss_cons (ps_setLc (i := 3) (own := [("place", 7)]) (g := gName 7) rfl sc_WebD_initD.nd rfl rfl (sw_true rfl rfl rfl (by decide +kernel)) (pi_range1 rfl T.z_range (pa_cons (pv 1) pa_nil)) (blkOk_by (own := [("place", 7)]) (N := ["self", "places", "ties", "beside", "tie", "u", "v", "place", "row"]) (sc := defScope s_WebD_initD) (by decide +kernel)) (fun _ _ _ _ _ => (pg_name (i := 7) sc_WebD_initD.nd rfl (Or.inl rfl))) (fun _ _ _ _ _ => pts_nil) (fun _ _ _ _ _ => (pe_lst pa_nil)))
      (pss_cons (ps_for PassesOwn.never rfl (k_pil K (pv 2)) (pg_name (i := 4) sc_WebD_initD.nd rfl (Or.inl rfl))
        (pss_cons (ps_if (pt_not (pt_val (pe_cal c_is_tie hr (by decide) rfl pass0 (pa_cons (pv 1) (pa_cons (pv 4) pa_nil)))))
        (pss_one ps_never) pss_nil)
      (pss_cons (ps_asg (pv 4) (k_tup (n := 2) K rfl (pgs_cons (pg_name (i := 5) sc_WebD_initD.nd rfl (Or.inl rfl)) (pgs_cons (pg_name (i := 6) sc_WebD_initD.nd rfl (Or.inl rfl)) pgs_nil))))
      (pss_cons (ps_if (pt_cmpR (k_in K) (pv 6) (pe_ix (ix_l K) (pv 3) (pv 5) (fun _ _ => rfl)) (by first | exact nomark _ | rfl))
        (pss_one ps_never) pss_nil)
      (pss_cons (ps_expr (k_bm K PySem.F.plainAttrs_list PySem.F.slot_list_append PySem.F.type_list_append mt_append (pe_ix (ix_l K) (pv 3) (pv 5) (fun _ _ => rfl)) (pa_cons (pv 6) pa_nil)))
      (pss_one (ps_expr (k_bm K PySem.F.plainAttrs_list PySem.F.slot_list_append PySem.F.type_list_append mt_append (pe_ix (ix_l K) (pv 3) (pv 6) (fun _ _ => rfl)) (pa_cons (pv 5) pa_nil)))))))))
      (pss_one (k_sfld K (pv 0) (pe_lc (own := [("row", 8)]) (g := gName 8) rfl sc_WebD_initD.nd (k_pil K (pv 3)) (blkOk_by (own := [("row", 8)]) (N := ["self", "places", "ties", "beside", "tie", "u", "v", "place", "row"]) (sc := defScope s_WebD_initD) (by decide +kernel)) (fun _ _ _ _ _ => (pg_name (i := 8) sc_WebD_initD.nd rfl (Or.inl rfl))) (fun _ _ _ _ _ => pts_nil) (fun _ _ _ _ _ => (pe_callB (cl_sortedI K) (by rfl) T.z_sorted (by decide +kernel) (pa_cons (pv 8) pa_nil)))) rfl)))))), ?_⟩
    walk_at "go"
    refine x_spInt ?_
    walk_at "go"
    intro D hD
    -- beside: a new row for each place
    refine x_lwR (fun i H1 => ∃ rows, rows.length = i ∧ Bs H H1 D rows fun _ => []) ⟨[], rfl, same_new hD, hD, upd_same, List.nodup_nil, by simp, fun i a e => by simp at e⟩ ?_ ?_
    · rintro i H1 hi ⟨rows, rfl, b⟩
      walk_at "go"
      refine x_sz (by decide) fun p hp => ?_
      have nDp : D ≠ p := ne_of_none b.hD hp
      refine ⟨_, upd_at nDp b.hD, sz_lt (by rw [List.length_map]; omega), ?_⟩
      exact ⟨rows ++ [p], by simp, b.push hp⟩
    rintro H1 ⟨rows, hlen, b⟩
    have s1 := b.sm
    walk_at "go"
    -- the ties, one by one
    refine x_fwL (xs := vs') (fun i σ H2 => ∃ y4 y5 y6, σ = [some (.ref x), some (.int (n : Int)), some (.ref t), some (.ref D), y4, y5, y6, none, none] ∧ Bs H H2 D rows (nbr (ps.take i)))
      ⟨none, none, none, rfl, b⟩ ?_ ?_ ?_
    · rintro i σ H2 hi ⟨y4, y5, y6, rfl, b⟩
      exact sq_l (b.sm _ _ ht)
    · rintro i y σ H2 hi ⟨y4, y5, y6, rfl, b⟩
      obtain ⟨p, hp, tp, rfl, htp⟩ := hT.get hi
      have htp2 : H2 tp = some (.tup [.int (p.1 : Int), .int (p.2 : Int)]) := b.sm _ _ htp
      have hok := tok.ok p (List.mem_of_getElem? hp)
      have htk : ps.take (i + 1) = ps.take i ++ [p] := by rw [List.take_add_one, hp]; rfl
      walk_at "go"
      refine x_spTie htp2 ?_
      rw [decide_eq_true (show (0 : Int) ≤ (p.1 : Int) ∧ (p.1 : Int) < (p.2 : Int) ∧ (p.2 : Int) < (n : Int) by omega)]
      have r1 : p.1 < rows.length := by omega
      have r2 : p.2 < rows.length := by omega
      have e1 : rows[p.1]? = some rows[p.1] := List.getElem?_eq_getElem r1
      have e2 : rows[p.2]? = some rows[p.2] := List.getElem?_eq_getElem r2
      have g1 : atI (rows.map V.ref) (p.1 : Int) = some (.ref rows[p.1]) := atI_nat (refs_at e1)
      have g2 : atI (rows.map V.ref) (p.2 : Int) = some (.ref rows[p.2]) := atI_nat (refs_at e2)
      have hD2 := b.hD
      walk_at "go"
      refine x_inN (b.rw _ _ e1).2 ?_
      have tk : TOk n (ps.take i) := ⟨tok.nd.sublist (List.take_sublist _ _), fun z hz => tok.ok z (List.mem_of_mem_take hz)⟩
      have nm : ¬ p.2 ∈ nbr (ps.take i) p.1 := fun h => by
        rcases eOf_iff.mp ((mem_nbr tk).mp h) with h | h
        · have nd := tok.nd
          rw [← List.take_append_drop i ps] at nd
          have hd : p ∈ ps.drop i := by
            refine List.mem_of_getElem? (i := 0) ?_
            rw [List.getElem?_drop]
            exact hp
          exact (List.nodup_append.mp nd).2.2 _ h _ hd rfl
        · have := (tk.ok _ h).1
          simp only at this
          omega
      have q1 := (b.rw _ _ e1).2
      have z1 : (nv (nbr (ps.take i) p.1)).length < 100000 := by
        rw [nv_len]
        have := List.length_filterMap_le (ends p.1) (ps.take i)
        rw [List.length_take] at this
        unfold nbr
        omega
      let f1 : Nat → List Nat := fun j => if j = p.1 then nbr (ps.take i) j ++ [p.2] else nbr (ps.take i) j
      have b1 := b.app (g := f1) (v := p.2) e1 (if_pos rfl) (fun j hj => if_neg hj)
      have hD3 := b1.hD
      have q2 := (b1.rw _ _ e2).2
      have z2 : (nv (f1 p.2)).length < 100000 := by
        rw [nv_len]
        show (if p.2 = p.1 then _ else _ : List Nat).length < _
        rw [if_neg (by omega)]
        have := List.length_filterMap_le (ends p.2) (ps.take i)
        rw [List.length_take] at this
        unfold nbr
        omega
      walk_at "go"
      have b2 := b1.app (g := nbr (ps.take (i + 1))) (v := p.1) e2 (by
        show _ = (if p.2 = p.1 then _ else _ : List Nat) ++ [p.1]
        rw [if_neg (by omega), htk, nbr_snoc]
        unfold ends
        rw [if_neg (by omega), if_pos rfl]
        rfl) (fun j hj => by
        show _ = (if j = p.1 then _ else _ : List Nat)
        rw [htk, nbr_snoc]
        unfold ends
        split
        · rename_i h
          rw [if_pos h.symm]
          rfl
        · rename_i h
          rw [if_neg (fun z => hj z.symm), if_neg (fun z => h z.symm)]
          simp)
      exact ⟨_, _, _, rfl, b2⟩
    · rintro σ H2 ⟨y4, y5, y6, rfl, b⟩
      have hps : ps.take vs'.length = ps := by rw [hT.len, List.take_length]
      rw [hps] at b
      have hD2 := b.hD
      walk_at "go"
      -- the rows, in order
      intro D2 hD2n
      refine x_lwL (xs := rows.map V.ref) (fun i H3 => ∃ outs : List Addr, outs.length = i ∧ Same H2 H3 ∧ H3 D2 = some (.lst (outs.map V.ref)) ∧ ∀ (j : Nat) (a : Addr), outs[j]? = some a → H a = none ∧ a ≠ D2 ∧ H3 a = some (.lst (nv (nb n (eOf ps) j))))
        ⟨[], rfl, same_new hD2n, upd_same, fun j a e => by simp at e⟩ (fun i H3 hi ⟨outs, h1, h2, _⟩ => sq_l (h2 _ _ hD2)) ?_ ?_
      · rintro i y H3 hi ⟨outs, h1, h2, h3, h4⟩
        obtain ⟨a, rfl, ha⟩ := of_refs hi
        have hrow := h2 _ _ (b.rw _ _ ha).2
        walk_at "go"
        rw [nv_ints] at hrow
        refine x_sortedI hrow fun ns' p pm srt hp => ?_
        have e := nbr_sorted tok pm srt
        rw [e, ← nv_ints]
        walk_at "go"
        have npD : D2 ≠ p := ne_of_none h3 hp
        refine ⟨_, upd_at npD h3, sz_lt (by rw [List.length_map]; have := (List.getElem?_eq_some_iff.mp ha).1; omega), ?_⟩
        refine ⟨outs ++ [p], by simp [h1], same_mut (h2.trans (same_new hp)) hD2n, by rw [upd_same, List.map_append]; rfl, fun j c hc => ?_⟩
        by_cases hj : j < outs.length
        · rw [List.getElem?_append_left hj] at hc
          obtain ⟨q1, q2, q3⟩ := h4 j c hc
          exact ⟨q1, q2, upd_at q2 (new_at hp q3)⟩
        · rw [List.getElem?_append_right (by omega)] at hc
          have h0 : j - outs.length = 0 := by
            by_cases z : j - outs.length = 0
            · exact z
            · rw [List.getElem?_eq_none (by simp only [List.length_cons, List.length_nil]; omega)] at hc
              cases hc
          rw [h0] at hc
          cases hc
          have ej : j = i := by omega
          subst ej
          exact ⟨b.sm.free (h2.free hp), npD.symm, upd_at npD.symm upd_same⟩
      · rintro H3 ⟨outs, h1, h2, h3, h4⟩
        walk_at "go"
        have hx3 : H3 x = some (.ins C dx []) := h2 _ _ (b.sm _ _ hx)
        refine x_sfl hx3 O_Web.cl nB (by decide) ?_
        refine q _ ?_ ⟨dx, D2, outs, nw_at upd_same (.inl rfl), nw_at (upd_at (ne_of h3 hx3 (fun z => nomatch z)) h3) (.inr (b.sm.free hD2n)), by rw [h1, List.length_map, hlen]; rfl, fun i a ha => ?_⟩
        · exact keep_self (Same.toKeep (b.sm.trans h2))
        · obtain ⟨q1, q2, q3⟩ := h4 i a ha
          exact nw_at (upd_at (ne_of q3 hx3 (fun z => nomatch z)) q3) (.inr q1)
end
abbrev s_WebD_lenD : Stmt := inClass (topS 8) 1
theorem sc_WebD_lenD : FnScope ["self"] ["self"] (defScope s_WebD_lenD) := ⟨rfl, rfl, rfl, by decide +kernel, rfl, by decide +kernel, by decide +kernel⟩
def spLenW (C : Addr) : Sp := fun vs H Q _ => ∃ (x : Addr) (n : Nat) (e : Rel), vs = [.ref x] ∧ WebAt C H x n e ∧ Q (.int (n : Int)) H
abbrev s_Web_ties : Stmt := inClass (topS 8) 3
theorem sc_Web_ties : FnScope ["self", "u", "v"] ["self"] (defScope s_Web_ties) := ⟨rfl, rfl, rfl, by decide +kernel, rfl, by decide +kernel, by decide +kernel⟩
def spTiesW (C : Addr) : Sp := fun vs H Q _ => ∃ (x : Addr) (n : Nat) (e : Rel), vs = [.ref x] ∧ WebAt C H x n e ∧ n ≤ 100 ∧ ∀ p H' vs', H p = none → Same H H' → H' p = some (.lst vs') → TieL H' vs' (tiesOf n e) → Q (.ref p) H'
theorem x_spLenW {C : Addr} {H : Hp} {Q : VK} {E : XK} {x : Addr} {n : Nat} {e : Rel} (w : WebAt C H x n e) (q : Q (.int (n : Int)) H) : spLenW C [.ref x] H Q E := ⟨x, n, e, rfl, w, q⟩
theorem tiesOf_step {m : Nat} {n : Nat} {e : Rel} : (List.range (m + 1)).flatMap (fun u => ((nb n e u).filter fun v => decide (u < v)).map fun v => ((u, v) : Tie)) =
    (List.range m).flatMap (fun u => ((nb n e u).filter fun v => decide (u < v)).map fun v => ((u, v) : Tie)) ++ ((nb n e m).filter fun v => decide (m < v)).map fun v => ((m, v) : Tie) := by
  rw [List.range_succ, List.flatMap_append, List.flatMap_cons, List.flatMap_nil, List.append_nil]
section
variable {P : Program} {w : World} {K : PySem.W.Frag} {mg : Str → Option Value} {base : Heap}
theorem o_Web_len {C : Addr} (T : Tx mg) (O_Web : Own K mg "Web" C) (nB : NoAttr K C "beside") (F : MetAt K C "__len__" "Web.__len__" s_WebD_lenD ["self"]) : Met P w K mg base CX0 1 C "__len__" (spLenW C) := by
  refine F.met sc_WebD_lenD (fun vs H Q E h => ?_) (fun f cdv A outer s H vs Q E hr h => ?_)
  · obtain ⟨x, n, e, rfl, _⟩ := h
    rfl
  · obtain ⟨x, n, e, rfl, ⟨dx, d, rows, h1, h2, h3, h4⟩, q⟩ := h
    refine ⟨_, (pss_one (ps_ret (pe_callB (cl_len K) (by rfl) T.z_len PySem.boot_len (pa_cons (k_fld K (pv 0) rfl) pa_nil)))), ?_⟩
    have cl := O_Web.cl
    have hb := fB_beside d
    walk_at "go"
    rw [List.length_map, h3]
    exact q
theorem p_Web_ties {C : Addr} (T : Tx mg) (O_Web : Own K mg "Web" C) (nB : NoAttr K C "beside") (F : PrpAt K C "ties" "Web.ties" s_Web_ties) : Prp P w K mg base CX0 1 C "ties" (spTiesW C) := by
  refine F.prp sc_Web_ties (fun vs H Q E h => ?_) (fun f cdv A outer s H vs Q E hr h => ?_)
  · obtain ⟨x, n, e, rfl, _⟩ := h
    rfl
  · obtain ⟨x, n, e, rfl, ⟨dx, d, rows, h1, h2, h3, h4⟩, hn, q⟩ := h
    refine ⟨_, (pss_one (ps_ret (pe_lc2 (own := [("u", 1), ("v", 2)]) (g := gName 1) (g1 := gName 2) (vs1 := [2]) rfl sc_Web_ties.nd (pi_range1 rfl T.z_range (pa_cons (pe_callB (cl_len K) (by rfl) T.z_len PySem.boot_len (pa_cons (k_fld K (pv 0) rfl) pa_nil)) pa_nil)) (blkOk_by (own := [("u", 1), ("v", 2)]) (N := ["self", "u", "v"]) (sc := defScope s_Web_ties) (by decide +kernel)) (by decide) (fun _ _ _ _ _ => (pg_name (i := 1) sc_Web_ties.nd rfl (Or.inl rfl))) (fun _ _ _ _ _ => pts_nil) (fun _ _ _ _ _ => (k_pil K (pe_ix (ix_l K) (k_fld K (pv 0) rfl) (pv 1) (fun _ _ => rfl)))) (fun _ _ _ _ _ => (pg_name (i := 2) sc_Web_ties.nd rfl (Or.inl rfl))) (fun _ _ _ _ _ => pts_one (pt_cmpR op_lt (pv 1) (pv 2) (nomark _))) (fun _ _ _ _ _ => (pe_tup (pa_cons (pv 1) (pa_cons (pv 2) pa_nil))))))), ?_⟩
    have cl := O_Web.cl
    have hb := fB_beside d
    walk_at "go"
    intro D hD
    -- for u in range(n)
    refine x_lw2R0 (fun i H1 => ∃ vs', Same H H1 ∧ H1 D = some (.lst vs') ∧ TieL H1 vs' ((List.range i).flatMap fun u => ((nb n e u).filter fun v => decide (u < v)).map fun v => ((u, v) : Tie)) ∧ vs'.length ≤ i * 100)
      ⟨[], same_new hD, upd_same, .nil, Nat.le_refl _⟩ ?_ ?_
    · rintro i H1 hi ⟨vs', s1, hD1, hT, hz⟩
      rw [List.length_map, h3] at hi
      have hin : i < n := by omega
      have hx1 := s1 _ _ h1
      have hd1 := s1 _ _ h2
      have ei : rows[i]? = some rows[i] := List.getElem?_eq_getElem (by omega)
      have hr1 := s1 _ _ (h4 i _ ei)
      have g1 : atI (rows.map V.ref) (i : Int) = some (.ref rows[i]) := atI_nat (refs_at ei)
      walk_at "go"
      -- for v in self.beside[u] if u < v
      have hnl := nb_len n e i
      refine x_liL (xs := nv (nb n e i)) (fun j H2 => ∃ vs2, Same H H2 ∧ H2 D = some (.lst vs2) ∧ TieL H2 vs2 (((List.range i).flatMap fun u => ((nb n e u).filter fun v => decide (u < v)).map fun v => ((u, v) : Tie)) ++ (((nb n e i).take j).filter fun v => decide (i < v)).map fun v => ((i, v) : Tie)) ∧ vs2.length ≤ i * 100 + j)
        ⟨vs', s1, hD1, by simpa using hT, by omega⟩ (fun j H2 hj ⟨vs2, s2, _⟩ => sq_l (s2 _ _ (h4 i _ ei))) ?_ ?_
      · rintro j y H2 hj ⟨vs2, s2, hD2, hT2, hz2⟩
        obtain ⟨v, rfl, hv⟩ := of_nv hj
        have hjl := (List.getElem?_eq_some_iff.mp hv).1
        have etk : (nb n e i).take (j + 1) = (nb n e i).take j ++ [v] := by rw [List.take_add_one, hv]; rfl
        walk_at "go"
        refine x_ite (fun c => ?_) (fun c => ?_)
        · walk_at "go"
          refine x_sz (by show 2 ≤ 100000; decide) fun p hp => ?_
          have nDp : D ≠ p := ne_of_none hD2 hp
          refine ⟨_, upd_at nDp hD2, sz_lt (by have : i * 100 ≤ 100 * 100 := Nat.mul_le_mul_right 100 (by omega); omega), ?_⟩
          refine ⟨_, same_mut (s2.trans (same_new hp)) hD, upd_same, ?_, by rw [List.length_append]; show vs2.length + 1 ≤ _; omega⟩
          rw [etk, List.filter_append, List.map_append, ← List.append_assoc, List.filter_cons_of_pos (by simp; omega)]
          refine A2.snoc ((hT2.same (same_new hp)).upd (new_at hp hD2)) ⟨p, rfl, upd_at nDp.symm upd_same⟩
        · refine ⟨vs2, s2, hD2, ?_, by omega⟩
          rw [etk, List.filter_append, List.filter_cons_of_neg (by simp; omega), List.filter_nil, List.append_nil]
          exact hT2
      · rintro H2 ⟨vs2, s2, hD2, hT2, hz2⟩
        refine ⟨vs2, s2, hD2, ?_, by rw [nv_len] at hz2; omega⟩
        rw [tiesOf_step]
        rw [nv_len, List.take_length] at hT2
        exact hT2
    · rintro H1 ⟨vs', s1, hD1, hT, hz⟩
      rw [List.length_map, h3] at hT
      exact q D H1 vs' hD s1 hD1 hT
end
/-! ### ties as data -/
def dT (p : Tie) : PyData := .tuple [.int (p.1 : Int), .int (p.2 : Int)]
section
variable {K : PySem.W.Frag} {H : Hp}
theorem dp_tie {v : V} {p : Tie} (h : TieV H v p) : Dp K H v (dT p) := by
  obtain ⟨t, rfl, h⟩ := h
  exact .tup (sq_t h) (.cons (.int _) (.cons (.int _) .nil))
theorem dp_ties {vs : List V} {ps : List Tie} (h : TieL H vs ps) : DpAll K H vs (ps.map dT) := by
  induction h with
  | nil => exact .nil
  | cons r _ ih => exact .cons (dp_tie r) ih
theorem dp_tieL {a : Addr} {vs : List V} {ps : List Tie} (ha : H a = some (.lst vs)) (h : TieL H vs ps) : Dp K H (.ref a) (.list (ps.map dT)) := .lst (sq_l ha) (dp_ties h)
end
theorem eqv_tie (p q : Tie) : PyData.eqv (dT p) (dT q) = decide (p = q) := by
  obtain ⟨a, b⟩ := p
  obtain ⟨c, d⟩ := q
  unfold dT
  simp only [PyData.eqv, PyData.eqvAll, Bool.and_true]
  rw [Bool.eq_iff_iff, Bool.and_eq_true, beq_iff_eq, beq_iff_eq, decide_eq_true_eq, Prod.mk.injEq]
  omega
theorem eqv_ties : ∀ ps qs : List Tie, PyData.eqvAll (ps.map dT) (qs.map dT) = decide (ps = qs)
  | [], [] => rfl
  | [], _ :: _ => rfl
  | _ :: _, [] => rfl
  | p :: ps, q :: qs => by
    show (PyData.eqv (dT p) (dT q) && PyData.eqvAll (ps.map dT) (qs.map dT)) = _
    rw [eqv_tie, eqv_ties ps qs, Bool.eq_iff_iff, Bool.and_eq_true, decide_eq_true_eq, decide_eq_true_eq, decide_eq_true_eq, List.cons.injEq]
theorem eqv_tieL (ps qs : List Tie) : PyData.eqv (.list (ps.map dT)) (.list (qs.map dT)) = decide (ps = qs) := by
  simp only [PyData.eqv]
  exact eqv_ties ps qs
theorem lay_ties : ∀ ps : List Tie, PyData.canLayAll0 (ps.map dT) = true
  | [] => rfl
  | p :: ps => by
    show (PyData.canLay0 (dT p) && PyData.canLayAll0 (ps.map dT)) = true
    rw [lay_ties ps]
    rfl
theorem depth_ties : ∀ ps : List Tie, PyData.depthAll (ps.map dT) ≤ 1
  | [] => by simp [PyData.depthAll]
  | p :: ps => by
    have ih := depth_ties ps
    show max (PyData.depth (dT p)) (PyData.depthAll (ps.map dT)) ≤ 1
    have e : PyData.depth (dT p) = 1 := rfl
    omega
theorem shaped_tie (p : Tie) : SeqAt.shaped (dT p) = true := rfl
theorem shaped_ties (ps : List Tie) : SeqAt.shaped (.list (ps.map dT)) = true := by
  unfold SeqAt.shaped
  rw [Bool.and_eq_true, decide_eq_true_eq]
  refine ⟨?_, ?_⟩
  · show PyData.canLayAll0 (ps.map dT) = true
    exact lay_ties ps
  · show PyData.depthAll (ps.map dT) + 1 ≤ 64
    have := depth_ties ps
    omega
theorem any_tie (p : Tie) (ps : List Tie) : ((ps.map dT).any fun z => PyData.eqv z (dT p)) = decide (p ∈ ps) := by
  rw [List.any_map, Bool.eq_iff_iff, List.any_eq_true, decide_eq_true_eq]
  constructor
  · rintro ⟨q, hq, e⟩
    have e2 : PyData.eqv (dT q) (dT p) = true := e
    rw [eqv_tie, decide_eq_true_eq] at e2
    exact e2 ▸ hq
  · intro h
    exact ⟨p, h, by show PyData.eqv (dT p) (dT p) = true; rw [eqv_tie, decide_eq_true rfl]⟩
section
variable {K : PySem.W.Frag} {H : Hp} {Q : VK}
/-- tie not in ties -/
theorem x_ninT {v : V} {p : Tie} {a : Addr} {vs : List V} {ps : List Tie} (hv : TieV H v p) (ha : H a = some (.lst vs)) (h : TieL H vs ps) (k : Q (.bl (!decide (p ∈ ps))) H) : rNotInD K v (.ref a) H Q := by
  refine ⟨dT p, ps.map dT, dp_tie hv, dp_tieL ha h, shaped_tie p, shaped_ties ps, ?_⟩
  rw [any_tie]
  exact k
theorem x_inT {v : V} {p : Tie} {a : Addr} {vs : List V} {ps : List Tie} (hv : TieV H v p) (ha : H a = some (.lst vs)) (h : TieL H vs ps) (k : Q (.bl (decide (p ∈ ps))) H) : rInD K v (.ref a) H Q := by
  refine ⟨dT p, ps.map dT, dp_tie hv, dp_tieL ha h, shaped_tie p, shaped_ties ps, ?_⟩
  rw [any_tie]
  exact k
/-- two lists of ties -/
theorem x_neT {a b : Addr} {vs ws : List V} {ps qs : List Tie} (ha : H a = some (.lst vs)) (h : TieL H vs ps) (hb : H b = some (.lst ws)) (h' : TieL H ws qs) (k : Q (.bl (!decide (ps = qs))) H) : rNeD K (.ref a) (.ref b) H Q := by
  refine ⟨_, _, dp_tieL ha h, dp_tieL hb h', shaped_ties ps, shaped_ties qs, ?_⟩
  rw [eqv_tieL]
  exact k
theorem x_eqT {a b : Addr} {vs ws : List V} {ps qs : List Tie} (ha : H a = some (.lst vs)) (h : TieL H vs ps) (hb : H b = some (.lst ws)) (h' : TieL H ws qs) (k : Q (.bl (decide (ps = qs))) H) : rEqD K (.ref a) (.ref b) H Q := by
  refine ⟨_, _, dp_tieL ha h, dp_tieL hb h', shaped_ties ps, shaped_ties qs, ?_⟩
  rw [eqv_tieL]
  exact k
/-- sorted(ties), all different -/
def keyT (H : Hp) (x : V) : Int × Int := match x with
  | .ref t => match H t with
    | some (.tup [.int a, .int b]) => (a, b)
    | _ => (0, 0)
  | _ => (0, 0)
theorem keyT_of {v : V} {p : Tie} (h : TieV H v p) : keyT H v = ((p.1 : Int), (p.2 : Int)) := by
  obtain ⟨t, rfl, h⟩ := h
  unfold keyT
  simp only [h]
theorem TieL.sorted {ys : List V} {qs : List Tie} (h : TieL H ys qs) (s : SrtO.Srtd (ltP (keyT H)) ys) (nd : qs.Nodup) : qs.Pairwise ltT := by
  induction h with
  | nil => exact List.Pairwise.nil
  | @cons v p vs ps r t ih =>
    refine List.pairwise_cons.mpr ⟨fun q hq => ?_, ih (List.pairwise_cons.mp s).2 (List.nodup_cons.mp nd).2⟩
    obtain ⟨i, e⟩ := List.mem_iff_getElem?.mp hq
    have hi : i < vs.length := by rw [t.len]; exact (List.getElem?_eq_some_iff.mp e).1
    obtain ⟨q', e', r'⟩ := t.get (List.getElem?_eq_getElem hi)
    rw [e] at e'
    cases e'
    have h1 := (List.pairwise_cons.mp s).1 _ (List.getElem_mem hi)
    have h2 := SrtO.lexB_no.mp h1
    rw [keyT_of r, keyT_of r'] at h2
    simp only at h2
    have h3 : p ≠ q := fun z => (List.nodup_cons.mp nd).1 (z ▸ hq)
    unfold ltT
    obtain ⟨a, b⟩ := p
    obtain ⟨c, d⟩ := q
    simp only at h2 h3 ⊢
    have h4 : ¬ (a = c ∧ b = d) := fun ⟨x, y⟩ => h3 (by rw [x, y])
    omega
theorem x_sortedT {a : Addr} {vs : List V} {ps : List Tie} (ha : H a = some (.lst vs)) (h : TieL H vs ps) (nd : ps.Nodup) (k : ∀ ys qs p, qs.Perm ps → TieL H ys qs → qs.Pairwise ltT → H p = none → Q (.ref p) (upd H p (.lst ys))) : rSortedPO K [.ref a] H Q := by
  refine ⟨a, vs, keyT H, rfl, sq_l ha, fun x hx => ?_, fun ys p s st hp => ?_⟩
  · obtain ⟨i, e⟩ := List.mem_iff_getElem?.mp hx
    obtain ⟨q, _, r⟩ := h.get e
    have e2 := keyT_of r
    obtain ⟨t, rfl, r⟩ := r
    exact ⟨t, rfl, by rw [e2]; exact r⟩
  · obtain ⟨qs, pm, h2⟩ := A2.perm st.perm h
    exact k ys qs p pm h2 (TieL.sorted h2 s (pm.nodup_iff.mpr nd)) hp
end
/-! ### orders of places -/
theorem a2_nv (l : List Nat) : A2 (fun (v : V) (k : Nat) => v = .int (k : Int)) (nv l) l := by
  induction l with
  | nil => exact .nil
  | cons x r ih => exact .cons rfl ih
theorem nv_a2 {vs : List V} {l : List Nat} (h : A2 (fun (v : V) (k : Nat) => v = .int (k : Int)) vs l) : vs = nv l := by
  induction h with
  | nil => rfl
  | cons r _ ih => subst r; rw [ih]; rfl
theorem perm_nv {vs : List V} {l : List Nat} (p : vs.Perm (nv l)) : ∃ m, m.Perm l ∧ vs = nv m := by
  obtain ⟨m, q, h⟩ := A2.perm p (a2_nv l)
  exact ⟨m, q, nv_a2 h⟩
theorem rg_nv (N : Nat) : rgV 0 (N : Int) = nv (List.range N) := by
  unfold rgV nv
  rw [show ((N : Int) - 0).toNat = N by omega]
  refine List.map_congr_left fun i _ => ?_
  rw [Int.zero_add]
/-! ### draws of the second kind: orders, pairs, ties -/
def spOrder : Sp := fun vs H Q _ => ∃ (u : Addr) (m n : Nat), vs = [.ref u, .int (m : Int)] ∧ m ≤ 1000 ∧ UrnZ H u (n + m) ∧ ∀ p H' os, H p = none → Keep u H H' → UrnZ H' u n → H' p = some (.lst (nv os)) → os.Perm (List.range m) → Q (.ref p) H'
abbrev s_l_order : Stmt := topS 14
theorem sc_l_order : FnScope ["jar", "many", "rest", "order", "turn"] ["jar", "many"] (defScope s_l_order) := ⟨rfl, rfl, rfl, by decide +kernel, rfl, by decide +kernel, by decide +kernel⟩
section
variable {P : Program} {w : World} {K : PySem.W.Frag} {mg : Str → Option Value} {base : Heap}
theorem c_l_order (T : Tx mg) (F : DefAt K mg "_law_order" s_l_order ["jar", "many"]) (c_l_draw : Cal P w K mg base CX0 1 "_law_draw" spPick) : Cal P w K mg base CX0 2 "_law_order" spOrder := by
  refine F.cal sc_l_order (fun vs H Q E h => ?_) (fun f cdv A outer s H vs Q E hr h => ?_)
  · obtain ⟨u, m, n, rfl, _⟩ := h
    rfl
  · obtain ⟨u, m, n, rfl, hm, hu, q⟩ := h
    refine ⟨_, (pss_cons (ps_set (i := 2) sc_l_order.nd rfl (Or.inl rfl) (pe_listRg rfl rfl T.z_list (prg_1 rfl T.z_range (pv 1))))
      (pss_cons (ps_set (i := 3) sc_l_order.nd rfl (Or.inl rfl) (pe_lst pa_nil))
      (pss_cons (ps_for PassesOwn.never rfl (pi_range1 rfl T.z_range (pa_cons (pv 1) pa_nil)) (pg_name (i := 4) sc_l_order.nd rfl (Or.inl rfl))
        (pss_one (ps_expr (k_bm K PySem.F.plainAttrs_list PySem.F.slot_list_append PySem.F.type_list_append mt_append (pv 3) (pa_cons (k_bm K PySem.F.plainAttrs_list PySem.F.slot_list_pop PySem.F.type_list_pop mt_popAt (pv 2) (pa_cons (pe_cal c_l_draw hr (by decide) rfl pass0 (pa_cons (pv 0) (pa_cons (pe_callB (cl_len K) (by rfl) T.z_len PySem.boot_len (pa_cons (pv 2) pa_nil)) pa_nil))) pa_nil)) pa_nil)))))
      (pss_one (ps_ret (pv 3)))))), ?_⟩
    walk_at "go"
    intro l hl
    rw [rg_nv]
    walk_at "go"
    refine x_sz (by decide) fun p hp => ?_
    have ul : u ≠ l := hu.ne hl
    have lp : l ≠ p := ne_of_none upd_same hp
    have p0 : H p = none := by
      rw [upd_ne lp.symm] at hp
      exact hp
    have up : u ≠ p := hu.ne p0
    walk_at "go"
    refine x_fwR0 (fun i σ H1 => ∃ y fs ls, σ = [some (.ref u), some (.int (m : Int)), some (.ref l), some (.ref p), y] ∧ i + ls.length = m ∧ Keep u H H1 ∧ UrnZ H1 u (n + ls.length) ∧ H1 l = some (.lst ls) ∧ H1 p = some (.lst fs) ∧ fs.length = i ∧ (fs ++ ls).Perm (nv (List.range m)))
      ⟨none, [], nv (List.range m), rfl, by rw [nv_len, List.length_range]; omega, keep_new (keep_new (Keep.refl H) hl) hp, by rw [nv_len, List.length_range]; exact (hu.upd ul).upd up, upd_at lp upd_same, upd_same, rfl, List.Perm.refl _⟩ ?_ ?_
    · rintro i σ H1 hi ⟨y, fs, ls, rfl, e1, k1, u1, hl1, hp1, e2, pm⟩
      walk_at "go"
      obtain ⟨j, em⟩ : ∃ j, ls.length = j + 1 := ⟨ls.length - 1, by omega⟩
      rw [em, ← Nat.add_assoc] at u1
      refine x_pick (n + j) (by omega) (by omega) u1 fun r H2 r0 r1 k2 u2 => ?_
      have hr : r.toNat < ls.length := by omega
      walk_at "go"
      refine x_popAt (k2.at hl1 ul.symm) (by omega) r0 (List.getElem?_eq_getElem hr) ?_
      walk_at "go"
      refine ⟨_, _, _, rfl, ?_, keep_mut (keep_mut (k1.trans k2) hl) p0, ?_, upd_at lp upd_same, upd_same, ?_, perm_erase pm (List.getElem?_eq_getElem hr)⟩
      · rw [List.length_eraseIdx_of_lt hr]; omega
      · rw [List.length_eraseIdx_of_lt hr, em]
        exact (u2.upd ul).upd up
      · rw [List.length_append, e2]; rfl
    · rintro σ H1 ⟨y, fs, ls, rfl, e1, k1, u1, hl1, hp1, e2, pm⟩
      walk_at "go"
      have e3 : ls = [] := List.eq_nil_of_length_eq_zero (by omega)
      subst e3
      rw [List.append_nil] at pm
      obtain ⟨os, pm2, rfl⟩ := perm_nv pm
      exact q p H1 os p0 k1 u1 hp1 pm2
end
def spBTies : Sp := fun vs H Q _ => ∃ (pr o : Addr) (m : Nat) (vp : List V) (qs : List Tie) (os : List Nat), vs = [.ref pr, .ref o] ∧ H pr = some (.lst vp) ∧ TieL H vp qs ∧ (∀ q ∈ qs, q.1 < m ∧ q.2 < m) ∧ qs.length ≤ 5000 ∧ H o = some (.lst (nv os)) ∧ os.Perm (List.range m) ∧
  ∀ p H' vt ts, H p = none → Same H H' → H' p = some (.lst vt) → TieL H' vt ts → TOk m ts → ts.length ≤ qs.length → Q (.ref p) H'
abbrev s_l_ties : Stmt := topS 15
theorem sc_l_ties : FnScope ["pairs", "order", "ties", "u", "v", "tie"] ["pairs", "order"] (defScope s_l_ties) := ⟨rfl, rfl, rfl, by decide +kernel, rfl, by decide +kernel, by decide +kernel⟩
section
variable {P : Program} {w : World} {K : PySem.W.Frag} {mg : Str → Option Value} {base : Heap}
theorem c_l_ties (T : Tx mg) (F : DefAt K mg "_law_ties" s_l_ties ["pairs", "order"]) : Cal P w K mg base CX0 1 "_law_ties" spBTies := by
  refine F.cal sc_l_ties (fun vs H Q E h => ?_) (fun f cdv A outer s H vs Q E hr h => ?_)
  · obtain ⟨pr, o, m, vp, qs, os, rfl, _⟩ := h
    rfl
  · obtain ⟨pr, o, m, vp, qs, os, rfl, hv, hq, hqo, hql, ho5, pm, q⟩ := h
    have nd : os.Nodup := pm.nodup_iff.mpr List.nodup_range
    have hos : os.length = m := by rw [pm.length_eq, List.length_range]
    refine ⟨_, (pss_cons (ps_set (i := 2) sc_l_ties.nd rfl (Or.inl rfl) (pe_lst pa_nil))
      (pss_cons (ps_for PassesOwn.never rfl (k_pil K (pv 0)) (k_tup (n := 2) K rfl (pgs_cons (pg_name (i := 3) sc_l_ties.nd rfl (Or.inl rfl)) (pgs_cons (pg_name (i := 4) sc_l_ties.nd rfl (Or.inl rfl)) pgs_nil)))
        (pss_cons (ps_set (i := 5) sc_l_ties.nd rfl (Or.inl rfl) (pe_tup (pa_cons (pe_callB (cl_min2 rfl) (by rfl) T.z_min (by decide +kernel) (pa_cons (pe_ix (ix_l K) (pv 1) (pv 3) (fun _ _ => rfl)) (pa_cons (pe_ix (ix_l K) (pv 1) (pv 4) (fun _ _ => rfl)) pa_nil))) (pa_cons (pe_callB (cl_max2 rfl) (by rfl) T.z_max (by decide +kernel) (pa_cons (pe_ix (ix_l K) (pv 1) (pv 3) (fun _ _ => rfl)) (pa_cons (pe_ix (ix_l K) (pv 1) (pv 4) (fun _ _ => rfl)) pa_nil))) pa_nil))))
      (pss_one (ps_if (PW.pt (pw_and (pt_cmpR op_ne (pv 3) (pv 4) (nomark _)) (pw_and1 (pt_cmpR (k_ninD K (hu65 hr)) (pv 5) (pv 2) (by first | exact nomark _ | rfl)))))
        (pss_one (ps_expr (k_bm K PySem.F.plainAttrs_list PySem.F.slot_list_append PySem.F.type_list_append mt_append (pv 2) (pa_cons (pv 5) pa_nil)))) pss_nil))))
      (pss_one (ps_ret (pv 2))))), ?_⟩
    walk_at "go"
    refine x_sz (by decide) fun tl htl => ?_
    walk_at "go"
    refine x_fwL (xs := vp) (fun i σ' H' => ∃ y3 y4 y5 vt ts, σ' = [some (.ref pr), some (.ref o), some (.ref tl), y3, y4, y5] ∧
        Same H H' ∧ H' tl = some (.lst vt) ∧ TieL H' vt ts ∧ TOk m ts ∧ ts.length ≤ i)
      ⟨none, none, none, [], [], rfl, same_new htl, upd_same, .nil, ⟨List.nodup_nil, by simp⟩, Nat.le_refl _⟩ (fun i σ' H' _ ⟨_, _, _, _, _, _, s, _⟩ => sq_l (s _ _ hv)) ?_ ?_
    · rintro i y _ H6 hi ⟨y3, y4, y5, vt, ts, rfl, s6, h6, ht6, ok6, hl6⟩
      obtain ⟨p, hp, tp, rfl, htp⟩ := hq.get hi
      have hpo := hqo p (List.mem_of_getElem? hp)
      have hil := (List.getElem?_eq_some_iff.mp hp).1
      have htp6 := s6 _ _ htp
      have ho6 := s6 _ _ ho5
      have e1 : os[p.1]? = some os[p.1] := List.getElem?_eq_getElem (by omega)
      have e2 : os[p.2]? = some os[p.2] := List.getElem?_eq_getElem (by omega)
      have g1 : atI (nv os) (p.1 : Int) = some (.int (os[p.1] : Int)) := atI_nat (nv_at e1)
      have g2 : atI (nv os) (p.2 : Int) = some (.int (os[p.2] : Int)) := atI_nat (nv_at e2)
      have l1 : os[p.1] < m := List.mem_range.mp (pm.mem_iff.mp (List.getElem_mem _))
      have l2 : os[p.2] < m := List.mem_range.mp (pm.mem_iff.mp (List.getElem_mem _))
      walk_at "go"
      refine x_sz (by show 2 ≤ 100000; decide) fun t ht => ?_
      generalize ha : min os[p.1] os[p.2] = a
      generalize hb : max os[p.1] os[p.2] = b
      have ea : (if (os[p.2] : Int) < (os[p.1] : Int) then (os[p.2] : Int) else (os[p.1] : Int)) = (a : Int) := by
        split <;> omega
      have eb : (if (os[p.2] : Int) > (os[p.1] : Int) then (os[p.2] : Int) else (os[p.1] : Int)) = (b : Int) := by
        split <;> omega
      rw [ea, eb]
      have hvt : TieV (upd H6 t (.tup [.int (a : Int), .int (b : Int)])) (.ref t) (a, b) := ⟨t, rfl, upd_same⟩
      have h7 := new_at (o := .tup [.int (a : Int), .int (b : Int)]) ht h6
      have ht7 := ht6.same (same_new (o := .tup [.int (a : Int), .int (b : Int)]) ht)
      have z7 : vt.length < 100000 := by rw [ht6.len]; omega
      walk_at "go"
      refine x_iten (fun c1 => ?_) (fun c1 => ?_)
      · walk_at "go"
        refine x_ninT hvt h7 ht7 ?_
        walk_at "go"
        refine x_iten (fun c2 => ?_) (fun c2 => ?_)
        · walk_at "go"
          have ne12 : os[p.1] ≠ os[p.2] := fun z => by
            have := (List.getElem_inj nd).mp z
            omega
          refine ⟨_, _, _, _, ts ++ [(a, b)], rfl, same_mut (s6.trans (same_new ht)) htl, upd_same, (ht7.upd h7).snoc (hvt.keep (keep_self (Keep.refl _)) h7), ⟨?_, ?_⟩, by rw [List.length_append]; show ts.length + 1 ≤ _; omega⟩
          · exact List.nodup_append.mpr ⟨ok6.nd, by simp, fun x hx y hy => by rw [List.mem_singleton.mp hy]; exact fun z => c2 (z ▸ hx)⟩
          · intro q hq
            rcases List.mem_append.mp hq with h | h
            · exact ok6.ok q h
            · rw [List.mem_singleton.mp h]
              show a < b ∧ b < m
              omega
        · walk_at "go"
          exact ⟨_, _, _, vt, ts, rfl, s6.trans (same_new ht), h7, ht7, ok6, by omega⟩
      · walk_at "go"
        exact ⟨_, _, _, vt, ts, rfl, s6.trans (same_new ht), h7, ht7, ok6, by omega⟩
    · rintro _ H6 ⟨y3, y4, y5, vt, ts, rfl, s6, h6, ht6, ok6, hl6⟩
      walk_at "go"
      rw [hq.len] at hl6
      exact q tl H6 vt ts htl s6 h6 ht6 ok6 hl6
end
/-- pairs of places -/
def spBPairs : Sp := fun vs H Q _ => ∃ (u : Addr) (m n : Nat), vs = [.ref u, .int (m : Int)] ∧ m ≤ 100 ∧ UrnZ H u (n + 1000) ∧
  ∀ p H' vp qs, H p = none → Keep u H H' → UrnZ H' u n → H' p = some (.lst vp) → TieL H' vp qs → (∀ q ∈ qs, q.1 < m ∧ q.2 < m) → qs.length ≤ 400 → Q (.ref p) H'
/-- the pairs so far, and what stands beside them -/
structure BS (H H' : Hp) (u pr : Addr) (m b z : Nat) : Prop where
  kp : Keep u H H'
  ur : UrnZ H' u b
  np : H pr = none
  ex : ∃ vs qs, H' pr = some (.lst vs) ∧ TieL H' vs qs ∧ (∀ q ∈ qs, q.1 < m ∧ q.2 < m) ∧ qs.length ≤ z
section
variable {H H1 H2 : Hp} {u pr : Addr} {m b c z y : Nat}
theorem BS.pick (w : BS H H1 u pr m b z) (pu : pr ≠ u) (k : Keep u H1 H2) (h : UrnZ H2 u c) : BS H H2 u pr m c z := by
  obtain ⟨vs, qs, h1, h2, h3⟩ := w.ex
  obtain ⟨us, hu⟩ := w.ur.some
  exact ⟨w.kp.trans k, h, w.np, vs, qs, k.at h1 pu, h2.keep k hu, h3⟩
theorem BS.mono (w : BS H H1 u pr m b z) (h1 : c ≤ b) (h2 : z ≤ y) : BS H H1 u pr m c y := by
  obtain ⟨vs, qs, a1, a2, a3, a4⟩ := w.ex
  exact ⟨w.kp, w.ur.mono h1, w.np, vs, qs, a1, a2, a3, Nat.le_trans a4 h2⟩
theorem BS.add {t : Addr} {p : Tie} {vs : List V} {qs : List Tie} (w : BS H H1 u pr m b z) (pu : pr ≠ u) (hv : H1 pr = some (.lst vs)) (hq : TieL H1 vs qs) (ho : ∀ q ∈ qs, q.1 < m ∧ q.2 < m) (hl : qs.length ≤ z) (ht : H1 t = none) (hp : p.1 < m ∧ p.2 < m) :
    BS H (upd (upd H1 t (.tup [.int (p.1 : Int), .int (p.2 : Int)])) pr (.lst (vs ++ [V.ref t]))) u pr m b (z + 1) := by
  have pt : pr ≠ t := ne_of_none hv ht
  refine ⟨keep_mut (keep_new w.kp ht) w.np, (w.ur.upd (w.ur.ne ht)).upd pu.symm, w.np, _, qs ++ [p], upd_same, ((hq.same (same_new ht)).upd (new_at ht hv)).snoc ⟨t, rfl, upd_at pt.symm upd_same⟩, fun q hq => ?_, by rw [List.length_append]; show qs.length + 1 ≤ _; omega⟩
  rcases List.mem_append.mp hq with h | h
  · exact ho q h
  · rw [List.mem_singleton.mp h]
    exact hp
end
abbrev s_l_pairs : Stmt := topS 18
theorem sc_l_pairs : FnScope ["jar", "many", "kind", "pairs", "k", "more", "turn", "u"] ["jar", "many"] (defScope s_l_pairs) := ⟨rfl, rfl, rfl, by decide +kernel, rfl, by decide +kernel, by decide +kernel⟩
section
variable {P : Program} {w : World} {K : PySem.W.Frag} {mg : Str → Option Value} {base : Heap}
theorem c_l_pairs (T : Tx mg) (F : DefAt K mg "_law_pairs" s_l_pairs ["jar", "many"]) (c_l_draw : Cal P w K mg base CX0 1 "_law_draw" spPick) : Cal P w K mg base CX0 2 "_law_pairs" spBPairs := by
  refine F.cal sc_l_pairs (fun vs H Q E h => ?_) (fun f cdv A outer s H vs Q E hr h => ?_)
  · obtain ⟨u, m, n, rfl, _⟩ := h
    rfl
  · obtain ⟨u, m, n, rfl, hm, hu, q⟩ := h
    refine ⟨_, (pss_cons (ps_set (i := 2) sc_l_pairs.nd rfl (Or.inl rfl) (pe_cal c_l_draw hr (by decide) rfl pass0 (pa_cons (pv 0) (pa_cons pe_int pa_nil))))
      (pss_cons (ps_set (i := 3) sc_l_pairs.nd rfl (Or.inl rfl) (pe_lst pa_nil))
      (Evl.pss_cut (ps_if (pt_cmpR op_gt (pv 2) pe_int (nomark _))
        (pss_one (ps_for PassesOwn.never rfl (pi_range2 rfl T.z_range (pa_cons pe_int (pa_cons (pv 1) pa_nil))) (pg_name (i := 4) sc_l_pairs.nd rfl (Or.inl rfl))
        (pss_one (ps_if (pt_cmpR op_gt (pe_cal c_l_draw hr (by decide) rfl pass0 (pa_cons (pv 0) (pa_cons pe_int pa_nil))) pe_int (nomark _))
        (pss_one (ps_expr (k_bm K PySem.F.plainAttrs_list PySem.F.slot_list_append PySem.F.type_list_append mt_append (pv 3) (pa_cons (pe_tup (pa_cons (pv 4) (pa_cons (pe_cal c_l_draw hr (by decide) rfl pass0 (pa_cons (pv 0) (pa_cons (pv 4) pa_nil))) pa_nil))) pa_nil)))) pss_nil)))) pss_nil)
      (pss_cons (ps_set (i := 5) sc_l_pairs.nd rfl (Or.inl rfl) (pe_ix (ix_l K) (pe_lst (pa_cons (pe_cal c_l_draw hr (by decide) rfl pass0 (pa_cons (pv 0) (pa_cons (pe_op op_add (pe_op op_mul pe_int (pv 1)) pe_int) pa_nil))) (pa_cons pe_int (pa_cons (pe_cal c_l_draw hr (by decide) rfl pass0 (pa_cons (pv 0) (pa_cons pe_int pa_nil))) (pa_cons pe_int pa_nil))))) (pv 2) (fun _ _ => rfl)))
      (Evl.pss_cut (ps_if (pt_cmpR op_lt (pv 1) pe_int (nomark _))
        (pss_one (ps_set (i := 5) sc_l_pairs.nd rfl (Or.inl rfl) pe_int)) pss_nil)
      (pss_cons (ps_for PassesOwn.never rfl (pi_range1 rfl T.z_range (pa_cons (pv 5) pa_nil)) (pg_name (i := 6) sc_l_pairs.nd rfl (Or.inl rfl))
        (pss_cons (ps_set (i := 7) sc_l_pairs.nd rfl (Or.inl rfl) (pe_cal c_l_draw hr (by decide) rfl pass0 (pa_cons (pv 0) (pa_cons (pv 1) pa_nil))))
      (pss_one (ps_expr (k_bm K PySem.F.plainAttrs_list PySem.F.slot_list_append PySem.F.type_list_append mt_append (pv 3) (pa_cons (pe_tup (pa_cons (pv 7) (pa_cons (pe_cal c_l_draw hr (by decide) rfl pass0 (pa_cons (pv 0) (pa_cons (pv 1) pa_nil))) pa_nil))) pa_nil))))))
      (pss_one (ps_ret (pv 3))))))))), ?_⟩
    walk_at "go"
    refine x_pick (n + 999) (by omega) (by omega) hu fun kind H1 kd0 kd1 k1 u1 => ?_
    walk_at "go"
    refine x_sz (by decide) fun pr hpr => ?_
    have pu : pr ≠ u := (u1.ne hpr).symm
    have w0 : BS H (upd H1 pr (.lst [])) u pr m (n + 999) 0 := ⟨keep_new k1 hpr, u1.upd pu.symm, k1.free u1 hpr, [], [], upd_same, .nil, by simp, Nat.le_refl _⟩
    walk_at "go"
    refine x_cut (fun σ' H' => ∃ y4, σ' = [some (.ref u), some (.int (m : Int)), some (.int kind), some (.ref pr), y4, none, none, none] ∧ BS H H' u pr m (n + 500) 100) ?_ ?_
    · walk_at "go"
      refine x_ite (fun c => ?_) (fun c => ?_)
      · walk_at "go"
        refine x_fwR (fun i σ' H' => ∃ y4, σ' = [some (.ref u), some (.int (m : Int)), some (.int kind), some (.ref pr), y4, none, none, none] ∧ BS H H' u pr m (n + 500 + (100 - i) * 2) i)
          ⟨none, rfl, w0.mono (by omega) (by omega)⟩ ?_ ?_
        · rintro i _ H5 hi ⟨y4, rfl, w5⟩
          have ev : (1 : Int) + (i : Int) = ((i + 1 : Nat) : Int) := by omega
          rw [ev]
          walk_at "go"
          refine x_pick (n + 500 + (100 - i) * 2 - 1) (by omega) (by omega) (w5.ur.mono (by omega)) fun r H6 r0 r1 k6 u6 => ?_
          have w6 := w5.pick pu k6 u6
          walk_at "go"
          refine x_ite (fun c3 => ?_) (fun c3 => ?_)
          · obtain ⟨vs, qs, hv, hq, hqo, hql⟩ := w6.ex
            walk_at "go"
            refine x_pick (n + 500 + (100 - i) * 2 - 2) (by omega) (by omega) (w6.ur.mono (by omega)) fun r2 H7 r20 r21 k7 u7 => ?_
            have w7 := w6.pick pu k7 u7
            obtain ⟨b, rfl⟩ := Int.eq_ofNat_of_zero_le r20
            obtain ⟨vs, qs, hv, hq, hqo, hql⟩ := w7.ex
            walk_at "go"
            refine x_sz (by show 2 ≤ 100000; decide) fun t ht => ?_
            have hv2 := new_at (o := .tup [.int ((i + 1 : Nat) : Int), .int (b : Int)]) ht hv
            have z9 : vs.length < 100000 := by rw [hq.len]; omega
            walk_at "go"
            exact ⟨_, rfl, (w7.add (p := (i + 1, b)) pu hv hq hqo hql ht ⟨by show i + 1 < m; omega, by show b < m; omega⟩).mono (by omega) (by omega)⟩
          · walk_at "go"
            exact ⟨_, rfl, w6.mono (by omega) (by omega)⟩
        · rintro _ H5 ⟨y4, rfl, w5⟩
          exact ⟨y4, rfl, w5.mono (by omega) (by omega)⟩
      · walk_at "go"
        exact ⟨none, rfl, w0.mono (by omega) (by omega)⟩
    clear w0 hpr
    rintro _ H5 ⟨y4, rfl, w5⟩
    have hu5 := w5.ur
    walk_at "go"
    refine x_pick (n + 499) (by omega) (by omega) hu5 fun r1 H6 r10 r11 k6 u6 => ?_
    have w6 := w5.pick pu k6 u6
    walk_at "go"
    refine x_pick (n + 498) (by omega) (by omega) u6 fun r2 H7 r20 r21 k7 u7 => ?_
    have w7 := w6.pick pu k7 u7
    walk_at "go"
    refine x_sz (by show 4 ≤ 100000; decide) fun l hl => ?_
    obtain ⟨mo, ea, mo1⟩ : ∃ mo : Nat, atI [V.int r1, V.int 0, V.int r2, V.int 1] kind = some (.int (mo : Int)) ∧ mo ≤ 201 := by
      have h4 : kind = 0 ∨ kind = 1 ∨ kind = 2 ∨ kind = 3 := by omega
      rcases h4 with e | e | e | e <;> rw [e]
      · exact ⟨r1.toNat, by rw [Int.toNat_of_nonneg r10]; rfl, by omega⟩
      · exact ⟨0, rfl, by omega⟩
      · exact ⟨r2.toNat, by rw [Int.toNat_of_nonneg r20]; rfl, by omega⟩
      · exact ⟨1, rfl, by omega⟩
    have w8 : BS H (upd H7 l (.lst [V.int r1, V.int 0, V.int r2, V.int 1])) u pr m (n + 498) 100 := by
      obtain ⟨vs, qs, hv, hq, hqo, hql⟩ := w7.ex
      exact ⟨keep_new w7.kp hl, w7.ur.upd (w7.ur.ne hl), w7.np, vs, qs, new_at hl hv, hq.same (same_new hl), hqo, hql⟩
    walk_at "go"
    refine x_cut (fun σ' H' => ∃ mo : Nat, σ' = [some (.ref u), some (.int (m : Int)), some (.int kind), some (.ref pr), y4, some (.int (mo : Int)), none, none] ∧ BS H H' u pr m (n + 498) 100 ∧ mo ≤ 201 ∧ (m < 2 → mo = 0)) ?_ ?_
    · walk_at "go"
      refine x_ite (fun c => ?_) (fun c => ?_)
      · walk_at "go"
        exact ⟨0, rfl, w8, by omega, fun _ => rfl⟩
      · walk_at "go"
        exact ⟨mo, rfl, w8, mo1, fun h => absurd h (by omega)⟩
    clear ea mo1 w8 w7 w6 w5
    rintro _ H8 ⟨mo, rfl, w8, hmo, hm2⟩
    walk_at "go"
    refine x_fwR0 (fun i σ' H' => ∃ y6 y7, σ' = [some (.ref u), some (.int (m : Int)), some (.int kind), some (.ref pr), y4, some (.int (mo : Int)), y6, y7] ∧ BS H H' u pr m (n + 498 - 2 * i) (100 + i))
      ⟨none, none, rfl, w8.mono (by omega) (by omega)⟩ ?_ ?_
    · rintro i _ H9 hi ⟨y6, y7, rfl, w9⟩
      have mp : 2 ≤ m := by
        by_cases c : m < 2
        · have := hm2 c
          omega
        · omega
      walk_at "go"
      refine x_pick (n + 498 - 2 * i - 1) (by omega) (by omega) (w9.ur.mono (by omega)) fun a Ha a0 a1 ka ua => ?_
      have wa := w9.pick pu ka ua
      obtain ⟨a, rfl⟩ := Int.eq_ofNat_of_zero_le a0
      obtain ⟨vs, qs, hv, hq, hqo, hql⟩ := wa.ex
      walk_at "go"
      refine x_pick (n + 498 - 2 * i - 2) (by omega) (by omega) (wa.ur.mono (by omega)) fun b Hb b0 b1 kb ub => ?_
      have wb := wa.pick pu kb ub
      obtain ⟨b, rfl⟩ := Int.eq_ofNat_of_zero_le b0
      obtain ⟨vs, qs, hv, hq, hqo, hql⟩ := wb.ex
      walk_at "go"
      refine x_sz (by show 2 ≤ 100000; decide) fun t ht => ?_
      have hv2 := new_at (o := .tup [.int (a : Int), .int (b : Int)]) ht hv
      have z9 : vs.length < 100000 := by rw [hq.len]; omega
      walk_at "go"
      exact ⟨_, _, rfl, (wb.add (p := (a, b)) pu hv hq hqo hql ht ⟨by show a < m; omega, by show b < m; omega⟩).mono (by omega) (by omega)⟩
    · rintro _ H9 ⟨y6, y7, rfl, w9⟩
      obtain ⟨vs, qs, hv, hq, hqo, hql⟩ := w9.ex
      walk_at "go"
      exact q pr H9 vs qs w9.np w9.kp (w9.ur.mono (by omega)) hv hq hqo (by omega)
end
/-! ### more steps -/
theorem k_revL {X : Cx} (K : PySem.W.Frag) {e : Expr} {te : TE} {k : Nat} {p1 p2 p3 pos : Pos} (he : PE X e te) (hK : X.K = K := by rfl) : PE X (.Subscript e (.Slice none none (some (.UnaryOp .USub (.Constant (.int 1) k p1) p2)) p3) pos) (tRevL K te) := by subst hK; exact pe_revL he
section
variable {X : Cx} {CX : CXT} {k j : Nat} {C : Addr} {m : Str} {sp : Sp} {E : XK} {o e : Expr} {es : List Expr} {ta : TE} {t : TA} {pos apos : Pos}
theorem pe_mth {x : Str} {pl : Sem Bool} (c : Met X.prog X.w X.K X.mg X.base CX k C m sp) (O : Own X.K X.mg x C) (hr : Room j X.A) (hk : k ≤ j) (hx : Passes CX X E) (he : PE X o ta) (ha : PA X (e :: es) t)
    (hst : starEach (e :: es) X.env = (false, eval e X.env) :: starEach es X.env := by rfl) (hpl : (backTo pos (starEach es X.env)).any (·.1) = false := by rfl)
    (ht : eval (.Call (.Attribute o m apos) (e :: es) [] pos) X.env = (do
      let ov ← eval o X.env
      standAt apos.atName
      let (f, first) ← holding [ov] (getMethod ov m pl)
      callWith pos f first (backTo pos (starEach (e :: es) X.env)) (backToKw pos (keywordEach [] X.env))) := by rfl) :
    PE X (.Call (.Attribute o m apos) (e :: es) [] pos) (tMeth C m sp [] E ta t) := by
  obtain ⟨f, fd, ps, F, m1, m2, m3, b⟩ := c.ex
  exact pe_meth (pl := pl) he O.cl ⟨m1, m2, m3⟩ F (hr.mono hk) b .nil hx ha hst hpl ht
theorem pe_mth0 {x : Str} {pl : Sem Bool} (c : Met X.prog X.w X.K X.mg X.base CX k C m sp) (O : Own X.K X.mg x C) (hr : Room j X.A) (hk : k ≤ j) (hx : Passes CX X E) (he : PE X o ta)
    (ht : eval (.Call (.Attribute o m apos) [] [] pos) X.env = (do
      let ov ← eval o X.env
      standAt apos.atName
      let (f, first) ← holding [ov] (getMethod ov m pl)
      callWith pos f first (backTo pos (starEach [] X.env)) (backToKw pos (keywordEach [] X.env))) := by rfl) :
    PE X (.Call (.Attribute o m apos) [] [] pos) (tMeth C m sp [] E ta tNil) := by
  obtain ⟨f, fd, ps, F, m1, m2, m3, b⟩ := c.ex
  exact pe_meth0 (pl := pl) he O.cl ⟨m1, m2, m3⟩ F (hr.mono hk) b .nil hx ht
end
section
variable {H : Hp} {σ : St} {Q : VK} {l b : Addr} {xs zs : List V}
theorem x_clear (s : H l = some (.lst xs)) (h : Q .non (upd H l (.lst []))) : rClear (.ref l) [] H Q := ⟨l, xs, rfl, rfl, s, h⟩
theorem x_cat (s : H l = some (.lst xs)) (s2 : H b = some (.lst zs)) (z : xs.length + zs.length ≤ 100000) (h : ∀ p, H p = none → Q (.ref p) (upd H p (.lst (xs ++ zs)))) : rCat (.ref l) (.ref b) H Q :=
  ⟨l, b, xs, zs, rfl, rfl, s, s2, Nat.le_trans z (by decide), h⟩
theorem x_revT {K : PySem.W.Frag} {te : TE} (h : te σ H fun x H1 => ∃ a xs, x = .ref a ∧ SqL K H1 a xs ∧ ∀ p, H1 p = none → Q (.ref p) (upd H1 p (.lst xs.reverse))) : tRevL K te σ H Q := h
end
section
variable {σ : St} {H : Hp} {Q : VK}
theorem x_chain {r r' : R2} {ta tb tc : TE} (h : ta σ H fun x H1 => tb σ H1 fun y H2 => r x y H2 fun z H3 => ∃ k, z = .bl k ∧ (if k = true then tc σ H3 fun w' H4 => r' y w' H4 Q else Q (.bl false) H3)) : tChain r r' ta tb tc σ H Q := h
theorem x_sl {r : V → Option Int → Option Int → Hp → VK → Prop} {te : TE} {tl th : TO} (h : te σ H fun x H1 => tl σ H1 fun l H2 => th σ H2 fun u H3 => r x l u H3 Q) : tSl r te tl th σ H Q := h
theorem x_part {t : TE} {R : Option Int → Hp → Prop} (h : t σ H fun x H1 => ∃ i, x = .int i ∧ R (some i) H1) : tPart t σ H R := h
end
section
variable {K : PySem.W.Frag} {σ : St} {H : Hp} {Q : VK}
theorem x_noPart {R : Option Int → Hp → Prop} (h : R none H) : tNoPart σ H R := h
/-- the first k items -/
theorem x_slTake {a : Addr} {xs : List V} {k : Nat} (s : H a = some (.lst xs)) (hk : k ≤ xs.length) (h : ∀ p, H p = none → Q (.ref p) (upd H p (.lst (xs.take k)))) : rSlL K (.ref a) none (some (k : Int)) H Q := by
  refine ⟨a, xs, rfl, sq_l s, fun p hp => ?_⟩
  have e : cutV xs none (some (k : Int)) = xs.take k := by
    have h0 : HT.sIx xs.length 0 none = 0 := rfl
    unfold cutV
    rw [h0, HT.sIx_nat, List.drop_zero, Nat.min_eq_left hk, Nat.sub_zero]
  rw [e]
  exact h p hp
theorem x_slN {a : Addr} {l : List Nat} {k : Nat} (s : H a = some (.lst (nv l))) (hk : k ≤ l.length) (h : ∀ p, H p = none → Q (.ref p) (upd H p (.lst (nv (l.take k))))) : rSlL K (.ref a) none (some (k : Int)) H Q := by
  refine x_slTake s (by rw [nv_len]; exact hk) fun p hp => ?_
  have e : (nv l).take k = nv (l.take k) := by
    unfold nv
    rw [List.map_take]
  rw [e]
  exact h p hp
end
/-! ### lists of lists of places -/
def RowV (H : Hp) (v : V) (r : List Nat) : Prop := ∃ a, v = .ref a ∧ H a = some (.lst (nv r))
abbrev RowL (H : Hp) (vs : List V) (rss : List (List Nat)) : Prop := A2 (RowV H) vs rss
theorem RowV.same {H H' : Hp} {v : V} {r : List Nat} (k : Same H H') (h : RowV H v r) : RowV H' v r := by
  obtain ⟨a, e, h⟩ := h
  exact ⟨a, e, k _ _ h⟩
theorem RowL.same {H H' : Hp} {vs : List V} {rss : List (List Nat)} (k : Same H H') (h : RowL H vs rss) : RowL H' vs rss := h.imp fun _ _ => RowV.same k
/-- rows that are new behind H, each one of its own, in a list at D -/
structure LL (H H1 : Hp) (D : Addr) (rows : List Addr) (rss : List (List Nat)) : Prop where
  sm : Same H H1
  nD : H D = none
  hD : H1 D = some (.lst (rows.map V.ref))
  nd : rows.Nodup
  out : D ∉ rows
  len : rows.length = rss.length
  rw : ∀ (i : Nat) (a : Addr) (r : List Nat), rows[i]? = some a → rss[i]? = some r → H a = none ∧ H1 a = some (.lst (nv r))
section
variable {H H1 H2 : Hp} {D p a : Addr} {rows : List Addr} {rss : List (List Nat)} {l r : List Nat} {i : Nat}
theorem LL.nil (hD : H D = none) : LL H (upd H D (.lst [])) D [] [] := ⟨same_new hD, hD, upd_same, List.nodup_nil, by simp, rfl, fun i a r e => by simp at e⟩
theorem LL.same (b : LL H H1 D rows rss) (s : Same H1 H2) : LL H H2 D rows rss := ⟨b.sm.trans s, b.nD, s _ _ b.hD, b.nd, b.out, b.len, fun i a r h1 h2 => ⟨(b.rw i a r h1 h2).1, s _ _ (b.rw i a r h1 h2).2⟩⟩
theorem LL.get (b : LL H H1 D rows rss) (h : rows[i]? = some a) : ∃ r, rss[i]? = some r ∧ H a = none ∧ H1 a = some (.lst (nv r)) := by
  have hi : i < rss.length := by rw [← b.len]; exact (List.getElem?_eq_some_iff.mp h).1
  exact ⟨_, List.getElem?_eq_getElem hi, b.rw i a _ h (List.getElem?_eq_getElem hi)⟩
theorem LL.mem (b : LL H H1 D rows rss) (h : a ∈ rows) : H a = none ∧ ∃ r, H1 a = some (.lst (nv r)) := by
  obtain ⟨i, e⟩ := List.mem_iff_getElem?.mp h
  obtain ⟨r, _, q1, q2⟩ := b.get e
  exact ⟨q1, r, q2⟩
/-- a new row, put at the end -/
theorem LL.push (b : LL H H1 D rows rss) (h0 : H p = none) (hp : p ≠ D) (np : p ∉ rows) (h1 : H1 p = some (.lst (nv l))) : LL H (upd H1 D (.lst (rows.map V.ref ++ [V.ref p]))) D (rows ++ [p]) (rss ++ [l]) := by
  refine ⟨same_mut b.sm b.nD, b.nD, ?_, ?_, ?_, by rw [List.length_append, List.length_append, b.len]; rfl, fun i a r e e2 => ?_⟩
  · rw [upd_same, List.map_append]
    rfl
  · exact List.nodup_append.mpr ⟨b.nd, by simp, fun x hx y hy => by rw [List.mem_singleton.mp hy]; exact fun z => np (z ▸ hx)⟩
  · intro h
    rcases List.mem_append.mp h with h | h
    · exact b.out h
    · exact hp (List.mem_singleton.mp h).symm
  · by_cases hi : i < rows.length
    · rw [List.getElem?_append_left hi] at e
      rw [List.getElem?_append_left (by rw [← b.len]; exact hi)] at e2
      have q := b.rw i a r e e2
      have nDa : a ≠ D := fun z => b.out (z ▸ List.mem_of_getElem? e)
      exact ⟨q.1, upd_at nDa q.2⟩
    · rw [List.getElem?_append_right (by omega)] at e
      rw [List.getElem?_append_right (by rw [← b.len]; omega), ← b.len] at e2
      have h0' : i - rows.length = 0 := by
        by_cases z : i - rows.length = 0
        · exact z
        · rw [List.getElem?_eq_none (by simp only [List.length_cons, List.length_nil]; omega)] at e
          cases e
      rw [h0'] at e e2
      cases e
      cases e2
      exact ⟨h0, upd_at hp h1⟩
/-- a row that is made at once -/
theorem LL.new (b : LL H H1 D rows rss) (hp : H1 p = none) : LL H (upd (upd H1 p (.lst (nv l))) D (.lst (rows.map V.ref ++ [V.ref p]))) D (rows ++ [p]) (rss ++ [l]) := by
  have nDp : D ≠ p := ne_of_none b.hD hp
  refine (b.same (same_new hp)).push (b.sm.free hp) nDp.symm (fun h => ?_) upd_same
  obtain ⟨_, r, e⟩ := b.mem h
  rw [hp] at e
  cases e
/-- a row is changed -/
theorem LL.set (b : LL H H1 D rows rss) (e : rows[i]? = some a) : LL H (upd H1 a (.lst (nv l))) D rows (rss.set i l) := by
  obtain ⟨r, er, q1, q2⟩ := b.get e
  have nDa : D ≠ a := fun z => b.out (z ▸ List.mem_of_getElem? e)
  refine ⟨same_mut b.sm q1, b.nD, upd_at nDa b.hD, b.nd, b.out, by rw [List.length_set, b.len], fun j c r' hc hr => ?_⟩
  by_cases hj : j = i
  · subst hj
    rw [e] at hc
    cases hc
    rw [List.getElem?_set_self (by rw [← b.len]; exact (List.getElem?_eq_some_iff.mp e).1)] at hr
    cases hr
    exact ⟨q1, upd_same⟩
  · rw [List.getElem?_set_ne (fun z => hj z.symm)] at hr
    have q' := b.rw j c r' hc hr
    have nca : c ≠ a := fun z => by
      subst z
      exact hj (nd_ix b.nd hc e)
    exact ⟨q'.1, upd_at nca q'.2⟩
theorem LL.mut (b : LL H H1 D rows rss) {o : HO} (hp : H1 p = some o) (h : p ≠ D) (np : p ∉ rows) {x : HO} (h0 : H p = none) : LL H (upd H1 p x) D rows rss :=
  ⟨same_mut b.sm h0, b.nD, upd_at h.symm b.hD, b.nd, b.out, b.len, fun i a r h1 h2 => ⟨(b.rw i a r h1 h2).1, upd_at (fun z => np (z ▸ List.mem_of_getElem? h1)) (b.rw i a r h1 h2).2⟩⟩
theorem a2_of_get {α β : Type} {R : α → β → Prop} : ∀ {as : List α} {bs : List β}, as.length = bs.length → (∀ (i : Nat) (a : α) (b : β), as[i]? = some a → bs[i]? = some b → R a b) → A2 R as bs
  | [], [], _, _ => .nil
  | [], _ :: _, h, _ => by simp at h
  | _ :: _, [], h, _ => by simp at h
  | a :: as, b :: bs, h, f => .cons (f 0 a b rfl rfl) (a2_of_get (by simpa using h) fun i x y h1 h2 => f (i + 1) x y (by simpa using h1) (by simpa using h2))
theorem LL.rowL (b : LL H H1 D rows rss) : RowL H1 (rows.map V.ref) rss := a2_of_get (by rw [List.length_map, b.len]) fun i v r h1 h2 => by
  obtain ⟨a, rfl, ha⟩ := of_refs h1
  exact ⟨a, rfl, (b.rw i a r ha h2).2⟩
end
/-! ### as data -/
def dN (l : List Nat) : PyData := .list (l.map fun (v : Nat) => .int (v : Int))
section
variable {K : PySem.W.Frag} {H : Hp} {Q : VK}
theorem dp_all (l : List Nat) : DpAll K H (nv l) (l.map fun (v : Nat) => .int (v : Int)) := by
  induction l with
  | nil => exact .nil
  | cons x r ih => exact .cons (.int _) ih
theorem dp_nv {a : Addr} {l : List Nat} (h : H a = some (.lst (nv l))) : Dp K H (.ref a) (dN l) := .lst (sq_l h) (dp_all l)
theorem dp_rows {vs : List V} {rss : List (List Nat)} (h : RowL H vs rss) : DpAll K H vs (rss.map dN) := by
  induction h with
  | nil => exact .nil
  | cons r _ ih =>
    obtain ⟨a, rfl, h⟩ := r
    exact .cons (dp_nv h) ih
theorem dp_ll {a : Addr} {vs : List V} {rss : List (List Nat)} (ha : H a = some (.lst vs)) (h : RowL H vs rss) : Dp K H (.ref a) (.list (rss.map dN)) := .lst (sq_l ha) (dp_rows h)
end
theorem eqv_ints : ∀ l m : List Nat, PyData.eqvAll (l.map fun (v : Nat) => .int (v : Int)) (m.map fun (v : Nat) => .int (v : Int)) = decide (l = m)
  | [], [] => rfl
  | [], _ :: _ => rfl
  | _ :: _, [] => rfl
  | x :: l, y :: m => by
    show (PyData.eqv (.int (x : Int)) (.int (y : Int)) && PyData.eqvAll (l.map fun (v : Nat) => .int (v : Int)) (m.map fun (v : Nat) => .int (v : Int))) = _
    rw [eqv_ints l m]
    simp only [PyData.eqv]
    rw [Bool.eq_iff_iff, Bool.and_eq_true, beq_iff_eq, decide_eq_true_eq, decide_eq_true_eq, List.cons.injEq]
    exact ⟨fun ⟨h1, h2⟩ => ⟨by omega, h2⟩, fun ⟨h1, h2⟩ => ⟨by omega, h2⟩⟩
theorem eqv_dN (l m : List Nat) : PyData.eqv (dN l) (dN m) = decide (l = m) := by
  unfold dN
  simp only [PyData.eqv]
  exact eqv_ints l m
theorem eqv_dNs : ∀ l m : List (List Nat), PyData.eqvAll (l.map dN) (m.map dN) = decide (l = m)
  | [], [] => rfl
  | [], _ :: _ => rfl
  | _ :: _, [] => rfl
  | x :: l, y :: m => by
    show (PyData.eqv (dN x) (dN y) && PyData.eqvAll (l.map dN) (m.map dN)) = _
    rw [eqv_dNs l m, eqv_dN, Bool.eq_iff_iff, Bool.and_eq_true, decide_eq_true_eq, decide_eq_true_eq, decide_eq_true_eq, List.cons.injEq]
theorem lay_ints : ∀ l : List Nat, PyData.canLayAll0 (l.map fun (v : Nat) => .int (v : Int)) = true
  | [] => rfl
  | x :: l => by
    show (PyData.canLay0 (.int (x : Int)) && PyData.canLayAll0 (l.map fun (v : Nat) => .int (v : Int))) = true
    rw [lay_ints l]
    rfl
theorem dep_ints : ∀ l : List Nat, PyData.depthAll (l.map fun (v : Nat) => .int (v : Int)) = 0
  | [] => rfl
  | x :: l => by
    show max (PyData.depth (.int (x : Int))) (PyData.depthAll (l.map fun (v : Nat) => .int (v : Int))) = 0
    rw [dep_ints l]
    rfl
theorem dep_dN (l : List Nat) : PyData.depth (dN l) = 1 := by
  show PyData.depthAll (l.map fun (v : Nat) => .int (v : Int)) + 1 = 1
  rw [dep_ints]
theorem shaped_dN (l : List Nat) : SeqAt.shaped (dN l) = true := by
  unfold SeqAt.shaped
  rw [Bool.and_eq_true, decide_eq_true_eq, dep_dN]
  exact ⟨lay_ints l, by decide⟩
theorem lay_dNs : ∀ l : List (List Nat), PyData.canLayAll0 (l.map dN) = true
  | [] => rfl
  | x :: l => by
    show (PyData.canLay0 (dN x) && PyData.canLayAll0 (l.map dN)) = true
    rw [lay_dNs l, show PyData.canLay0 (dN x) = true from lay_ints x]
    rfl
theorem dep_dNs : ∀ l : List (List Nat), PyData.depthAll (l.map dN) ≤ 1
  | [] => by simp [PyData.depthAll]
  | x :: l => by
    have ih := dep_dNs l
    have e := dep_dN x
    show max (PyData.depth (dN x)) (PyData.depthAll (l.map dN)) ≤ 1
    omega
theorem shaped_dNs (l : List (List Nat)) : SeqAt.shaped (.list (l.map dN)) = true := by
  unfold SeqAt.shaped
  rw [Bool.and_eq_true, decide_eq_true_eq]
  refine ⟨lay_dNs l, ?_⟩
  have := dep_dNs l
  show PyData.depthAll (l.map dN) + 1 ≤ 64
  omega
section
variable {K : PySem.W.Frag} {H : Hp} {Q : VK} {a b : Addr}
theorem x_eqN {l m : List Nat} (ha : H a = some (.lst (nv l))) (hb : H b = some (.lst (nv m))) (k : Q (.bl (decide (l = m))) H) : rEqD K (.ref a) (.ref b) H Q := by
  refine ⟨_, _, dp_nv ha, dp_nv hb, shaped_dN l, shaped_dN m, ?_⟩
  rw [eqv_dN]
  exact k
theorem x_neN {l m : List Nat} (ha : H a = some (.lst (nv l))) (hb : H b = some (.lst (nv m))) (k : Q (.bl (!decide (l = m))) H) : rNeD K (.ref a) (.ref b) H Q := by
  refine ⟨_, _, dp_nv ha, dp_nv hb, shaped_dN l, shaped_dN m, ?_⟩
  rw [eqv_dN]
  exact k
theorem x_eqLL {vs ws : List V} {l m : List (List Nat)} (ha : H a = some (.lst vs)) (h : RowL H vs l) (hb : H b = some (.lst ws)) (h' : RowL H ws m) (k : Q (.bl (decide (l = m))) H) : rEqD K (.ref a) (.ref b) H Q := by
  refine ⟨_, _, dp_ll ha h, dp_ll hb h', shaped_dNs l, shaped_dNs m, ?_⟩
  show Q (.bl (PyData.eqv (.list (l.map dN)) (.list (m.map dN)))) H
  simp only [PyData.eqv]
  rw [eqv_dNs]
  exact k
theorem x_neLL {vs ws : List V} {l m : List (List Nat)} (ha : H a = some (.lst vs)) (h : RowL H vs l) (hb : H b = some (.lst ws)) (h' : RowL H ws m) (k : Q (.bl (!decide (l = m))) H) : rNeD K (.ref a) (.ref b) H Q := by
  refine ⟨_, _, dp_ll ha h, dp_ll hb h', shaped_dNs l, shaped_dNs m, ?_⟩
  show Q (.bl (!PyData.eqv (.list (l.map dN)) (.list (m.map dN)))) H
  simp only [PyData.eqv]
  rw [eqv_dNs]
  exact k
theorem x_sortedN {p : Addr} {l : List Nat} (h : H p = some (.lst (nv l))) (nd : l.Nodup) (k : ∀ (m : List Nat) (q : Addr), m.Perm l → m.Pairwise (· < ·) → H q = none → Q (.ref q) (upd H q (.lst (nv m)))) : rSortedI K [.ref p] H Q := by
  rw [nv_ints] at h
  refine x_sortedI h fun ns q pm srt hq => ?_
  obtain ⟨m, pm2, e⟩ := perm_nv (vs := ns.map V.int) (l := l) (by rw [nv_ints]; exact pm.map _)
  rw [e]
  refine k m q pm2 ?_ hq
  have nd2 : m.Nodup := pm2.nodup_iff.mpr nd
  have e2 : ns = m.map fun (v : Nat) => (v : Int) := by
    rw [nv_ints] at e
    exact (List.map_inj_right (fun a b h => V.int.inj h)).mp e
  rw [e2] at srt
  refine ((List.pairwise_map.mp srt).and nd2).imp fun h => ?_
  omega
end
/-! ### places and neighbours -/
def spPlace (K : PySem.W.Frag) (C : Addr) : Sp := fun vs H Q _ => ∃ (x : Addr) (n : Nat) (e : Rel) (v : V), vs = [.ref x, v] ∧ WebAt C H x n e ∧
  ((∃ i : Int, v = .int i ∧ Q (.bl (decide (0 ≤ i ∧ i < (n : Int)))) H) ∨ (∃ Ty, Knd K H v Ty ∧ Ty ≠ "int" ∧ Q (.bl false) H))
/-- of a place of the web -/
def spNbW (C : Addr) : Sp := fun vs H Q _ => ∃ (x : Addr) (n : Nat) (e : Rel) (i : Nat), vs = [.ref x, .int (i : Int)] ∧ WebAt C H x n e ∧ i < n ∧ n ≤ 100 ∧ ∀ p, H p = none → Q (.ref p) (upd H p (.lst (nv (nb n e i))))
theorem x_nbW {C : Addr} {H : Hp} {Q : VK} {E : XK} {x : Addr} {n : Nat} {e : Rel} {i : Nat} (w : WebAt C H x n e) (h : i < n) (hn : n ≤ 100) (q : ∀ p, H p = none → Q (.ref p) (upd H p (.lst (nv (nb n e i))))) : spNbW C [.ref x, .int (i : Int)] H Q E := ⟨x, n, e, i, rfl, w, h, hn, q⟩
abbrev s_Web_is_place : Stmt := inClass (topS 8) 4
theorem sc_Web_is_place : FnScope ["self", "value"] ["self", "value"] (defScope s_Web_is_place) := ⟨rfl, rfl, rfl, by decide +kernel, rfl, by decide +kernel, by decide +kernel⟩
abbrev s_Web_neighbours : Stmt := inClass (topS 8) 5
theorem sc_Web_neighbours : FnScope ["self", "place"] ["self", "place"] (defScope s_Web_neighbours) := ⟨rfl, rfl, rfl, by decide +kernel, rfl, by decide +kernel, by decide +kernel⟩
section
variable {P : Program} {w : World} {K : PySem.W.Frag} {mg : Str → Option Value} {base : Heap}
theorem m_Web_is_place {C : Addr} (T : Tx mg) (O_Web : Own K mg "Web" C) (nB : NoAttr K C "beside") (F : MetAt K C "is_place" "Web.is_place" s_Web_is_place ["self", "value"]) (c_is_integer : Cal P w K mg base CX0 1 "is_integer" (spIsInt K)) :
    Met P w K mg base CX0 2 C "is_place" (spPlace K C) := by
  refine F.met sc_Web_is_place (fun vs H Q E h => ?_) (fun f cdv A outer s H vs Q E hr h => ?_)
  · obtain ⟨x, n, e, v, rfl, _⟩ := h
    rfl
  · obtain ⟨x, n, e, v, rfl, ⟨dx, d, rows, h1, h2, h3, h4⟩, q⟩ := h
    have cl := O_Web.cl
    have hb := fB_beside d
    refine ⟨_, (pss_one (ps_ret (pe_and (pe_cal c_is_integer hr (by decide) rfl pass0 (pa_cons (pv 1) pa_nil)) (pe_and (pe_cmpR op_le pe_int (pv 1) (nomark _)) (pe_one (pe_cmpR op_lt (pv 1) (pe_callB (cl_len K) (by rfl) T.z_len PySem.boot_len (pa_cons (k_fld K (pv 0) rfl) pa_nil)) (nomark _))))))), ?_⟩
    walk_at "go"
    rcases q with ⟨i, rfl, q⟩ | ⟨Ty, kn, ne, q⟩
    · refine ⟨.int i, "int", rfl, knd_int i, ?_⟩
      walk_at "go"
      rw [if_pos (by decide)]
      walk_at "go"
      refine x_ite (fun c => ?_) (fun c => ?_)
      · walk_at "go"
        rw [List.length_map, h3]
        rw [show decide (i < (n : Int)) = decide (0 ≤ i ∧ i < (n : Int)) from by rw [decide_eq_decide]; omega]
        exact q
      · rw [show decide (0 ≤ i ∧ i < (n : Int)) = false from by rw [decide_eq_false_iff_not]; omega] at q
        exact q
    · refine ⟨v, Ty, rfl, kn, ?_⟩
      rw [show (Ty == "int") = false from by simpa using ne]
      walk_at "go"
      exact q
theorem m_Web_neighbours {C : Addr} (T : Tx mg) (O_Web : Own K mg "Web" C) (nB : NoAttr K C "beside") (F : MetAt K C "neighbours" "Web.neighbours" s_Web_neighbours ["self", "place"]) (m_Web_is_place : Met P w K mg base CX0 2 C "is_place" (spPlace K C)) :
    Met P w K mg base CX0 3 C "neighbours" (spNbW C) := by
  refine F.met sc_Web_neighbours (fun vs H Q E h => ?_) (fun f cdv A outer s H vs Q E hr h => ?_)
  · obtain ⟨x, n, e, v, rfl, _⟩ := h
    rfl
  · obtain ⟨x, n, e, i, rfl, w, hi, hn, q⟩ := h
    obtain ⟨dx, d, rows, h1, h2, h3, h4⟩ := id w.ex
    have cl := O_Web.cl
    have hb := fB_beside d
    have ei : rows[i]? = some rows[i] := List.getElem?_eq_getElem (by omega)
    have hr1 := h4 i _ ei
    have g1 : atI (rows.map V.ref) (i : Int) = some (.ref rows[i]) := atI_nat (refs_at ei)
    have zn := nb_len n e i
    refine ⟨_, (pss_cons (ps_if (pt_not (pt_val (pe_mth m_Web_is_place O_Web hr (by decide) pass0 (pv 0) (pa_cons (pv 1) pa_nil))))
        (pss_one ps_never) pss_nil)
      (pss_one (ps_ret (pe_callTy (cl_listOf K) (by rfl) T.z_list (by decide +kernel) (pa_cons (pe_ix (ix_l K) (k_fld K (pv 0) rfl) (pv 1) (fun _ _ => rfl)) pa_nil))))), ?_⟩
    walk_at "go"
    refine ⟨x, _, _, rfl, h1, fB_no d (by decide), ?_⟩
    walk_at "go"
    refine ⟨x, n, e, _, rfl, w, .inl ⟨_, rfl, ?_⟩⟩
    rw [decide_eq_true (show (0 : Int) ≤ (i : Int) ∧ (i : Int) < (n : Int) by omega)]
    walk_at "go"
    refine x_listOf hr1 fun p hp => ?_
    walk_at "go"
    exact q p hp
end
/-! ### the leaves struck, one by one: in plain Lean -/
/-- ties to places that are not struck yet; none at a struck one -/
def cnt (n : Nat) (e : Rel) (S : List Nat) (v : Nat) : Nat := if v ∈ S then 0 else (nb n e v).countP fun w => decide (w ∉ S)
def cnts (n : Nat) (e : Rel) (S : List Nat) : List Nat := (List.range n).map (cnt n e S)
def leaves (n : Nat) (e : Rel) (S : List Nat) : List Nat := (List.range n).filter fun v => cnt n e S v == 1
/-- what is struck next, as long as there is a leaf -/
def strike (n : Nat) (e : Rel) : Nat → List Nat → List Nat
  | 0, S => S
  | k + 1, S => match leaves n e S with
    | [] => S
    | a :: _ => strike n e k (S ++ [a])
def struck (n : Nat) (e : Rel) : List Nat := strike n e n []
def rest (n : Nat) (S : List Nat) : List Nat := (List.range n).filter fun v => decide (v ∉ S)
/-- one less -/
def dec1 (l : List Nat) (v : Nat) : List Nat := l.set v (l.getD v 0 - 1)
theorem cnts_len (n : Nat) (e : Rel) (S : List Nat) : (cnts n e S).length = n := by unfold cnts; rw [List.length_map, List.length_range]
theorem cnts_at {n : Nat} {e : Rel} {S : List Nat} {v : Nat} (h : v < n) : (cnts n e S)[v]? = some (cnt n e S v) := by
  unfold cnts
  rw [List.getElem?_map, List.getElem?_range h]
  rfl
theorem dec1_len (l : List Nat) (v : Nat) : (dec1 l v).length = l.length := by unfold dec1; rw [List.length_set]
theorem dec_len (ns : List Nat) : ∀ l : List Nat, (ns.foldl dec1 l).length = l.length := by
  induction ns with
  | nil => intro l; rfl
  | cons a r ih => intro l; show (r.foldl dec1 (dec1 l a)).length = _; rw [ih, dec1_len]
theorem dec1_getD (l : List Nat) (v w : Nat) : (dec1 l v).getD w 0 = if w = v then l.getD w 0 - 1 else l.getD w 0 := by
  unfold dec1
  simp only [List.getD_eq_getElem?_getD, List.getElem?_set]
  by_cases h : v = w
  · subst h
    rw [if_pos rfl, if_pos rfl]
    split
    · simp
    · rename_i q
      rw [List.getElem?_eq_none (by omega)]
      rfl
  · rw [if_neg h, if_neg (fun z => h z.symm)]
theorem dec_getD (ns : List Nat) (nd : ns.Nodup) : ∀ (l : List Nat) (w : Nat), (ns.foldl dec1 l).getD w 0 = if w ∈ ns then l.getD w 0 - 1 else l.getD w 0 := by
  induction ns with
  | nil => intro l w; simp
  | cons a r ih =>
    intro l w
    obtain ⟨na, nd'⟩ := List.nodup_cons.mp nd
    show (r.foldl dec1 (dec1 l a)).getD w 0 = _
    rw [ih nd', dec1_getD]
    by_cases h : w = a
    · subst h
      rw [if_neg na, if_pos rfl, if_pos (List.mem_cons_self ..)]
    · rw [if_neg h]
      by_cases h2 : w ∈ r
      · rw [if_pos h2, if_pos (List.mem_cons_of_mem _ h2)]
      · rw [if_neg h2, if_neg (by simp [h, h2])]
theorem countP_one {l : List Nat} (nd : l.Nodup) {p q : Nat → Bool} {a : Nat} (ha : a ∈ l) (pa : p a = true) (qa : q a = false) (h : ∀ x, x ≠ a → p x = q x) : l.countP q + 1 = l.countP p := by
  induction l with
  | nil => cases ha
  | cons b r ih =>
    obtain ⟨nb, nd'⟩ := List.nodup_cons.mp nd
    rw [List.countP_cons, List.countP_cons]
    rcases List.mem_cons.mp ha with rfl | ha
    · have e : r.countP q = r.countP p := List.countP_congr fun x hx => by rw [h x (fun z => nb (z ▸ hx))]
      rw [e, pa, qa]
      simp
    · have := ih nd' ha
      have hb := h b (fun z => nb (z ▸ ha))
      rw [hb]
      omega
theorem cnts_step {n : Nat} {e : Rel} (g : Gr n e) {S : List Nat} {a : Nat} (ha : a < n) (hS : a ∉ S) : (nb n e a).foldl dec1 ((cnts n e S).set a 0) = cnts n e (S ++ [a]) := by
  refine List.ext_getElem? fun v => ?_
  by_cases hv : v < n
  · have z : v < ((nb n e a).foldl dec1 ((cnts n e S).set a 0)).length := by rw [dec_len, List.length_set, cnts_len]; exact hv
    have e1 : ((nb n e a).foldl dec1 ((cnts n e S).set a 0))[v]? = some (((nb n e a).foldl dec1 ((cnts n e S).set a 0)).getD v 0) := by
      rw [List.getD_eq_getElem?_getD, List.getElem?_eq_getElem z]
      rfl
    rw [e1, cnts_at hv, dec_getD _ (nodup_of_lt (nb_pw _ _ _))]
    congr 1
    have e2 : ((cnts n e S).set a 0).getD v 0 = if v = a then 0 else cnt n e S v := by
      rw [List.getD_eq_getElem?_getD, List.getElem?_set]
      by_cases h : a = v
      · rw [if_pos h, if_pos h.symm, if_pos (by rw [cnts_len]; exact ha)]
        rfl
      · rw [if_neg h, if_neg (fun z => h z.symm), cnts_at hv]
        rfl
    rw [e2]
    by_cases h : v = a
    · subst h
      rw [if_pos rfl]
      have : cnt n e (S ++ [v]) v = 0 := by unfold cnt; rw [if_pos (by simp)]
      rw [this]
      split <;> rfl
    · rw [if_neg h]
      by_cases hs : v ∈ S
      · have c0 : cnt n e S v = 0 := by unfold cnt; rw [if_pos hs]
        have c1 : cnt n e (S ++ [a]) v = 0 := by unfold cnt; rw [if_pos (List.mem_append_left _ hs)]
        rw [c0, c1]
        split <;> rfl
      · have hs' : v ∉ S ++ [a] := by
          intro q
          rcases List.mem_append.mp q with q | q
          · exact hs q
          · exact h (List.mem_singleton.mp q)
        have c0 : cnt n e S v = (nb n e v).countP fun w => decide (w ∉ S) := by unfold cnt; rw [if_neg hs]
        have c1 : cnt n e (S ++ [a]) v = (nb n e v).countP fun w => decide (w ∉ S ++ [a]) := by unfold cnt; rw [if_neg hs']
        rw [c0, c1]
        by_cases hm : v ∈ nb n e a
        · rw [if_pos hm]
          have am : a ∈ nb n e v := mem_nb.mpr ⟨ha, by rw [g.sym]; exact (mem_nb.mp hm).2⟩
          have := countP_one (nodup_of_lt (nb_pw n e v)) (p := fun w => decide (w ∉ S)) (q := fun w => decide (w ∉ S ++ [a])) am (by simpa using hS) (by simp) (fun x hx => by
            rw [Bool.eq_iff_iff, decide_eq_true_eq, decide_eq_true_eq, List.mem_append, List.mem_singleton]
            exact ⟨fun q r => r.elim q hx, fun q r => q (.inl r)⟩)
          omega
        · rw [if_neg hm]
          refine List.countP_congr fun x hx => ?_
          have xa : x ≠ a := fun z => by
            subst z
            exact hm (mem_nb.mpr ⟨hv, by rw [g.sym]; exact (mem_nb.mp hx).2⟩)
          rw [decide_eq_true_eq, decide_eq_true_eq, List.mem_append, List.mem_singleton]
          exact ⟨fun q r => r.elim q xa, fun q r => q (.inl r)⟩
  · rw [List.getElem?_eq_none (by rw [dec_len, List.length_set, cnts_len]; omega), List.getElem?_eq_none (by rw [cnts_len]; omega)]
/-- a leaf is a place that is not struck -/
theorem leaf_ok {n : Nat} {e : Rel} {S : List Nat} {a : Nat} (h : a ∈ leaves n e S) : a < n ∧ a ∉ S ∧ cnt n e S a = 1 := by
  unfold leaves at h
  rw [List.mem_filter, List.mem_range, beq_iff_eq] at h
  refine ⟨h.1, fun q => ?_, h.2⟩
  have := h.2
  unfold cnt at this
  rw [if_pos q] at this
  cases this
theorem leaf_first {n : Nat} {e : Rel} {S r : List Nat} {a : Nat} (h : leaves n e S = a :: r) : ∀ v, v < a → cnt n e S v ≠ 1 := by
  intro v hv hc
  have ha := (leaf_ok (h ▸ List.mem_cons_self .. : a ∈ leaves n e S)).1
  have hm : v ∈ leaves n e S := by
    unfold leaves
    rw [List.mem_filter, List.mem_range, beq_iff_eq]
    exact ⟨by omega, hc⟩
  have pw : (leaves n e S).Pairwise (· < ·) := List.Pairwise.filter _ List.pairwise_lt_range
  rw [h] at hm pw
  rcases List.mem_cons.mp hm with q | q
  · omega
  · have := (List.pairwise_cons.mp pw).1 v q
    omega
/-- places struck so far: each the first leaf -/
structure Str1 (n : Nat) (e : Rel) (S : List Nat) : Prop where
  nd : S.Nodup
  lt : ∀ v ∈ S, v < n
  st : ∀ (i : Nat) (a : Nat), S[i]? = some a → ∃ r, leaves n e (S.take i) = a :: r
theorem Str1.nil (n : Nat) (e : Rel) : Str1 n e [] := ⟨List.nodup_nil, by simp, fun i a h => by simp at h⟩
theorem Str1.step {n : Nat} {e : Rel} {S r : List Nat} {a : Nat} (s : Str1 n e S) (h : leaves n e S = a :: r) : Str1 n e (S ++ [a]) := by
  obtain ⟨h1, h2, _⟩ := leaf_ok (h ▸ List.mem_cons_self .. : a ∈ leaves n e S)
  refine ⟨List.nodup_append.mpr ⟨s.nd, by simp, fun x hx y hy => by rw [List.mem_singleton.mp hy]; exact fun z => h2 (z ▸ hx)⟩, fun v hv => ?_, fun i b hb => ?_⟩
  · rcases List.mem_append.mp hv with q | q
    · exact s.lt v q
    · rw [List.mem_singleton.mp q]; exact h1
  · by_cases hi : i < S.length
    · rw [List.getElem?_append_left hi] at hb
      rw [List.take_append_of_le_length (by omega)]
      exact s.st i b hb
    · have hl := (List.getElem?_eq_some_iff.mp hb).1
      rw [List.length_append] at hl
      have ei : i = S.length := by
        have : [a].length = 1 := rfl
        omega
      subst ei
      rw [List.getElem?_append_right (Nat.le_refl _), Nat.sub_self] at hb
      cases hb
      rw [List.take_append_of_le_length (Nat.le_refl _), List.take_length]
      exact ⟨r, h⟩
theorem Str1.len {n : Nat} {e : Rel} {S : List Nat} (s : Str1 n e S) : S.length ≤ n := nodup_le s.nd s.lt
/-- the two ways to tell the end agree -/
theorem strike_of {n : Nat} {e : Rel} : ∀ (k : Nat) (S T : List Nat), Str1 n e (S ++ T) → T.length ≤ k → leaves n e (S ++ T) = [] → strike n e k S = S ++ T
  | 0, S, T, _, hk, _ => by
    have : T = [] := List.eq_nil_of_length_eq_zero (by omega)
    subst this
    rw [List.append_nil]
    rfl
  | k + 1, S, [], _, _, h => by
    rw [List.append_nil] at h ⊢
    show (match leaves n e S with | [] => S | a :: _ => strike n e k (S ++ [a])) = S
    rw [h]
  | k + 1, S, a :: T, s, hk, h => by
    obtain ⟨r, hr⟩ := s.st S.length a (by rw [List.getElem?_append_right (Nat.le_refl _), Nat.sub_self]; rfl)
    rw [List.take_append_of_le_length (Nat.le_refl _), List.take_length] at hr
    show (match leaves n e S with | [] => S | a :: _ => strike n e k (S ++ [a])) = S ++ a :: T
    rw [hr]
    have e2 : S ++ a :: T = (S ++ [a]) ++ T := by simp
    rw [e2] at s h ⊢
    exact strike_of k (S ++ [a]) T s (by simpa using hk) h
theorem Str1.done {n : Nat} {e : Rel} {S : List Nat} (s : Str1 n e S) (h : leaves n e S = []) : S = struck n e := by
  have := strike_of n [] S s s.len h
  exact this.symm
theorem strike_ok {n : Nat} {e : Rel} : ∀ (k : Nat) (S : List Nat), Str1 n e S → n ≤ S.length + k → Str1 n e (strike n e k S) ∧ leaves n e (strike n e k S) = []
  | 0, S, s, h => by
    refine ⟨s, ?_⟩
    show leaves n e S = []
    cases q : leaves n e S with
    | nil => rfl
    | cons a r =>
      have := (s.step q).len
      rw [List.length_append] at this
      have z : [a].length = 1 := rfl
      omega
  | k + 1, S, s, h => by
    show Str1 n e (match leaves n e S with | [] => S | a :: _ => strike n e k (S ++ [a])) ∧ leaves n e (match leaves n e S with | [] => S | a :: _ => strike n e k (S ++ [a])) = []
    cases q : leaves n e S with
    | nil => exact ⟨s, q⟩
    | cons a r => exact strike_ok k (S ++ [a]) (s.step q) (by rw [List.length_append]; show n ≤ S.length + 1 + k; omega)
theorem struck_ok (n : Nat) (e : Rel) : Str1 n e (struck n e) ∧ leaves n e (struck n e) = [] := strike_ok n [] (Str1.nil n e) (by show n ≤ 0 + n; omega)
theorem not_one {n : Nat} {e : Rel} {S : List Nat} (h : leaves n e S = []) : 1 ∉ cnts n e S := by
  intro q
  unfold cnts at q
  obtain ⟨v, hv, e1⟩ := List.mem_map.mp q
  have : v ∈ leaves n e S := by
    unfold leaves
    rw [List.mem_filter, beq_iff_eq]
    exact ⟨hv, e1⟩
  rw [h] at this
  cases this
theorem first_one {n : Nat} {e : Rel} {S r : List Nat} {a : Nat} (h : leaves n e S = a :: r) : 1 ∉ (cnts n e S).take a := by
  intro q
  obtain ⟨i, hi⟩ := List.mem_iff_getElem?.mp q
  rw [List.getElem?_take] at hi
  by_cases c : i < a
  · rw [if_pos c] at hi
    have an := (leaf_ok (h ▸ List.mem_cons_self .. : a ∈ leaves n e S)).1
    rw [cnts_at (by omega)] at hi
    exact leaf_first h i c (Option.some.inj hi)
  · rw [if_neg c] at hi
    cases hi
abbrev s_core : Stmt := topS 10
theorem sc_core : FnScope ["web", "counts", "struck", "leaves", "leaf", "other", "place"] ["web"] (defScope s_core) := ⟨rfl, rfl, rfl, by decide +kernel, rfl, by decide +kernel, by decide +kernel⟩
def spCore (C : Addr) : Sp := fun vs H Q _ => ∃ (x : Addr) (n : Nat) (e : Rel), vs = [.ref x] ∧ WebAt C H x n e ∧ Gr n e ∧ n ≤ 100 ∧
  ∀ r s l H', H r = none → H s = none → H l = none → s ≠ l → Same H H' → H' r = some (.tup [.ref s, .ref l]) → H' s = some (.lst (nv (struck n e))) → H' l = some (.lst (nv (rest n (struck n e)))) → Q (.ref r) H'
theorem filter_range_succ' (p : Nat → Bool) (k : Nat) : (List.range (k + 1)).filter p = (List.range k).filter p ++ (if p k = true then [k] else []) := by
  rw [List.range_succ, List.filter_append]
  congr 1
  by_cases h : p k = true
  · rw [List.filter_cons_of_pos h, if_pos h]
    rfl
  · rw [List.filter_cons_of_neg h, if_neg h]
    rfl
theorem nv_snoc' (l : List Nat) (v : Nat) : nv l ++ [V.int (v : Int)] = nv (l ++ [v]) := by
  unfold nv
  rw [List.map_append]
  rfl
theorem nv_set' (l : List Nat) (i v : Nat) : (nv l).set i (.int (v : Int)) = nv (l.set i v) := by
  unfold nv
  rw [List.map_set]
theorem flt_len {n i : Nat} (p : Nat → Bool) (h : i ≤ n) : ((List.range i).filter p).length ≤ n := by
  have := List.length_filter_le p (List.range i)
  rw [List.length_range] at this
  omega
theorem cnts_nil (n : Nat) (e : Rel) (i : Nat) (h : i ≤ n) : (List.range i).map (cnt n e []) = (List.range i).map fun v => (nb n e v).length := by
  refine List.map_congr_left fun v hv => ?_
  unfold cnt
  rw [if_neg (by simp), List.countP_eq_length]
  intro a _
  simp
section
variable {P : Program} {w : World} {K : PySem.W.Frag} {mg : Str → Option Value} {base : Heap}
theorem c_core {C : Addr} (T : Tx mg) (O_Web : Own K mg "Web" C) (F : DefAt K mg "core" s_core ["web"]) (m_Web_neighbours : Met P w K mg base CX0 3 C "neighbours" (spNbW C)) (o_WebD_lenD : Met P w K mg base CX0 1 C "__len__" (spLenW C)) : Cal P w K mg base CX0 4 "core" (spCore C) := by
  refine F.cal sc_core (fun vs H Q E h => ?_) (fun f cdv A outer s H vs Q E hr h => ?_)
  · obtain ⟨x, n, e, rfl, _⟩ := h
    rfl
  · obtain ⟨x, n, e, rfl, w, g, hn, q⟩ := h
    obtain ⟨dx, d, brs, hx, _⟩ := id w.ex
    refine ⟨_, (pss_cons (ps_set (i := 1) sc_core.nd rfl (Or.inr rfl) (pe_lc (own := [("place", 6)]) (g := gName 6) rfl sc_core.nd (pi_range1 rfl T.z_range (pa_cons (pe_callB (call_lenO o_WebD_lenD hr (by decide) pass0) (by rfl) T.z_len PySem.boot_len (pa_cons (pv 0) pa_nil)) pa_nil)) (blkOk_by (own := [("place", 6)]) (N := ["web", "counts", "struck", "leaves", "leaf", "other", "place"]) (sc := defScope s_core) (by decide +kernel)) (fun _ _ _ _ _ => (pg_name (i := 6) sc_core.nd rfl (Or.inl rfl))) (fun _ _ _ _ _ => pts_nil) (fun _ _ _ _ _ => (pe_callB (cl_len K) (by rfl) T.z_len PySem.boot_len (pa_cons (pe_mth m_Web_neighbours O_Web hr (by decide) pass0 (pv 0) (pa_cons (pv 6) pa_nil)) pa_nil)))))
      (pss_cons (ps_set (i := 2) sc_core.nd rfl (Or.inr rfl) (pe_lst pa_nil))
      (pss_cons (ps_setLc (i := 3) (own := [("place", 6)]) (g := gName 6) rfl sc_core.nd rfl rfl (sw_true rfl rfl rfl (by decide +kernel)) (pi_range1 rfl T.z_range (pa_cons (pe_callB (call_lenO o_WebD_lenD hr (by decide) pass0) (by rfl) T.z_len PySem.boot_len (pa_cons (pv 0) pa_nil)) pa_nil)) (blkOk_by (own := [("place", 6)]) (N := ["web", "counts", "struck", "leaves", "leaf", "other", "place"]) (sc := defScope s_core) (by decide +kernel)) (fun _ _ _ _ _ => (pg_name (i := 6) sc_core.nd rfl (Or.inl rfl))) (fun _ _ _ _ _ => pts_one (pt_cmpR op_eq (pe_ix (ix_l K) (pv 1) (pv 6) (fun _ _ => rfl)) pe_int (nomark _))) (fun _ _ _ _ _ => (pv 6)))
      (pss_cons (ps_while PassesOwn.never (pt_cmpR (k_neD K hr.units) (pv 3) (pe_lst pa_nil) (nomark _))
        (pss_cons (ps_set (i := 4) sc_core.nd rfl (Or.inl rfl) (pe_ix (ix_l K) (pv 3) pe_int (fun _ _ => rfl)))
      (pss_cons (ps_expr (k_bm K PySem.F.plainAttrs_list PySem.F.slot_list_append PySem.F.type_list_append mt_append (pv 2) (pa_cons (pv 4) pa_nil)))
      (pss_cons (ps_asg pe_int (pg_sub (pv 1) (pv 4) set_list))
      (pss_cons (ps_for PassesOwn.never rfl (k_pil K (pe_mth m_Web_neighbours O_Web hr (by decide) pass0 (pv 0) (pa_cons (pv 4) pa_nil))) (pg_name (i := 5) sc_core.nd rfl (Or.inl rfl))
        (pss_one (ps_asg (pe_callB (cl_max2 rfl) (by rfl) T.z_max (by decide +kernel) (pa_cons pe_int (pa_cons (pe_op op_sub (pe_ix (ix_l K) (pv 1) (pv 5) (fun _ _ => rfl)) pe_int) pa_nil))) (pg_sub (pv 1) (pv 5) set_list))))
      (pss_one (ps_setLc (i := 3) (own := [("place", 6)]) (g := gName 6) rfl sc_core.nd rfl rfl (sw_true rfl rfl rfl (by decide +kernel)) (pi_range1 rfl T.z_range (pa_cons (pe_callB (call_lenO o_WebD_lenD hr (by decide) pass0) (by rfl) T.z_len PySem.boot_len (pa_cons (pv 0) pa_nil)) pa_nil)) (blkOk_by (own := [("place", 6)]) (N := ["web", "counts", "struck", "leaves", "leaf", "other", "place"]) (sc := defScope s_core) (by decide +kernel)) (fun _ _ _ _ _ => (pg_name (i := 6) sc_core.nd rfl (Or.inl rfl))) (fun _ _ _ _ _ => pts_one (pt_cmpR op_eq (pe_ix (ix_l K) (pv 1) (pv 6) (fun _ _ => rfl)) pe_int (nomark _))) (fun _ _ _ _ _ => (pv 6)))))))))
      (pss_one (ps_ret (pe_tup (pa_cons (pv 2) (pa_cons (pe_lc (own := [("place", 6)]) (g := gName 6) rfl sc_core.nd (pi_range1 rfl T.z_range (pa_cons (pe_callB (call_lenO o_WebD_lenD hr (by decide) pass0) (by rfl) T.z_len PySem.boot_len (pa_cons (pv 0) pa_nil)) pa_nil)) (blkOk_by (own := [("place", 6)]) (N := ["web", "counts", "struck", "leaves", "leaf", "other", "place"]) (sc := defScope s_core) (by decide +kernel)) (fun _ _ _ _ _ => (pg_name (i := 6) sc_core.nd rfl (Or.inl rfl))) (fun _ _ _ _ _ => pts_one (pt_cmpR (k_nin K) (pv 6) (pv 2) (by first | exact nomark _ | rfl))) (fun _ _ _ _ _ => (pv 6))) pa_nil))))))))), ?_⟩
    walk_at "go"
    refine ⟨x, _, _, rfl, hx, x, n, e, rfl, w, (n : Int), rfl, by omega, by omega, ?_⟩
    walk_at "go"
    intro D hD
    refine x_lwR0 (fun i H1 => Same H H1 ∧ H1 D = some (.lst (nv ((List.range i).map fun v => (nb n e v).length)))) ⟨same_new hD, upd_same⟩ ?_ ?_
    · rintro i H1 hi ⟨s1, hD1⟩
      have hin : i < n := by omega
      walk_at "go"
      refine ⟨x, _, _, rfl, s1 _ _ hx, fB_no _ (by decide), ?_⟩
      walk_at "go"
      refine x_nbW (w.same s1) hin hn fun p hp => ?_
      walk_at "go"
      have Dp : D ≠ p := ne_of_none hD1 hp
      refine ⟨_, new_at hp hD1, sz_lt (by rw [nv_len, List.length_map, List.length_range]; omega), same_mut (s1.trans (same_new hp)) hD, ?_⟩
      rw [upd_same, nv_len, nv_snoc', List.range_succ, List.map_append]
      rfl
    rintro H1 ⟨s1, hD1⟩
    have en : (n : Int).toNat = n := by omega
    rw [en, ← cnts_nil n e n (Nat.le_refl _)] at hD1
    have hD1 : H1 D = some (.lst (nv (cnts n e []))) := hD1
    have hx1 := s1 _ _ hx
    walk_at "go"
    refine x_sz (by decide) fun S0 hS0 => ?_
    have DS : D ≠ S0 := ne_of_none hD1 hS0
    have S00 : H S0 = none := s1.free hS0
    have hx2 := new_at (o := .lst []) hS0 hx1
    have hD2 := new_at (o := .lst []) hS0 hD1
    have s2 := s1.trans (same_new (o := .lst []) hS0)
    have hS2 : (upd H1 S0 (.lst [])) S0 = some (.lst (nv [])) := upd_same
    generalize upd H1 S0 (.lst []) = H2 at *
    walk_at "go"
    refine ⟨x, _, _, rfl, hx2, x, n, e, rfl, w.same s2, (n : Int), rfl, by omega, by omega, ?_⟩
    walk_at "go"
    intro L hL
    -- the leaves
    refine x_lwR0 (fun i H3 => Same H H3 ∧ H3 D = some (.lst (nv (cnts n e []))) ∧ H3 S0 = some (.lst (nv [])) ∧ H3 L = some (.lst (nv ((List.range i).filter fun v => cnt n e [] v == 1))))
      ⟨s2.trans (same_new hL), new_at hL hD2, new_at hL hS2, upd_same⟩ ?_ ?_
    · rintro i H3 hi ⟨s3, hD3, hS3, hL3⟩
      have hin : i < n := by omega
      have g1 : atI (nv (cnts n e [])) (i : Int) = some (.int (cnt n e [] i : Int)) := atI_nat (nv_at (cnts_at hin))
      walk_at "go"
      refine x_ite (fun c => ?_) (fun c => ?_)
      · walk_at "go"
        refine ⟨_, hL3, sz_lt (by rw [nv_len]; have := flt_len (n := n) (fun v => cnt n e [] v == 1) (Nat.le_of_lt hin); omega), same_mut s3 (s2.free hL), upd_at (ne_of_none hD2 hL) hD3, upd_at (ne_of_none hS2 hL) hS3, ?_⟩
        rw [upd_same, nv_snoc', filter_range_succ', if_pos (by rw [beq_iff_eq]; omega)]
      · refine ⟨s3, hD3, hS3, ?_⟩
        rw [filter_range_succ', if_neg (by rw [beq_iff_eq]; omega), List.append_nil]
        exact hL3
    rintro H3 ⟨s3, hD3, hS3, hL3⟩
    rw [en] at hL3
    have LD : L ≠ D := (ne_of_none hD2 hL).symm
    have LS : L ≠ S0 := (ne_of_none hS2 hL).symm
    walk_at "go"
    refine x_while (fun m σ' H' => ∃ y4 y5 L S, σ' = [some (.ref x), some (.ref D), some (.ref S0), some (.ref L), y4, y5, none] ∧ m = n - S.length ∧ Same H H' ∧ H' D = some (.lst (nv (cnts n e S))) ∧ H' S0 = some (.lst (nv S)) ∧ H' L = some (.lst (nv (leaves n e S))) ∧ L ≠ D ∧ L ≠ S0 ∧ Str1 n e S) n
      ⟨none, none, L, [], rfl, rfl, s3, hD3, hS3, hL3, LD, LS, Str1.nil n e⟩ ?_
    clear hL hL3 LD LS hS3 hD3 s3 H3 L
    rintro m _ H3 ⟨y4, y5, L, S, rfl, rfl, s3, hD3, hS3, hL3, LD, LS, st⟩
    have hx3 := s3 _ _ hx
    have sl := st.len
    walk_at "go"
    refine x_sz (by decide) fun z hz => ?_
    have hL4 := new_at (o := .lst []) hz hL3
    have hD4 := new_at (o := .lst []) hz hD3
    have hS4 := new_at (o := .lst []) hz hS3
    have s4 := s3.trans (same_new (o := .lst []) hz)
    have hz4 : (upd H3 z (.lst [])) z = some (.lst (nv [])) := upd_same
    have hx4 := s4 _ _ hx
    generalize upd H3 z (.lst []) = H4 at *
    walk_at "go"
    refine x_neN hL4 hz4 ?_
    walk_at "go"
    refine x_iten (fun c => ?_) (fun c => ?_)
    · refine x_wgo ?_
      obtain ⟨a, r, el⟩ : ∃ a r, leaves n e S = a :: r := by
        cases h : leaves n e S with
        | nil => exact absurd h c
        | cons a r => exact ⟨a, r, rfl⟩
      obtain ⟨an, aS, _⟩ := leaf_ok (el ▸ List.mem_cons_self .. : a ∈ leaves n e S)
      have st2 := st.step el
      have sl2 := st2.len
      rw [List.length_append] at sl2
      have sl3 : S.length + 1 ≤ n := sl2
      rw [el] at hL4
      have g0 : atI (nv (a :: r)) 0 = some (.int (a : Int)) := by
        have := atI_nat (nv_at (l := a :: r) (i := 0) (v := a) rfl)
        exact this
      have zD : (a : Int) < ((nv (cnts n e S)).length : Int) := by rw [nv_len, cnts_len]; omega
      have zS : (nv S).length < 100000 := by rw [nv_len]; omega
      walk_at "go"
      have hx5 : (upd (upd H4 S0 (.lst (nv S ++ [V.int (a : Int)]))) D (.lst ((nv (cnts n e S)).set (Int.toNat a) (.int 0)))) x = some (.ins C dx (fB d)) := upd_at (ne_of_none hx hD) (upd_at (ne_of_none hx S00) hx4)
      have s5 : Same H (upd (upd H4 S0 (.lst (nv S ++ [V.int (a : Int)]))) D (.lst ((nv (cnts n e S)).set (Int.toNat a) (.int 0)))) := same_mut (same_mut s4 S00) hD
      have hD5 : (upd (upd H4 S0 (.lst (nv S ++ [V.int (a : Int)]))) D (.lst ((nv (cnts n e S)).set (Int.toNat a) (.int 0)))) D = some (.lst (nv ((cnts n e S).set a 0))) := by
        rw [upd_same]
        have : (nv (cnts n e S)).set a (.int ((0 : Nat) : Int)) = _ := nv_set' _ _ _
        exact congrArg (fun z => some (HO.lst z)) this
      have hS5 : (upd (upd H4 S0 (.lst (nv S ++ [V.int (a : Int)]))) D (.lst ((nv (cnts n e S)).set (Int.toNat a) (.int 0)))) S0 = some (.lst (nv (S ++ [a]))) := by
        rw [← nv_snoc']
        exact upd_at DS.symm upd_same
      generalize upd (upd H4 S0 (.lst (nv S ++ [V.int (a : Int)]))) D (.lst ((nv (cnts n e S)).set (Int.toNat a) (.int 0))) = H5 at *
      refine ⟨x, _, _, rfl, hx5, fB_no _ (by decide), ?_⟩
      walk_at "go"
      refine x_nbW (w.same s5) an hn fun p hp => ?_
      walk_at "go"
      have pD : p ≠ D := (ne_of_none hD5 hp).symm
      have pS : p ≠ S0 := (ne_of_none hS5 hp).symm
      refine x_fwL (xs := nv (nb n e a)) (fun j σ' H' => ∃ y5, σ' = [some (.ref x), some (.ref D), some (.ref S0), some (.ref L), some (.int (a : Int)), y5, none] ∧ Same H H' ∧ H' p = some (.lst (nv (nb n e a))) ∧ H' S0 = some (.lst (nv (S ++ [a]))) ∧ H' D = some (.lst (nv (((nb n e a).take j).foldl dec1 ((cnts n e S).set a 0)))))
        ⟨y5, rfl, s5.trans (same_new hp), upd_same, new_at hp hS5, new_at hp hD5⟩ (fun j σ' H' _ ⟨_, _, _, h, _⟩ => sq_l h) ?_ ?_
      · rintro j y _ H6 hj ⟨y5, rfl, s6, hp6, hS6, hD6⟩
        obtain ⟨v, rfl, hv⟩ := of_nv hj
        have hvn := (mem_nb.mp (List.mem_of_getElem? hv)).1
        have etk : (nb n e a).take (j + 1) = (nb n e a).take j ++ [v] := by rw [List.take_add_one, hv]; rfl
        have zl : (((nb n e a).take j).foldl dec1 ((cnts n e S).set a 0)).length = n := by rw [dec_len, List.length_set, cnts_len]
        have e1 : dec1 (((nb n e a).take j).foldl dec1 ((cnts n e S).set a 0)) v = ((nb n e a).take (j + 1)).foldl dec1 ((cnts n e S).set a 0) := by
          rw [etk, List.foldl_append]
          rfl
        rw [← e1]
        generalize ((nb n e a).take j).foldl dec1 ((cnts n e S).set a 0) = l at *
        have g2 : atI (nv l) (v : Int) = some (.int (l.getD v 0 : Nat)) := by
          refine atI_nat (nv_at ?_)
          rw [List.getD_eq_getElem?_getD, List.getElem?_eq_getElem (by omega)]
          rfl
        have z2 : (v : Int) < ((nv l).length : Int) := by rw [nv_len]; omega
        walk_at "go"
        refine ⟨_, rfl, same_mut s6 hD, upd_at pD hp6, upd_at DS.symm hS6, ?_⟩
        rw [upd_same]
        have e2 : (if (l.getD v 0 : Nat) - 1 > (0 : Int) then ((l.getD v 0 : Nat) - 1 : Int) else 0) = ((l.getD v 0 - 1 : Nat) : Int) := by
          split <;> omega
        unfold dec1
        rw [← nv_set', ← e2]
        rfl
      · rintro _ H6 ⟨y5, rfl, s6, hp6, hS6, hD6⟩
        rw [nv_len, List.take_length, cnts_step g an aS] at hD6
        have hx6 := s6 _ _ hx
        walk_at "go"
        refine ⟨x, _, _, rfl, hx6, x, n, e, rfl, w.same s6, (n : Int), rfl, by omega, by omega, ?_⟩
        walk_at "go"
        intro L2 hL2
        refine x_lwR0 (fun i H3 => Same H H3 ∧ H3 D = some (.lst (nv (cnts n e (S ++ [a])))) ∧ H3 S0 = some (.lst (nv (S ++ [a]))) ∧ H3 L2 = some (.lst (nv ((List.range i).filter fun v => cnt n e (S ++ [a]) v == 1))))
          ⟨s6.trans (same_new hL2), new_at hL2 hD6, new_at hL2 hS6, upd_same⟩ ?_ ?_
        · rintro i H7 hi ⟨s7, hD7, hS7, hL7⟩
          have hin : i < n := by omega
          have g1 : atI (nv (cnts n e (S ++ [a]))) (i : Int) = some (.int (cnt n e (S ++ [a]) i : Int)) := atI_nat (nv_at (cnts_at hin))
          walk_at "go"
          refine x_ite (fun c => ?_) (fun c => ?_)
          · walk_at "go"
            refine ⟨_, hL7, sz_lt (by rw [nv_len]; have := flt_len (n := n) (fun v => cnt n e (S ++ [a]) v == 1) (Nat.le_of_lt hin); omega), same_mut s7 (s6.free hL2), upd_at (ne_of_none hD6 hL2) hD7, upd_at (ne_of_none hS6 hL2) hS7, ?_⟩
            rw [upd_same, nv_snoc', filter_range_succ', if_pos (by rw [beq_iff_eq]; omega)]
          · refine ⟨s7, hD7, hS7, ?_⟩
            rw [filter_range_succ', if_neg (by rw [beq_iff_eq]; omega), List.append_nil]
            exact hL7
        · rintro H7 ⟨s7, hD7, hS7, hL7⟩
          rw [en] at hL7
          walk_at "go"
          exact ⟨n - (S.length + 1), by omega, _, _, L2, S ++ [a], rfl, by rw [List.length_append]; rfl, s7, hD7, hS7, hL7, (ne_of_none hD6 hL2).symm, (ne_of_none hS6 hL2).symm, st2⟩
    · have eS := st.done c
      rw [eS] at hS4
      walk_at "go"
      refine ⟨x, _, _, rfl, hx4, x, n, e, rfl, w.same s4, (n : Int), rfl, by omega, by omega, ?_⟩
      walk_at "go"
      intro R hR
      have SR : S0 ≠ R := ne_of_none hS4 hR
      refine x_lwR0 (fun i H7 => Same H H7 ∧ H7 S0 = some (.lst (nv (struck n e))) ∧ H7 R = some (.lst (nv ((List.range i).filter fun v => decide (v ∉ struck n e)))))
        ⟨s4.trans (same_new hR), new_at hR hS4, upd_same⟩ ?_ ?_
      · rintro i H7 hi ⟨s7, hS7, hR7⟩
        have hin : i < n := by omega
        walk_at "go"
        refine x_ninN hS7 ?_
        walk_at "go"
        refine x_iten (fun c => ?_) (fun c => ?_)
        · walk_at "go"
          refine ⟨_, hR7, sz_lt (by rw [nv_len]; have := flt_len (n := n) (fun v => decide (v ∉ struck n e)) (Nat.le_of_lt hin); omega), same_mut s7 (s4.free hR), upd_at SR hS7, ?_⟩
          rw [upd_same, nv_snoc', filter_range_succ', if_pos (decide_eq_true c)]
        · refine ⟨s7, hS7, ?_⟩
          rw [filter_range_succ', if_neg (by rw [decide_eq_true_eq]; exact fun z => z c), List.append_nil]
          exact hR7
      · rintro H7 ⟨s7, hS7, hR7⟩
        rw [en] at hR7
        walk_at "go"
        refine x_sz (by show 2 ≤ 100000; decide) fun r hr => ?_
        exact q r S0 R _ (s7.free hr) S00 (s4.free hR) SR (s7.trans (same_new hr)) upd_same (new_at hr hS7) (new_at hr hR7)
end
abbrev s_l_near : Stmt := topS 19
theorem sc_l_near : FnScope ["many", "ties", "near", "u", "v", "place", "row"] ["many", "ties"] (defScope s_l_near) := ⟨rfl, rfl, rfl, by decide +kernel, rfl, by decide +kernel, by decide +kernel⟩
def spNear : Sp := fun vs H Q _ => ∃ (t : Addr) (n : Nat) (vt : List V) (ps : List Tie), vs = [.int (n : Int), .ref t] ∧ H t = some (.lst vt) ∧ TieL H vt ps ∧ TOk n ps ∧ n ≤ 100 ∧ ps.length ≤ 50000 ∧
  ∀ D H' rows, LL H H' D rows ((List.range n).map (nb n (eOf ps))) → Q (.ref D) H'
theorem LL.from {H H1 H2 : Hp} {D : Addr} {rows : List Addr} {rss : List (List Nat)} (s : Same H H1) (b : LL H1 H2 D rows rss) : LL H H2 D rows rss := ⟨s.trans b.sm, s.free b.nD, b.hD, b.nd, b.out, b.len, fun i a r h1 h2 => ⟨s.free (b.rw i a r h1 h2).1, (b.rw i a r h1 h2).2⟩⟩
section
variable {P : Program} {w : World} {K : PySem.W.Frag} {mg : Str → Option Value} {base : Heap}
theorem c_l_near (T : Tx mg) (F : DefAt K mg "_law_near" s_l_near ["many", "ties"]) : Cal P w K mg base CX0 1 "_law_near" spNear := by
  refine F.cal sc_l_near (fun vs H Q E h => ?_) (fun f cdv A outer s H vs Q E hr h => ?_)
  · obtain ⟨t, n, vt, ps, rfl, _⟩ := h
    rfl
  · obtain ⟨t, n, vs', ps, rfl, ht, hT, tok, hn, hl, q⟩ := h
    refine ⟨_, (pss_cons (ps_setLc (i := 2) (own := [("place", 5)]) (g := gName 5) rfl sc_l_near.nd rfl rfl (sw_true rfl rfl rfl (by decide +kernel)) (pi_range1 rfl T.z_range (pa_cons (pv 0) pa_nil)) (blkOk_by (own := [("place", 5)]) (N := ["many", "ties", "near", "u", "v", "place", "row"]) (sc := defScope s_l_near) (by decide +kernel)) (fun _ _ _ _ _ => (pg_name (i := 5) sc_l_near.nd rfl (Or.inl rfl))) (fun _ _ _ _ _ => pts_nil) (fun _ _ _ _ _ => (pe_lst pa_nil)))
      (pss_cons (ps_for PassesOwn.never rfl (k_pil K (pv 1)) (k_tup (n := 2) K rfl (pgs_cons (pg_name (i := 3) sc_l_near.nd rfl (Or.inl rfl)) (pgs_cons (pg_name (i := 4) sc_l_near.nd rfl (Or.inl rfl)) pgs_nil)))
        (pss_cons (ps_expr (k_bm K PySem.F.plainAttrs_list PySem.F.slot_list_append PySem.F.type_list_append mt_append (pe_ix (ix_l K) (pv 2) (pv 3) (fun _ _ => rfl)) (pa_cons (pv 4) pa_nil)))
      (pss_one (ps_expr (k_bm K PySem.F.plainAttrs_list PySem.F.slot_list_append PySem.F.type_list_append mt_append (pe_ix (ix_l K) (pv 2) (pv 4) (fun _ _ => rfl)) (pa_cons (pv 3) pa_nil))))))
      (pss_one (ps_ret (pe_lc (own := [("row", 6)]) (g := gName 6) rfl sc_l_near.nd (k_pil K (pv 2)) (blkOk_by (own := [("row", 6)]) (N := ["many", "ties", "near", "u", "v", "place", "row"]) (sc := defScope s_l_near) (by decide +kernel)) (fun _ _ _ _ _ => (pg_name (i := 6) sc_l_near.nd rfl (Or.inl rfl))) (fun _ _ _ _ _ => pts_nil) (fun _ _ _ _ _ => (pe_callB (cl_sortedI K) (by rfl) T.z_sorted (by decide +kernel) (pa_cons (pv 6) pa_nil)))))))), ?_⟩
    walk_at "go"
    intro D hD
    refine x_lwR0 (fun i H1 => ∃ rows, rows.length = i ∧ Bs H H1 D rows fun _ => []) ⟨[], rfl, same_new hD, hD, upd_same, List.nodup_nil, by simp, fun i a e => by simp at e⟩ ?_ ?_
    · rintro i H1 hi ⟨rows, rfl, b⟩
      walk_at "go"
      refine x_sz (by decide) fun p hp => ?_
      have nDp : D ≠ p := ne_of_none b.hD hp
      refine ⟨_, upd_at nDp b.hD, sz_lt (by rw [List.length_map]; omega), ?_⟩
      exact ⟨rows ++ [p], by simp, b.push hp⟩
    rintro H1 ⟨rows, hlen, b⟩
    have s1 := b.sm
    walk_at "go"
    refine x_fwL (xs := vs') (fun i σ H2 => ∃ y3 y4, σ = [some (.int (n : Int)), some (.ref t), some (.ref D), y3, y4, none, none] ∧ Bs H H2 D rows (nbr (ps.take i)))
      ⟨none, none, rfl, b⟩ ?_ ?_ ?_
    · rintro i σ H2 hi ⟨y3, y4, rfl, b⟩
      exact sq_l (b.sm _ _ ht)
    · rintro i y σ H2 hi ⟨y3, y4, rfl, b⟩
      obtain ⟨p, hp, tp, rfl, htp⟩ := hT.get hi
      have htp2 : H2 tp = some (.tup [.int (p.1 : Int), .int (p.2 : Int)]) := b.sm _ _ htp
      have hok := tok.ok p (List.mem_of_getElem? hp)
      have htk : ps.take (i + 1) = ps.take i ++ [p] := by rw [List.take_add_one, hp]; rfl
      have r1 : p.1 < rows.length := by omega
      have r2 : p.2 < rows.length := by omega
      have e1 : rows[p.1]? = some rows[p.1] := List.getElem?_eq_getElem r1
      have e2 : rows[p.2]? = some rows[p.2] := List.getElem?_eq_getElem r2
      have g1 : atI (rows.map V.ref) (p.1 : Int) = some (.ref rows[p.1]) := atI_nat (refs_at e1)
      have g2 : atI (rows.map V.ref) (p.2 : Int) = some (.ref rows[p.2]) := atI_nat (refs_at e2)
      have hD2 := b.hD
      have q1 := (b.rw _ _ e1).2
      have z1 : (nv (nbr (ps.take i) p.1)).length < 100000 := by
        rw [nv_len]
        have := List.length_filterMap_le (ends p.1) (ps.take i)
        rw [List.length_take] at this
        unfold nbr
        omega
      let f1 : Nat → List Nat := fun j => if j = p.1 then nbr (ps.take i) j ++ [p.2] else nbr (ps.take i) j
      have b1 := b.app (g := f1) (v := p.2) e1 (if_pos rfl) (fun j hj => if_neg hj)
      have hD3 := b1.hD
      have q2 := (b1.rw _ _ e2).2
      have z2 : (nv (f1 p.2)).length < 100000 := by
        rw [nv_len]
        show (if p.2 = p.1 then _ else _ : List Nat).length < _
        rw [if_neg (by omega)]
        have := List.length_filterMap_le (ends p.2) (ps.take i)
        rw [List.length_take] at this
        unfold nbr
        omega
      walk_at "go"
      have b2 := b1.app (g := nbr (ps.take (i + 1))) (v := p.1) e2 (by
        show _ = (if p.2 = p.1 then _ else _ : List Nat) ++ [p.1]
        rw [if_neg (by omega), htk, nbr_snoc]
        unfold ends
        rw [if_neg (by omega), if_pos rfl]
        rfl) (fun j hj => by
        show _ = (if j = p.1 then _ else _ : List Nat)
        rw [htk, nbr_snoc]
        unfold ends
        split
        · rename_i h
          rw [if_pos h.symm]
          rfl
        · rename_i h
          rw [if_neg (fun z => hj z.symm), if_neg (fun z => h z.symm)]
          simp)
      exact ⟨_, _, rfl, b2⟩
    · rintro σ H2 ⟨y3, y4, rfl, b⟩
      have hps : ps.take vs'.length = ps := by rw [hT.len, List.take_length]
      rw [hps] at b
      have hD2 := b.hD
      walk_at "go"
      intro D2 hD2n
      refine x_lwL (xs := rows.map V.ref) (fun i H3 => ∃ outs, LL H2 H3 D2 outs ((List.range i).map (nb n (eOf ps)))) ⟨[], LL.nil hD2n⟩ (fun i H3 hi ⟨outs, L⟩ => sq_l (L.sm _ _ hD2)) ?_ ?_
      · rintro i y H3 hi ⟨outs, L⟩
        obtain ⟨a, rfl, ha⟩ := of_refs hi
        have hil := (List.getElem?_eq_some_iff.mp ha).1
        have hrow := L.sm _ _ (b.rw _ _ ha).2
        have h3 := L.hD
        have zo := L.len
        rw [List.length_map, List.length_range] at zo
        walk_at "go"
        rw [nv_ints] at hrow
        refine x_sortedI hrow fun ns' p pm srt hp => ?_
        have e := nbr_sorted tok pm srt
        rw [e, ← nv_ints]
        walk_at "go"
        refine ⟨_, new_at hp h3, sz_lt (by rw [List.length_map]; omega), outs ++ [p], ?_⟩
        rw [List.range_succ, List.map_append]
        exact L.new hp
      · rintro H3 ⟨outs, L⟩
        rw [List.length_map, hlen] at L
        walk_at "go"
        exact q D2 H3 outs (LL.from b.sm L)
end
abbrev s_l_places : Stmt := topS 17
theorem sc_l_places : FnScope ["found", "place"] ["found"] (defScope s_l_places) := ⟨rfl, rfl, rfl, by decide +kernel, rfl, by decide +kernel, by decide +kernel⟩
section
variable {P : Program} {w : World} {K : PySem.W.Frag} {mg : Str → Option Value} {base : Heap}
theorem rep_snoc2 (i : Nat) : (List.replicate i true).map V.bl ++ [V.bl true] = (List.replicate (i + 1) true).map V.bl := by
  rw [List.replicate_succ', List.map_append]
  rfl
theorem rep_all2 (i : Nat) : (List.replicate i true).all id = true := by
  rw [List.all_eq_true]
  intro x hx
  exact (List.mem_replicate.mp hx).2
def spPlaces : Sp := fun vs H Q _ => ∃ (a : Addr) (l : List Nat), vs = [.ref a] ∧ H a = some (.lst (nv l)) ∧ l.length ≤ 50000 ∧ ∀ H', Same H H' → Q (.bl true) H'
theorem c_l_places (T : Tx mg) (F : DefAt K mg "_law_places" s_l_places ["found"]) (c_l_whole : Cal P w K mg base CX0 1 "_law_whole" (spIsInt K)) : Cal P w K mg base CX0 2 "_law_places" spPlaces := by
  refine F.cal sc_l_places (fun vs H Q E h => ?_) (fun f cdv A outer s H vs Q E hr h => ?_)
  · obtain ⟨a, l, rfl, _⟩ := h
    rfl
  · obtain ⟨a, l, rfl, ha, hz, q⟩ := h
    refine ⟨_, (pss_one (ps_ret (pe_and (pe_callB (cl_isi K) (by rfl) T.z_isinstance (by decide +kernel) (pa_cons (pv 0) (pa_cons (pe_bltn (v := .ty "list") (by rfl) T.z_list (by decide +kernel) rfl) pa_nil))) (pe_one (pe_callB (cl_all K rfl) (by rfl) T.z_all (by decide +kernel) (pa_cons (pe_lc (own := [("place", 1)]) (g := gName 1) rfl sc_l_places.nd (k_pil K (pv 0)) (blkOk_by (own := [("place", 1)]) (N := ["found", "place"]) (sc := defScope s_l_places) (by decide +kernel)) (fun _ _ _ _ _ => (pg_name (i := 1) sc_l_places.nd rfl (Or.inl rfl))) (fun _ _ _ _ _ => pts_nil) (fun _ _ _ _ _ => (pe_cal c_l_whole hr (by decide) rfl pass0 (pa_cons (pv 1) pa_nil)))) pa_nil)))))), ?_⟩
    walk_at "go"
    intro D hD
    refine x_lwL (xs := nv l) (fun i H1 => Same H H1 ∧ H1 D = some (.lst ((List.replicate i true).map V.bl))) ⟨same_new hD, upd_same⟩ (fun i H1 _ h => sq_l (h.1 _ _ ha)) ?_ ?_
    · rintro i y H1 hi ⟨s1, hD1⟩
      obtain ⟨v, rfl, hv⟩ := of_nv hi
      have hl := (List.getElem?_eq_some_iff.mp hv).1
      walk_at "go"
      refine x_spInt ?_
      refine ⟨_, hD1, sz_lt (by rw [List.length_map, List.length_replicate]; omega), same_mut s1 hD, ?_⟩
      rw [upd_same, rep_snoc2]
    · rintro H1 ⟨s1, hD1⟩
      walk_at "go"
      exact x_all hD1 (rep_all2 _) (q _ s1)
end
abbrev s_l_struck_right : Stmt := topS 20
theorem sc_l_struck_right : FnScope ["many", "ties", "struck", "left", "near", "counts", "gone", "place", "other", "row"] ["many", "ties", "struck", "left"] (defScope s_l_struck_right) := ⟨rfl, rfl, rfl, by decide +kernel, rfl, by decide +kernel, by decide +kernel⟩
def spStruckR : Sp := fun vs H Q _ => ∃ (t sa la : Addr) (n : Nat) (vt : List V) (ps : List Tie), vs = [.int (n : Int), .ref t, .ref sa, .ref la] ∧ H t = some (.lst vt) ∧ TieL H vt ps ∧ TOk n ps ∧ n ≤ 100 ∧ ps.length ≤ 50000 ∧
  H sa = some (.lst (nv (struck n (eOf ps)))) ∧ H la = some (.lst (nv (rest n (struck n (eOf ps))))) ∧ ∀ H', Same H H' → Q (.bl true) H'
section
variable {P : Program} {w : World} {K : PySem.W.Frag} {mg : Str → Option Value} {base : Heap}
theorem c_l_struck_right (T : Tx mg) (F : DefAt K mg "_law_struck_right" s_l_struck_right ["many", "ties", "struck", "left"]) (c_l_near : Cal P w K mg base CX0 1 "_law_near" spNear) : Cal P w K mg base CX0 2 "_law_struck_right" spStruckR := by
  refine F.cal sc_l_struck_right (fun vs H Q E h => ?_) (fun f cdv A outer s H vs Q E hr h => ?_)
  · obtain ⟨t, sa, la, n, vt, ps, rfl, _⟩ := h
    rfl
  · obtain ⟨t, sa, la, n, vt, ps, rfl, ht, hT, tok, hn, hl, hs, hla, q⟩ := h
    have g := tok.gr
    obtain ⟨st, le⟩ := struck_ok n (eOf ps)
    have sl := st.len
    refine ⟨_, (pss_cons (ps_set (i := 4) sc_l_struck_right.nd rfl (Or.inl rfl) (pe_cal c_l_near hr (by decide) rfl pass0 (pa_cons (pv 0) (pa_cons (pv 1) pa_nil))))
      (pss_cons (ps_setLc (i := 5) (own := [("row", 9)]) (g := gName 9) rfl sc_l_struck_right.nd rfl rfl (sw_true rfl rfl rfl (by decide +kernel)) (k_pil K (pv 4)) (blkOk_by (own := [("row", 9)]) (N := ["many", "ties", "struck", "left", "near", "counts", "gone", "place", "other", "row"]) (sc := defScope s_l_struck_right) (by decide +kernel)) (fun _ _ _ _ _ => (pg_name (i := 9) sc_l_struck_right.nd rfl (Or.inl rfl))) (fun _ _ _ _ _ => pts_nil) (fun _ _ _ _ _ => (pe_callB (cl_len K) (by rfl) T.z_len PySem.boot_len (pa_cons (pv 9) pa_nil))))
      (pss_cons (ps_set (i := 6) sc_l_struck_right.nd rfl (Or.inr rfl) (pe_lst pa_nil))
      (pss_cons (ps_for PassesOwn.never rfl (k_pil K (pv 2)) (pg_name (i := 7) sc_l_struck_right.nd rfl (Or.inl rfl))
        (pss_cons (ps_if (PW.pt (pw_or (pt_cmpR (k_in K) (pv 7) (pv 6) (by first | exact nomark _ | rfl)) (pw_or (pt_not (pt_chain op_le op_lt pe_int (pv 7) (pv 0))) (pw_or (pt_cmpR op_ne (pe_ix (ix_l K) (pv 5) (pv 7) (fun _ _ => rfl)) pe_int (nomark _)) (pw_or1 (pt_cmpR (k_in K) pe_int (pe_slice (k_sll K) (pv 5) po_none (po_some (pv 7))) (by first | exact nomark _ | rfl)))))))
        (pss_one (ps_ret pe_bl)) pss_nil)
      (pss_cons (ps_expr (k_bm K PySem.F.plainAttrs_list PySem.F.slot_list_append PySem.F.type_list_append mt_append (pv 6) (pa_cons (pv 7) pa_nil)))
      (pss_cons (ps_asg pe_int (pg_sub (pv 5) (pv 7) set_list))
      (pss_one (ps_for PassesOwn.never rfl (k_pil K (pe_ix (ix_l K) (pv 4) (pv 7) (fun _ _ => rfl))) (pg_name (i := 8) sc_l_struck_right.nd rfl (Or.inl rfl))
        (pss_one (ps_if (pt_cmpR (k_nin K) (pv 8) (pv 6) (by first | exact nomark _ | rfl))
        (pss_one (ps_asg (pe_op op_sub (pe_ix (ix_l K) (pv 5) (pv 8) (fun _ _ => rfl)) pe_int) (pg_sub (pv 5) (pv 8) set_list))) pss_nil))))))))
      (pss_one (ps_ret (pe_and (pe_cmpR (k_nin K) pe_int (pv 5) (by first | exact nomark _ | rfl)) (pe_one (pe_cmpR (k_eqD K hr.units) (pv 3) (pe_lc (own := [("place", 7)]) (g := gName 7) rfl sc_l_struck_right.nd (pi_range1 rfl T.z_range (pa_cons (pv 0) pa_nil)) (blkOk_by (own := [("place", 7)]) (N := ["many", "ties", "struck", "left", "near", "counts", "gone", "place", "other", "row"]) (sc := defScope s_l_struck_right) (by decide +kernel)) (fun _ _ _ _ _ => (pg_name (i := 7) sc_l_struck_right.nd rfl (Or.inl rfl))) (fun _ _ _ _ _ => pts_one (pt_cmpR (k_nin K) (pv 7) (pv 6) (by first | exact nomark _ | rfl))) (fun _ _ _ _ _ => (pv 7))) (nomark _)))))))))), ?_⟩
    walk_at "go"
    refine ⟨t, n, vt, ps, rfl, ht, hT, tok, hn, hl, fun D H1 rows L => ?_⟩
    have hD1 := L.hD
    have hs1 := L.sm _ _ hs
    have hla1 := L.sm _ _ hla
    have zr : rows.length = n := by rw [L.len, List.length_map, List.length_range]
    have rwi : ∀ i (h : i < n), ∃ a, rows[i]? = some a ∧ H a = none ∧ H1 a = some (.lst (nv (nb n (eOf ps) i))) := fun i h => by
      have e := List.getElem?_eq_getElem (l := rows) (i := i) (by omega)
      have := L.rw i _ (nb n (eOf ps) i) e (by rw [List.getElem?_map, List.getElem?_range h]; rfl)
      exact ⟨_, e, this⟩
    walk_at "go"
    intro C hC
    refine x_lwL (xs := rows.map V.ref) (fun i H2 => Same H1 H2 ∧ H2 C = some (.lst (nv ((List.range i).map fun v => (nb n (eOf ps) v).length)))) ⟨same_new hC, upd_same⟩ (fun i H2 _ h => sq_l (h.1 _ _ hD1)) ?_ ?_
    · rintro i y H2 hi ⟨s2, hC2⟩
      obtain ⟨a, rfl, ha⟩ := of_refs hi
      have hil := (List.getElem?_eq_some_iff.mp ha).1
      obtain ⟨a', ea, _, hr⟩ := rwi i (by omega)
      rw [ha] at ea
      cases ea
      have hr2 := s2 _ _ hr
      walk_at "go"
      refine ⟨_, hC2, sz_lt (by rw [nv_len, List.length_map, List.length_range]; omega), same_mut s2 hC, ?_⟩
      rw [upd_same, nv_len, nv_snoc', List.range_succ, List.map_append]
      rfl
    rintro H2 ⟨s2, hC2⟩
    rw [List.length_map, zr, ← cnts_nil n (eOf ps) n (Nat.le_refl _)] at hC2
    have hC2 : H2 C = some (.lst (nv (cnts n (eOf ps) []))) := hC2
    have s02 := L.sm.trans s2
    walk_at "go"
    refine x_sz (by decide) fun G hG => ?_
    have CG : C ≠ G := ne_of_none hC2 hG
    have C0 : H C = none := L.sm.free hC
    have G0 : H G = none := s02.free hG
    have G1 : H1 G = none := s2.free hG
    have hC3 := new_at (o := .lst []) hG hC2
    have hG3 : (upd H2 G (.lst [])) G = some (.lst (nv [])) := upd_same
    have s3 := s2.trans (same_new (o := .lst []) hG)
    generalize upd H2 G (.lst []) = H3 at *
    walk_at "go"
    refine x_fwL (xs := nv (struck n (eOf ps))) (fun i σ' H' => ∃ y7 y8, σ' = [some (.int (n : Int)), some (.ref t), some (.ref sa), some (.ref la), some (.ref D), some (.ref C), some (.ref G), y7, y8, none] ∧ Same H1 H' ∧ H' C = some (.lst (nv (cnts n (eOf ps) ((struck n (eOf ps)).take i)))) ∧ H' G = some (.lst (nv ((struck n (eOf ps)).take i))))
      ⟨none, none, rfl, s3, hC3, hG3⟩ (fun i σ' H' _ ⟨_, _, _, s, _⟩ => sq_l (s _ _ hs1)) ?_ ?_
    · rintro i y _ H4 hi ⟨y7, y8, rfl, s4, hC4, hG4⟩
      obtain ⟨a, rfl, ha⟩ := of_nv hi
      obtain ⟨r, hr⟩ := st.st i a ha
      have hil := (List.getElem?_eq_some_iff.mp ha).1
      obtain ⟨an, aS, ac⟩ := leaf_ok (hr ▸ List.mem_cons_self .. : a ∈ leaves n (eOf ps) ((struck n (eOf ps)).take i))
      have fo := first_one hr
      have etk : (struck n (eOf ps)).take (i + 1) = (struck n (eOf ps)).take i ++ [a] := by rw [List.take_add_one, ha]; rfl
      rw [etk]
      have zS : ((struck n (eOf ps)).take i).length ≤ i := by rw [List.length_take]; omega
      generalize (struck n (eOf ps)).take i = S at *
      obtain ⟨ra, era, ra0, hra⟩ := rwi a an
      have hra4 := s4 _ _ hra
      have hD4 := s4 _ _ hD1
      have g1 : atI (nv (cnts n (eOf ps) S)) (a : Int) = some (.int ((1 : Nat) : Int)) := by
        have := atI_nat (nv_at (cnts_at (e := eOf ps) (S := S) an))
        rw [ac] at this
        exact this
      have g2 : atI (rows.map V.ref) (a : Int) = some (.ref ra) := atI_nat (refs_at era)
      walk_at "go"
      refine x_inN hG4 ?_
      rw [decide_eq_false aS]
      walk_at "go"
      refine x_chain ?_
      walk_at "go"
      refine x_sl ?_
      walk_at "go"
      refine x_noPart ?_
      refine x_part ?_
      walk_at "go"
      refine x_slN hC4 (by rw [cnts_len]; omega) fun z hz => ?_
      refine x_inN (v := 1) upd_same ?_
      rw [decide_eq_false fo]
      have hC5 := new_at (o := .lst (nv ((cnts n (eOf ps) S).take a))) hz hC4
      have hG5 := new_at (o := .lst (nv ((cnts n (eOf ps) S).take a))) hz hG4
      have s5 := s4.trans (same_new (o := .lst (nv ((cnts n (eOf ps) S).take a))) hz)
      generalize upd H4 z (.lst (nv ((cnts n (eOf ps) S).take a))) = H5 at *
      have hra5 := s5 _ _ hra
      have hD5 := s5 _ _ hD1
      have zC : (a : Int) < ((nv (cnts n (eOf ps) S)).length : Int) := by rw [nv_len, cnts_len]; omega
      have zS2 : (nv S).length < 100000 := by rw [nv_len]; omega
      have nrC : ra ≠ C := ne_of_none hra hC
      have nrG : ra ≠ G := ne_of_none hra G1
      have nDC : D ≠ C := ne_of_none hD1 hC
      have nDG : D ≠ G := ne_of_none hD1 G1
      walk_at "go"
      have hC6 : (upd (upd H5 G (.lst (nv S ++ [V.int (a : Int)]))) C (.lst ((nv (cnts n (eOf ps) S)).set (Int.toNat a) (.int 0)))) C = some (.lst (nv ((cnts n (eOf ps) S).set a 0))) := by
        rw [upd_same]
        have : (nv (cnts n (eOf ps) S)).set a (.int ((0 : Nat) : Int)) = _ := nv_set' _ _ _
        exact congrArg (fun z => some (HO.lst z)) this
      have hG6 : (upd (upd H5 G (.lst (nv S ++ [V.int (a : Int)]))) C (.lst ((nv (cnts n (eOf ps) S)).set (Int.toNat a) (.int 0)))) G = some (.lst (nv (S ++ [a]))) := by
        rw [← nv_snoc']
        exact upd_at CG.symm upd_same
      have s6 : Same H1 (upd (upd H5 G (.lst (nv S ++ [V.int (a : Int)]))) C (.lst ((nv (cnts n (eOf ps) S)).set (Int.toNat a) (.int 0)))) := same_mut (same_mut s5 G1) hC
      generalize upd (upd H5 G (.lst (nv S ++ [V.int (a : Int)]))) C (.lst ((nv (cnts n (eOf ps) S)).set (Int.toNat a) (.int 0))) = H6 at *
      refine x_fwL (xs := nv (nb n (eOf ps) a)) (fun j σ' H' => ∃ y8, σ' = [some (.int (n : Int)), some (.ref t), some (.ref sa), some (.ref la), some (.ref D), some (.ref C), some (.ref G), some (.int (a : Int)), y8, none] ∧ Same H1 H' ∧ H' C = some (.lst (nv (((nb n (eOf ps) a).take j).foldl dec1 ((cnts n (eOf ps) S).set a 0)))) ∧ H' G = some (.lst (nv (S ++ [a]))))
        ⟨y8, rfl, s6, hC6, hG6⟩ (fun j σ' H' _ ⟨_, _, s, _⟩ => sq_l (s _ _ hra)) ?_ ?_
      · rintro j y _ H7 hj ⟨y8, rfl, s7, hC7, hG7⟩
        obtain ⟨v, rfl, hv⟩ := of_nv hj
        have hvn := (mem_nb.mp (List.mem_of_getElem? hv)).1
        have hve := (mem_nb.mp (List.mem_of_getElem? hv)).2
        have etk : (nb n (eOf ps) a).take (j + 1) = (nb n (eOf ps) a).take j ++ [v] := by rw [List.take_add_one, hv]; rfl
        have zl : (((nb n (eOf ps) a).take j).foldl dec1 ((cnts n (eOf ps) S).set a 0)).length = n := by rw [dec_len, List.length_set, cnts_len]
        have e1 : dec1 (((nb n (eOf ps) a).take j).foldl dec1 ((cnts n (eOf ps) S).set a 0)) v = ((nb n (eOf ps) a).take (j + 1)).foldl dec1 ((cnts n (eOf ps) S).set a 0) := by
          rw [etk, List.foldl_append]
          rfl
        -- what stands there is what has not been looked at
        have e3 : (((nb n (eOf ps) a).take j).foldl dec1 ((cnts n (eOf ps) S).set a 0)).getD v 0 = cnt n (eOf ps) S v := by
          have nd := nodup_of_lt (nb_pw n (eOf ps) a)
          have nvt : v ∉ (nb n (eOf ps) a).take j := fun hm => by
            rw [← List.take_append_drop j (nb n (eOf ps) a)] at nd
            have hd : v ∈ (nb n (eOf ps) a).drop j := by
              refine List.mem_of_getElem? (i := 0) ?_
              rw [List.getElem?_drop]
              exact hv
            exact (List.nodup_append.mp nd).2.2 v hm v hd rfl
          rw [dec_getD _ (nd.sublist (List.take_sublist _ _)), if_neg nvt]
          have va : a ≠ v := fun z => by
            subst z
            rw [g.irr] at hve
            cases hve
          rw [List.getD_eq_getElem?_getD, List.getElem?_set_ne va, cnts_at hvn]
          rfl
        rw [← e1]
        generalize ((nb n (eOf ps) a).take j).foldl dec1 ((cnts n (eOf ps) S).set a 0) = l at *
        have g2 : atI (nv l) (v : Int) = some (.int (l.getD v 0 : Nat)) := by
          refine atI_nat (nv_at ?_)
          rw [List.getD_eq_getElem?_getD, List.getElem?_eq_getElem (by omega)]
          rfl
        have z2 : (v : Int) < ((nv l).length : Int) := by rw [nv_len]; omega
        walk_at "go"
        refine x_ninN hG7 ?_
        walk_at "go"
        refine x_iten (fun c => ?_) (fun c => ?_)
        · have pos : 1 ≤ l.getD v 0 := by
            rw [e3]
            have hvS : v ∉ S := fun z => c (List.mem_append_left _ z)
            unfold cnt
            rw [if_neg hvS]
            refine List.countP_pos_iff.mpr ⟨a, mem_nb.mpr ⟨an, by rw [g.sym]; exact hve⟩, by simpa using aS⟩
          walk_at "go"
          refine ⟨_, rfl, same_mut s7 hC, ?_, upd_at CG.symm hG7⟩
          rw [upd_same]
          have e2 : ((l.getD v 0 : Nat) : Int) - 1 = ((l.getD v 0 - 1 : Nat) : Int) := by omega
          unfold dec1
          rw [← nv_set', ← e2]
          rfl
        · walk_at "go"
          refine ⟨_, rfl, s7, ?_, hG7⟩
          have e4 : l.getD v 0 = 0 := by
            rw [e3]
            unfold cnt
            rcases List.mem_append.mp c with h | h
            · rw [if_pos h]
            · rw [List.mem_singleton.mp h, g.irr] at hve
              cases hve
          have e5 : dec1 l v = l := by
            unfold dec1
            rw [e4]
            refine List.ext_getElem? fun i => ?_
            rw [List.getElem?_set]
            by_cases q : v = i
            · subst q
              rw [if_pos rfl, if_pos (by omega), List.getElem?_eq_getElem (by omega)]
              rw [List.getD_eq_getElem?_getD, List.getElem?_eq_getElem (by omega)] at e4
              have e6 : l[v]'(by omega) = 0 := e4
              rw [e6]
            · rw [if_neg q]
          rw [e5]
          exact hC7
      · rintro _ H7 ⟨y8, rfl, s7, hC7, hG7⟩
        rw [nv_len, List.take_length, cnts_step g an aS] at hC7
        exact ⟨_, _, rfl, s7, hC7, hG7⟩
    · rintro _ H4 ⟨y7, y8, rfl, s4, hC4, hG4⟩
      rw [nv_len, List.take_length] at hC4 hG4
      walk_at "go"
      refine x_ninN (v := 1) hC4 ?_
      rw [decide_eq_false (not_one le)]
      walk_at "go"
      intro R hR
      have hla4 := s4 _ _ hla1
      refine x_lwR0 (fun i H5 => Same H1 H5 ∧ H5 G = some (.lst (nv (struck n (eOf ps)))) ∧ H5 R = some (.lst (nv ((List.range i).filter fun v => decide (v ∉ struck n (eOf ps))))))
        ⟨s4.trans (same_new hR), new_at hR hG4, upd_same⟩ ?_ ?_
      · rintro i H5 hi ⟨s5, hG5, hR5⟩
        have hin : i < n := by omega
        have GR : G ≠ R := ne_of_none hG4 hR
        walk_at "go"
        refine x_ninN hG5 ?_
        walk_at "go"
        refine x_iten (fun c => ?_) (fun c => ?_)
        · walk_at "go"
          refine ⟨_, hR5, sz_lt (by rw [nv_len]; have := flt_len (n := n) (fun v => decide (v ∉ struck n (eOf ps))) (Nat.le_of_lt hin); omega), same_mut s5 (s4.free hR), upd_at GR hG5, ?_⟩
          rw [upd_same, nv_snoc', filter_range_succ', if_pos (decide_eq_true c)]
        · refine ⟨s5, hG5, ?_⟩
          rw [filter_range_succ', if_neg (by rw [decide_eq_true_eq]; exact fun z => z c), List.append_nil]
          exact hR5
      · rintro H5 ⟨s5, hG5, hR5⟩
        rw [show (n : Int).toNat = n by omega] at hR5
        have hR5 : H5 R = some (.lst (nv (rest n (struck n (eOf ps))))) := hR5
        walk_at "go"
        refine x_eqN (s5 _ _ hla1) hR5 ?_
        rw [decide_eq_true rfl]
        exact q _ (L.sm.trans s5)
end
abbrev s_l_answer_right : Stmt := topS 21
theorem sc_l_answer_right : FnScope ["many", "ties", "found"] ["many", "ties", "found"] (defScope s_l_answer_right) := ⟨rfl, rfl, rfl, by decide +kernel, rfl, by decide +kernel, by decide +kernel⟩
def spAnsR : Sp := fun vs H Q _ => ∃ (t f sa la : Addr) (n : Nat) (vt : List V) (ps : List Tie), vs = [.int (n : Int), .ref t, .ref f] ∧ H t = some (.lst vt) ∧ TieL H vt ps ∧ TOk n ps ∧ n ≤ 100 ∧ ps.length ≤ 50000 ∧
  H f = some (.tup [.ref sa, .ref la]) ∧ H sa = some (.lst (nv (struck n (eOf ps)))) ∧ H la = some (.lst (nv (rest n (struck n (eOf ps))))) ∧ ∀ H', Same H H' → Q (.bl true) H'
theorem rest_len (n : Nat) (S : List Nat) : (rest n S).length ≤ n := by
  have := List.length_filter_le (fun v => decide (v ∉ S)) (List.range n)
  rw [List.length_range] at this
  exact this
section
variable {P : Program} {w : World} {K : PySem.W.Frag} {mg : Str → Option Value} {base : Heap}
theorem c_l_answer_right (T : Tx mg) (F : DefAt K mg "_law_answer_right" s_l_answer_right ["many", "ties", "found"]) (c_l_places : Cal P w K mg base CX0 2 "_law_places" spPlaces) (c_l_struck_right : Cal P w K mg base CX0 2 "_law_struck_right" spStruckR) : Cal P w K mg base CX0 3 "_law_answer_right" spAnsR := by
  refine F.cal sc_l_answer_right (fun vs H Q E h => ?_) (fun f cdv A outer s H vs Q E hr h => ?_)
  · obtain ⟨t, f, sa, la, n, vt, ps, rfl, _⟩ := h
    rfl
  · obtain ⟨t, f, sa, la, n, vt, ps, rfl, ht, hT, tok, hn, hl, hf, hs, hla, q⟩ := h
    have zs := (struck_ok n (eOf ps)).1.len
    have zl := rest_len n (struck n (eOf ps))
    refine ⟨_, (pss_cons (ps_if (PW.pt (pw_or (pt_not (pt_val (pe_callB (cl_isi K) (by rfl) T.z_isinstance (by decide +kernel) (pa_cons (pv 2) (pa_cons (pe_bltn (v := .ty "tuple") (by rfl) T.z_tuple (by decide +kernel) rfl) pa_nil))))) (pw_or1 (pt_cmpR op_ne (pe_callB (cl_len K) (by rfl) T.z_len PySem.boot_len (pa_cons (pv 2) pa_nil)) pe_int (nomark _)))))
        (pss_one (ps_ret pe_bl)) pss_nil)
      (pss_cons (ps_if (PW.pt (pw_or (pt_not (pt_val (pe_cal c_l_places hr (by decide) rfl pass0 (pa_cons (pe_ix (ix_t K) (pv 2) pe_int (fun _ _ => rfl)) pa_nil)))) (pw_or1 (pt_not (pt_val (pe_cal c_l_places hr (by decide) rfl pass0 (pa_cons (pe_ix (ix_t K) (pv 2) pe_int (fun _ _ => rfl)) pa_nil)))))))
        (pss_one (ps_ret pe_bl)) pss_nil)
      (pss_one (ps_ret (pe_cal c_l_struck_right hr (by decide) rfl pass0 (pa_cons (pv 0) (pa_cons (pv 1) (pa_cons (pe_ix (ix_t K) (pv 2) pe_int (fun _ _ => rfl)) (pa_cons (pe_ix (ix_t K) (pv 2) pe_int (fun _ _ => rfl)) pa_nil))))))))), ?_⟩
    walk_at "go"
    refine ⟨sa, _, rfl, hs, by omega, fun H1 s1 => ?_⟩
    have hf1 := s1 _ _ hf
    walk_at "go"
    refine ⟨la, _, rfl, s1 _ _ hla, by omega, fun H2 s2 => ?_⟩
    have hf2 := s2 _ _ hf1
    walk_at "go"
    have s12 := s1.trans s2
    exact ⟨t, sa, la, n, vt, ps, rfl, s12 _ _ ht, hT.same s12, tok, hn, hl, s12 _ _ hs, s12 _ _ hla, fun H3 s3 => q H3 (s12.trans s3)⟩
end
section
variable {K : PySem.W.Frag} {H : Hp} {Q : VK} {a b c d r r2 : Addr}
theorem x_neP {l m l' m' : List Nat} (h : H r = some (.tup [.ref a, .ref b])) (ha : H a = some (.lst (nv l))) (hb : H b = some (.lst (nv m))) (h2 : H r2 = some (.tup [.ref c, .ref d])) (hc : H c = some (.lst (nv l'))) (hd : H d = some (.lst (nv m')))
    (k : Q (.bl (!decide (l = l' ∧ m = m'))) H) : rNeD K (.ref r) (.ref r2) H Q := by
  have sh : ∀ l m : List Nat, SeqAt.shaped (.tuple [dN l, dN m]) = true := fun l m => by
    unfold SeqAt.shaped
    rw [Bool.and_eq_true, decide_eq_true_eq]
    refine ⟨?_, ?_⟩
    · show (PyData.canLay0 (dN l) && (PyData.canLay0 (dN m) && true)) = true
      rw [show PyData.canLay0 (dN l) = true from lay_ints l, show PyData.canLay0 (dN m) = true from lay_ints m]
      rfl
    · show max (PyData.depth (dN l)) (max (PyData.depth (dN m)) 0) + 1 ≤ 64
      rw [dep_dN, dep_dN]
      decide
  refine ⟨_, _, .tup (sq_t h) (.cons (dp_nv ha) (.cons (dp_nv hb) .nil)), .tup (sq_t h2) (.cons (dp_nv hc) (.cons (dp_nv hd) .nil)), sh l m, sh l' m', ?_⟩
  have e : PyData.eqv (.tuple [dN l, dN m]) (.tuple [dN l', dN m']) = decide (l = l' ∧ m = m') := by
    simp only [PyData.eqv, PyData.eqvAll, Bool.and_true]
    have e1 := eqv_dN l l'
    have e2 := eqv_dN m m'
    rw [e1, e2, Bool.eq_iff_iff, Bool.and_eq_true, decide_eq_true_eq, decide_eq_true_eq, decide_eq_true_eq]
  rw [e]
  exact k
end
abbrev s_law : Stmt := topS 22
theorem sc_law : FnScope ["script", "other", "k", "jar", "many", "ties", "web", "found", "struck", "left"] ["script"] (defScope s_law) := ⟨rfl, rfl, rfl, by decide +kernel, rfl, by decide +kernel, by decide +kernel⟩
section
variable {P : Program} {w : World} {K : PySem.W.Frag} {mg : Str → Option Value} {base : Heap}
theorem ok_law {C f : Addr} {fd : FuncData} (T : Tx mg) (O_Web : Own K mg "Web" C) (F : Fun K "law" "law" s_law f fd) (m_WebD_initD : Met P w K mg base CX0 3 C "__init__" (spInitW C)) (o_WebD_lenD : Met P w K mg base CX0 1 C "__len__" (spLenW C)) (p_Web_ties : Prp P w K mg base CX0 1 C "ties" (spTiesW C))
    (c_core : Cal P w K mg base CX0 4 "core" (spCore C)) (c_l_jar : Cal P w K mg base CX0 1 "_law_jar" (spJar K)) (c_l_draw : Cal P w K mg base CX0 1 "_law_draw" spPick) (c_l_order : Cal P w K mg base CX0 2 "_law_order" spOrder) (c_l_ties : Cal P w K mg base CX0 1 "_law_ties" spBTies)
    (c_l_pairs : Cal P w K mg base CX0 2 "_law_pairs" spBPairs) (c_l_answer_right : Cal P w K mg base CX0 3 "_law_answer_right" spAnsR) : FnOk P w K mg base CX0 5 f fd ["script"] (spLaw K) := by
  refine F.ok sc_law (fun vs H Q E h => ?_) (fun cdv A outer s H vs Q E hr h => ?_)
  · obtain ⟨a, ns, rfl, _⟩ := h
    rfl
  · obtain ⟨a, ns, rfl, hs, hl, q⟩ := h
    refine ⟨_, (pss_cons (ps_set (i := 1) sc_law.nd rfl (Or.inl rfl) (pe_mak m_WebD_initD O_Web hr (by decide) rfl pass0 (pa_cons pe_int (pa_cons (pe_lst (pa_cons (pe_tup (pa_cons pe_int (pa_cons pe_int pa_nil))) (pa_cons (pe_tup (pa_cons pe_int (pa_cons pe_int pa_nil))) pa_nil))) pa_nil))))
      (pss_cons (ps_for PassesOwn.never rfl (pi_range1 rfl T.z_range (pa_cons (pe_callB (cl_max2 rfl) (by rfl) T.z_max (by decide +kernel) (pa_cons pe_int (pa_cons (pe_callB (cl_min2 rfl) (by rfl) T.z_min (by decide +kernel) (pa_cons pe_int (pa_cons (pe_callB (cl_len K) (by rfl) T.z_len PySem.boot_len (pa_cons (pv 0) pa_nil)) pa_nil))) pa_nil))) pa_nil)) (pg_name (i := 2) sc_law.nd rfl (Or.inl rfl))
        (pss_cons (ps_set (i := 3) sc_law.nd rfl (Or.inl rfl) (pe_cal c_l_jar hr (by decide) rfl pass0 (pa_cons (pv 0) (pa_cons (pv 2) pa_nil))))
      (pss_cons (ps_set (i := 4) sc_law.nd rfl (Or.inl rfl) (pe_cal c_l_draw hr (by decide) rfl pass0 (pa_cons (pv 3) (pa_cons pe_int pa_nil))))
      (Evl.pss_cut (ps_if (PW.pt (pw_and (pt_cmpR op_eq (pv 2) pe_int (nomark _)) (pw_and1 (pt_cmpR op_eq (pe_cal c_l_draw hr (by decide) rfl pass0 (pa_cons (pv 3) (pa_cons pe_int pa_nil))) pe_int (nomark _)))))
        (pss_one (ps_set (i := 4) sc_law.nd rfl (Or.inl rfl) (pe_cal c_l_draw hr (by decide) rfl pass0 (pa_cons (pv 3) (pa_cons pe_int pa_nil))))) pss_nil)
      (pss_cons (ps_set (i := 5) sc_law.nd rfl (Or.inl rfl) (pe_cal c_l_ties hr (by decide) rfl pass0 (pa_cons (pe_cal c_l_pairs hr (by decide) rfl pass0 (pa_cons (pv 3) (pa_cons (pv 4) pa_nil))) (pa_cons (pe_cal c_l_order hr (by decide) rfl pass0 (pa_cons (pv 3) (pa_cons (pv 4) pa_nil))) pa_nil))))
      (pss_cons (ps_set (i := 6) sc_law.nd rfl (Or.inl rfl) (pe_mak m_WebD_initD O_Web hr (by decide) rfl pass0 (pa_cons (pv 4) (pa_cons (pe_callTy (cl_listOf K) (by rfl) T.z_list (by decide +kernel) (pa_cons (pv 5) pa_nil)) pa_nil))))
      (pss_cons (ps_set (i := 7) sc_law.nd rfl (Or.inl rfl) (pe_cal c_core hr (by decide) rfl pass0 (pa_cons (pv 6) pa_nil)))
      (pss_cons (ps_if (PW.pt (pw_or (pt_not (pt_val (pe_cal c_l_answer_right hr (by decide) rfl pass0 (pa_cons (pv 4) (pa_cons (pv 5) (pa_cons (pv 7) pa_nil)))))) (pw_or1 (pt_cmpR (k_neD K hr.units) (pe_cal c_core hr (by decide) rfl pass0 (pa_cons (pv 1) pa_nil)) (pe_tup (pa_cons (pe_lst (pa_cons pe_int (pa_cons pe_int pa_nil))) (pa_cons (pe_lst (pa_cons pe_int pa_nil)) pa_nil))) (nomark _)))))
        (pss_one (ps_ret pe_bl)) pss_nil)
      (pss_cons (ps_set (i := 8) sc_law.nd rfl (Or.inl rfl) (pe_ix (ix_t K) (pv 7) pe_int (fun _ _ => rfl)))
      (pss_cons (ps_expr (k_bm K PySem.F.plainAttrs_list PySem.F.slot_list_append PySem.F.type_list_append mt_append (pv 8) (pa_cons (pv 4) pa_nil)))
      (pss_cons (ps_set (i := 9) sc_law.nd rfl (Or.inl rfl) (pe_ix (ix_t K) (pv 7) pe_int (fun _ _ => rfl)))
      (pss_cons (ps_expr (k_bm K PySem.F.plainAttrs_list PySem.F.slot_list_insert PySem.F.type_list_insert mt_insert (pv 9) (pa_cons pe_int (pa_cons (pv 4) pa_nil))))
      (pss_one (ps_if (PW.pt (pw_or (pt_not (pt_val (pe_cal c_l_answer_right hr (by decide) rfl pass0 (pa_cons (pv 4) (pa_cons (pv 5) (pa_cons (pe_cal c_core hr (by decide) rfl pass0 (pa_cons (pv 6) pa_nil)) pa_nil)))))) (pw_or (pt_cmpR (k_neD K hr.units) (pe_prp p_Web_ties O_Web.cl hr (by decide) pass0 (pv 6) rfl) (pe_callB (cl_sortedPO K) (by rfl) T.z_sorted (by decide +kernel) (pa_cons (pv 5) pa_nil)) (nomark _)) (pw_or1 (pt_cmpR op_ne (pe_callB (call_lenO o_WebD_lenD hr (by decide) pass0) (by rfl) T.z_len PySem.boot_len (pa_cons (pv 6) pa_nil)) (pv 4) (nomark _))))))
        (pss_one (ps_ret pe_bl)) pss_nil))))))))))))))
      (pss_one (ps_ret pe_bl)))), ?_⟩
    walk_at "go"
    refine x_sz (by show 2 ≤ 100000; decide) fun t1 ht1 => ?_
    walk_at "go"
    refine x_sz (by show 2 ≤ 100000; decide) fun t2 ht2 => ?_
    walk_at "go"
    refine x_sz (by show 2 ≤ 100000; decide) fun tl htl => ?_
    have s1 : Same H (upd (upd (upd H t1 (.tup [.int 0, .int 1])) t2 (.tup [.int 1, .int 2])) tl (.lst [.ref t1, .ref t2])) := ((same_new ht1).trans (same_new ht2)).trans (same_new htl)
    have hTl : TieL (upd (upd (upd H t1 (.tup [.int 0, .int 1])) t2 (.tup [.int 1, .int 2])) tl (.lst [.ref t1, .ref t2])) [.ref t1, .ref t2] [(0, 1), (1, 2)] :=
      .cons ⟨t1, rfl, new_at htl (new_at ht2 upd_same)⟩ (.cons ⟨t2, rfl, new_at htl upd_same⟩ .nil)
    have htl2 : (upd (upd (upd H t1 (.tup [.int 0, .int 1])) t2 (.tup [.int 1, .int 2])) tl (.lst [.ref t1, .ref t2])) tl = some (.lst [.ref t1, .ref t2]) := upd_same
    generalize upd (upd (upd H t1 (.tup [.int 0, .int 1])) t2 (.tup [.int 1, .int 2])) tl (.lst [.ref t1, .ref t2]) = H1 at *
    walk_at "go"
    intro x dx hx hdx dxx
    have s12 : Same H1 (upd (upd H1 dx (.own x)) x (.ins C dx [])) := fun b o e => by
      rw [upd_ne (ne_of_none e hx), upd_ne (ne_of_none e hdx)]
      exact e
    refine ⟨x, dx, tl, 3, _, [(0, 1), (1, 2)], rfl, upd_same, s12 _ _ htl2, hTl.same s12, ⟨by decide, by decide⟩, by decide, by decide, fun H2 k2 w2 => ⟨rfl, ?_⟩⟩
    have s13 : Same H1 H2 := fun b o e => k2 b o (s12 b o e) (ne_of_none e hx)
    have wo : WebAt C H2 x 3 (eOf [(0, 1), (1, 2)]) := w2.same nw_same
    have s2 := s1.trans s13
    have hs2 : SqL K H2 a (ns.map V.int) := s2.seq hs
    clear k2 w2 s12 s13 htl2 hTl s1 hx hdx dxx htl ht1 ht2
    walk_at "go"
    refine x_lenS hs2 ?_
    walk_at "go"
    refine x_fwR0 (fun i σ' H' => ∃ y2 y3 y4 y5 y6 y7 y8 y9, σ' = [some (.ref a), some (.ref x), y2, y3, y4, y5, y6, y7, y8, y9] ∧ Same H2 H') ⟨none, none, none, none, none, none, none, none, rfl, Same.refl _⟩ ?_ ?_
    · rintro i _ H3 hi ⟨y2, y3, y4, y5, y6, y7, y8, y9, rfl, s3⟩
      have hi6 : i < 7 := by
        revert hi
        split <;> split <;> omega
      walk_at "go"
      refine ⟨a, ns, i, rfl, s3.seq hs2, by omega, by omega, fun u H4 hu s4 u4 => ?_⟩
      have k4 : Keep u H3 H4 := Same.toKeep s4
      walk_at "go"
      refine x_pick (2 ^ 39 - 1) (by omega) (by omega) (u4.mono (by omega)) fun m0 H5 m00 m01 k5 u5 => ?_
      obtain ⟨m0, rfl⟩ := Int.eq_ofNat_of_zero_le m00
      have k05 := k4.trans k5
      walk_at "go"
      refine x_cut (fun σ' H' => ∃ m : Nat, σ' = [some (.ref a), some (.ref x), some (.int (i : Int)), some (.ref u), some (.int (m : Int)), y5, y6, y7, y8, y9] ∧ m ≤ 40 ∧ Keep u H3 H' ∧ UrnZ H' u (2 ^ 39 - 10)) ?_ ?_
      · walk_at "go"
        refine x_ite (fun c => ?_) (fun c => ?_)
        · walk_at "go"
          refine x_pick (2 ^ 39 - 2) (by omega) (by omega) (u5.mono (by omega)) fun m1 H6 m10 m11 k6 u6 => ?_
          walk_at "go"
          refine x_ite (fun c => ?_) (fun c => ?_)
          · walk_at "go"
            refine x_pick (2 ^ 39 - 3) (by omega) (by omega) (u6.mono (by omega)) fun m2 H7 m20 m21 k7 u7 => ?_
            obtain ⟨m2, rfl⟩ := Int.eq_ofNat_of_zero_le m20
            walk_at "go"
            exact ⟨m2, rfl, by omega, (k05.trans k6).trans k7, u7.mono (by omega)⟩
          · walk_at "go"
            exact ⟨m0, rfl, by omega, k05.trans k6, u6.mono (by omega)⟩
        · walk_at "go"
          exact ⟨m0, rfl, by omega, k05, u5.mono (by omega)⟩
      clear k05 u5 k5 m01
      rintro _ H5 ⟨m, rfl, hm, k5, u5⟩
      walk_at "go"
      refine ⟨u, m, 2 ^ 39 - 2000, rfl, by omega, u5.mono (by omega), fun pr H6 vp qs hpr k6 u6 hpr6 hq hqo hql => ?_⟩
      have pu : pr ≠ u := (u5.ne hpr).symm
      walk_at "go"
      refine ⟨u, m, 2 ^ 39 - 4000, rfl, by omega, u6.mono (by omega), fun o H7 os ho k7 u7 ho7 pmo => ?_⟩
      obtain ⟨us6, hus6⟩ := u6.some
      have hpr7 := k7.at hpr6 pu
      have hq7 := hq.keep k7 hus6
      walk_at "go"
      refine ⟨pr, o, m, vp, qs, os, rfl, hpr7, hq7, hqo, by omega, ho7, pmo, fun t H8 vt ps ht s8 ht8 hT8 tok hlen => ?_⟩
      have k8 := ((k5.trans k6).trans k7).same s8
      have u8 := u7.same s8
      walk_at "go"
      refine x_listOf ht8 fun t2 ht2 => ?_
      have k9 := keep_new (o := .lst vt) k8 ht2
      have ht9 := new_at (o := .lst vt) ht2 ht8
      have hT9 := hT8.same (same_new (o := .lst vt) ht2)
      have ht29 : upd H8 t2 (.lst vt) t2 = some (.lst vt) := upd_same
      have u9 := u8.same (same_new (o := .lst vt) ht2)
      generalize upd H8 t2 (.lst vt) = H9 at *
      walk_at "go"
      intro x2 dx2 hx2 hdx2 dxx2
      have s12 : Same H9 (upd (upd H9 dx2 (.own x2)) x2 (.ins C dx2 [])) := fun b o e => by
        rw [upd_ne (ne_of_none e hx2), upd_ne (ne_of_none e hdx2)]
        exact e
      refine ⟨x2, dx2, t2, m, _, ps, rfl, upd_same, s12 _ _ ht29, hT9.same s12, tok, by omega, by omega, fun H10 kx wx => ⟨rfl, ?_⟩⟩
      have s10 : Same H9 H10 := fun b o e => kx b o (s12 b o e) (ne_of_none e hx2)
      have w10 : WebAt C H10 x2 m (eOf ps) := wx.same nw_same
      have ht10 := s10 _ _ ht9
      have hT10 := hT9.same s10
      have k10 := k9.same s10
      have sm10 : Same H2 H10 := same_keep s3 k10 (s3.free hu)
      clear kx wx s12
      have g := tok.gr
      walk_at "go"
      refine ⟨x2, m, _, rfl, w10, g, by omega, fun r sa la H11 hr hsa hla nsl s11 hr11 hsa11 hla11 => ?_⟩
      have ht11 := s11 _ _ ht10
      have hT11 := hT10.same s11
      walk_at "go"
      refine ⟨t, r, sa, la, m, vt, ps, rfl, ht11, hT11, tok, by omega, by omega, hr11, hsa11, hla11, fun H12 s12 => ?_⟩
      have sm12 := (sm10.trans s11).trans s12
      walk_at "go"
      refine ⟨x, 3, _, rfl, wo.same sm12, TOk.gr ⟨by decide, by decide⟩, by decide, fun r3 sa3 la3 H13 hr3 hsa3 hla3 nsl3 s13 hr13 hsa13 hla13 => ?_⟩
      have e3 : struck 3 (eOf [(0, 1), (1, 2)]) = [0, 1] := by decide
      have e4 : rest 3 [0, 1] = [2] := by decide
      rw [e3] at hsa13 hla13
      rw [e4] at hla13
      walk_at "go"
      refine x_sz (by show 2 ≤ 100000; decide) fun c1 hc1 => ?_
      walk_at "go"
      refine x_sz (by show 1 ≤ 100000; decide) fun c2 hc2 => ?_
      walk_at "go"
      refine x_sz (by show 2 ≤ 100000; decide) fun c3 hc3 => ?_
      walk_at "go"
      have sc : Same H13 (upd (upd (upd H13 c1 (.lst [.int 0, .int 1])) c2 (.lst [.int 2])) c3 (.tup [.ref c1, .ref c2])) := ((same_new hc1).trans (same_new hc2)).trans (same_new hc3)
      refine x_neP (l' := [0, 1]) (m' := [2]) (sc _ _ hr13) (sc _ _ hsa13) (sc _ _ hla13) upd_same (new_at hc3 (new_at hc2 upd_same)) (new_at hc3 upd_same) ?_
      rw [decide_eq_true ⟨rfl, rfl⟩]
      have s1114 := (s12.trans s13).trans sc
      generalize upd (upd (upd H13 c1 (.lst [.int 0, .int 1])) c2 (.lst [.int 2])) c3 (.tup [.ref c1, .ref c2]) = H14 at *
      have hr14 := s1114 _ _ hr11
      have hsa14 := s1114 _ _ hsa11
      have hla14 := s1114 _ _ hla11
      have zs := (struck_ok m (eOf ps)).1.len
      have zl := rest_len m (struck m (eOf ps))
      have zs2 : (nv (struck m (eOf ps))).length < 100000 := by rw [nv_len]; omega
      have zl2 : (nv (rest m (struck m (eOf ps)))).length < 100000 := by rw [nv_len]; omega
      have rsa : r ≠ sa := ne_of hr14 hsa14 (fun z => nomatch z)
      have rla : r ≠ la := ne_of hr14 hla14 (fun z => nomatch z)
      have sa0 : H10 sa = none := hsa
      have la0 : H10 la = none := hla
      walk_at "go"
      refine ⟨la, _, 0, _, rfl, rfl, upd_at nsl.symm hla14, sz_lt zl2, by decide, by decide, ?_⟩
      have s15 : Same H10 (upd (upd H14 sa (.lst (nv (struck m (eOf ps)) ++ [V.int (m : Int)]))) la (.lst (List.take (Int.toNat 0) (nv (rest m (struck m (eOf ps)))) ++ [V.int (m : Int)] ++ List.drop (Int.toNat 0) (nv (rest m (struck m (eOf ps))))))) := same_mut (same_mut (s11.trans s1114) sa0) la0
      generalize upd (upd H14 sa (.lst (nv (struck m (eOf ps)) ++ [V.int (m : Int)]))) la (.lst (List.take (Int.toNat 0) (nv (rest m (struck m (eOf ps)))) ++ [V.int (m : Int)] ++ List.drop (Int.toNat 0) (nv (rest m (struck m (eOf ps)))))) = H15 at *
      walk_at "go"
      refine ⟨x2, m, _, rfl, w10.same s15, g, by omega, fun r sa la H16 hr hsa hla nsl s16 hr16 hsa16 hla16 => ?_⟩
      have s1016 := s15.trans s16
      have ht16 := s1016 _ _ ht10
      have hT16 := hT10.same s1016
      walk_at "go"
      refine ⟨t, r, sa, la, m, vt, ps, rfl, ht16, hT16, tok, by omega, by omega, hr16, hsa16, hla16, fun H17 s17 => ?_⟩
      have s1017 := s1016.trans s17
      have w17 := w10.same s1017
      have ht17 := s1017 _ _ ht10
      have hT17 := hT10.same s1017
      obtain ⟨dx3, d3, rows3, hx17, _⟩ := id w17.ex
      walk_at "go"
      refine ⟨x2, m, _, rfl, w17, by omega, fun fo H18 vf hfo s18 hf18 hTf => ?_⟩
      have ht18 := s18 _ _ ht17
      have hT18 := hT17.same s18
      walk_at "go"
      refine x_sortedT ht18 hT18 tok.nd fun ys rs p pm2 hys srt hp => ?_
      rw [← eOf_perm pm2, ties_eq (tok.perm pm2) srt] at hTf
      have s19 := same_new (o := .lst ys) hp
      refine x_neT (s19 _ _ hf18) (hTf.same s19) upd_same (hys.same s19) ?_
      rw [decide_eq_true rfl]
      have w19 := (w17.same s18).same s19
      have hx19 := s19 _ _ (s18 _ _ hx17)
      walk_at "go"
      refine ⟨x2, _, _, rfl, hx19, x2, m, _, rfl, w19, (m : Int), rfl, by omega, by omega, ?_⟩
      walk_at "go"
      exact ⟨_, _, _, _, _, _, _, _, rfl, (sm10.trans s1017).trans (s18.trans s19)⟩
    · rintro _ H3 ⟨y2, y3, y4, y5, y6, y7, y8, y9, rfl, s3⟩
      walk_at "go"
      exact q H3
end
theorem all_mk {l : PySem.W.OpenLaw} {w : World} {K : PySem.W.Frag} {h : Heap} {mg : Str → Option Value} {fa : Addr} {C_Web : Addr} {f0 : Addr} {oc0 kV0 dc0 pm0 cd0 ct0 : Value} {od0 an0 : Option Addr} {sl0 : Array (Option Value)} {f1 : Addr} {oc1 kV1 dc1 pm1 cd1 ct1 : Value} {od1 an1 : Option Addr} {sl1 : Array (Option Value)} {f2 : Addr} {oc2 kV2 dc2 pm2 cd2 ct2 : Value} {od2 an2 : Option Addr} {sl2 : Array (Option Value)} {f3 : Addr} {oc3 kV3 dc3 pm3 cd3 ct3 : Value} {od3 an3 : Option Addr} {sl3 : Array (Option Value)} {f4 : Addr} {oc4 kV4 dc4 pm4 cd4 ct4 : Value} {od4 an4 : Option Addr} {sl4 : Array (Option Value)} {p4 : Addr} {rs4 : List Value} {f5 : Addr} {oc5 kV5 dc5 pm5 cd5 ct5 : Value} {od5 an5 : Option Addr} {sl5 : Array (Option Value)} {f6 : Addr} {oc6 kV6 dc6 pm6 cd6 ct6 : Value} {od6 an6 : Option Addr} {sl6 : Array (Option Value)} {f7 : Addr} {oc7 kV7 dc7 pm7 cd7 ct7 : Value} {od7 an7 : Option Addr} {sl7 : Array (Option Value)} {f8 : Addr} {oc8 kV8 dc8 pm8 cd8 ct8 : Value} {od8 an8 : Option Addr} {sl8 : Array (Option Value)} {f9 : Addr} {oc9 kV9 dc9 pm9 cd9 ct9 : Value} {od9 an9 : Option Addr} {sl9 : Array (Option Value)} {f10 : Addr} {oc10 kV10 dc10 pm10 cd10 ct10 : Value} {od10 an10 : Option Addr} {sl10 : Array (Option Value)} {f11 : Addr} {oc11 kV11 dc11 pm11 cd11 ct11 : Value} {od11 an11 : Option Addr} {sl11 : Array (Option Value)} {f12 : Addr} {oc12 kV12 dc12 pm12 cd12 ct12 : Value} {od12 an12 : Option Addr} {sl12 : Array (Option Value)} {f13 : Addr} {oc13 kV13 dc13 pm13 cd13 ct13 : Value} {od13 an13 : Option Addr} {sl13 : Array (Option Value)} {f14 : Addr} {oc14 kV14 dc14 pm14 cd14 ct14 : Value} {od14 an14 : Option Addr} {sl14 : Array (Option Value)} {f15 : Addr} {oc15 kV15 dc15 pm15 cd15 ct15 : Value} {od15 an15 : Option Addr} {sl15 : Array (Option Value)} {f16 : Addr} {oc16 kV16 dc16 pm16 cd16 ct16 : Value} {od16 an16 : Option Addr} {sl16 : Array (Option Value)} {f17 : Addr} {oc17 kV17 dc17 pm17 cd17 ct17 : Value} {od17 an17 : Option Addr} {sl17 : Array (Option Value)} {f18 : Addr} {oc18 kV18 dc18 pm18 cd18 ct18 : Value} {od18 an18 : Option Addr} {sl18 : Array (Option Value)}
    (X : K.In h) (G : h.Ns mainGlobals mg) (hfa : mg "law" = some (.ref fa))
    (aC_Web : PySem.W.nsIn K mainGlobals "Web" = some (some (.ref C_Web)))
    (pg_Web : PySem.W.plainGet K C_Web Str.empty = true)
    (hd_Web : PySem.W.hasDictIn K C_Web = true)
    (po_Web : PySem.W.plainOver K C_Web = true)
    (sa_Web : PySem.W.findIn K (.ref C_Web) "__setattr__" = some (some (.builtin "object.__setattr__")))
    (mk_Web : PySem.W.makesIn K C_Web = true)
    (kc_Web : PySem.W.keepIn K (.ref C_Web) = true)
    (n_Web_beside : PySem.W.findIn K (.ref C_Web) "beside" = some none)
    (z_abs : PySem.W.nsIn K mainGlobals "abs" = some none)
    (z_all : PySem.W.nsIn K mainGlobals "all" = some none)
    (z_bool : PySem.W.nsIn K mainGlobals "bool" = some none)
    (z_int : PySem.W.nsIn K mainGlobals "int" = some none)
    (z_isinstance : PySem.W.nsIn K mainGlobals "isinstance" = some none)
    (z_len : PySem.W.nsIn K mainGlobals "len" = some none)
    (z_list : PySem.W.nsIn K mainGlobals "list" = some none)
    (z_max : PySem.W.nsIn K mainGlobals "max" = some none)
    (z_min : PySem.W.nsIn K mainGlobals "min" = some none)
    (z_property : PySem.W.nsIn K mainGlobals "property" = some none)
    (z_range : PySem.W.nsIn K mainGlobals "range" = some none)
    (z_sorted : PySem.W.nsIn K mainGlobals "sorted" = some none)
    (z_tuple : PySem.W.nsIn K mainGlobals "tuple" = some none)
    (a0 : PySem.W.nsIn K mainGlobals "is_integer" = some (some (.ref f0)))
    (l0 : K.lookup f0 = some ⟨oc0, od0, .func (PySem.W.fnOf "is_integer" "is_integer" (defArgs s_is_integer) (defBody s_is_integer) (defScope s_is_integer) .none kV0 dc0 pm0 an0 cd0 ct0), sl0⟩)
    (c0 : PySem.W.codeIn K cd0 "is_integer" = true)
    (k0 : PySem.W.keepIn K (.ref f0) = true)
    (a1 : PySem.W.nsIn K mainGlobals "is_tie" = some (some (.ref f1)))
    (l1 : K.lookup f1 = some ⟨oc1, od1, .func (PySem.W.fnOf "is_tie" "is_tie" (defArgs s_is_tie) (defBody s_is_tie) (defScope s_is_tie) .none kV1 dc1 pm1 an1 cd1 ct1), sl1⟩)
    (c1 : PySem.W.codeIn K cd1 "is_tie" = true)
    (k1 : PySem.W.keepIn K (.ref f1) = true)
    (a2 : PySem.W.findIn K (.ref C_Web) "__init__" = some (some (.ref f2)))
    (i2 : PySem.W.isFn K (.ref f2) = true)
    (l2 : K.lookup f2 = some ⟨oc2, od2, .func (PySem.W.fnOf "__init__" "Web.__init__" (defArgs s_WebD_initD) (defBody s_WebD_initD) (defScope s_WebD_initD) .none kV2 dc2 pm2 an2 cd2 ct2), sl2⟩)
    (c2 : PySem.W.codeIn K cd2 "Web.__init__" = true)
    (k2 : PySem.W.keepIn K (.ref f2) = true)
    (a3 : PySem.W.findIn K (.ref C_Web) "__len__" = some (some (.ref f3)))
    (i3 : PySem.W.isFn K (.ref f3) = true)
    (l3 : K.lookup f3 = some ⟨oc3, od3, .func (PySem.W.fnOf "__len__" "Web.__len__" (defArgs s_WebD_lenD) (defBody s_WebD_lenD) (defScope s_WebD_lenD) .none kV3 dc3 pm3 an3 cd3 ct3), sl3⟩)
    (c3 : PySem.W.codeIn K cd3 "Web.__len__" = true)
    (k3 : PySem.W.keepIn K (.ref f3) = true)
    (a4 : PySem.W.findIn K (.ref C_Web) "ties" = some (some (.ref p4)))
    (g4 : PySem.W.specialIn K (.ref p4) "__get__" = some (some (.builtin "property.__get__")))
    (t4 : PySem.W.takesIn K (.ref p4) = some true)
    (r4 : PySem.W.recIn K p4 "property" = some (.ref f4 :: rs4))
    (l4 : K.lookup f4 = some ⟨oc4, od4, .func (PySem.W.fnOf "ties" "Web.ties" (defArgs s_Web_ties) (defBody s_Web_ties) (defScope s_Web_ties) .none kV4 dc4 pm4 an4 cd4 ct4), sl4⟩)
    (c4 : PySem.W.codeIn K cd4 "Web.ties" = true)
    (k4 : PySem.W.keepIn K (.ref f4) = true)
    (a5 : PySem.W.findIn K (.ref C_Web) "is_place" = some (some (.ref f5)))
    (i5 : PySem.W.isFn K (.ref f5) = true)
    (l5 : K.lookup f5 = some ⟨oc5, od5, .func (PySem.W.fnOf "is_place" "Web.is_place" (defArgs s_Web_is_place) (defBody s_Web_is_place) (defScope s_Web_is_place) .none kV5 dc5 pm5 an5 cd5 ct5), sl5⟩)
    (c5 : PySem.W.codeIn K cd5 "Web.is_place" = true)
    (k5 : PySem.W.keepIn K (.ref f5) = true)
    (a6 : PySem.W.findIn K (.ref C_Web) "neighbours" = some (some (.ref f6)))
    (i6 : PySem.W.isFn K (.ref f6) = true)
    (l6 : K.lookup f6 = some ⟨oc6, od6, .func (PySem.W.fnOf "neighbours" "Web.neighbours" (defArgs s_Web_neighbours) (defBody s_Web_neighbours) (defScope s_Web_neighbours) .none kV6 dc6 pm6 an6 cd6 ct6), sl6⟩)
    (c6 : PySem.W.codeIn K cd6 "Web.neighbours" = true)
    (k6 : PySem.W.keepIn K (.ref f6) = true)
    (a7 : PySem.W.nsIn K mainGlobals "core" = some (some (.ref f7)))
    (l7 : K.lookup f7 = some ⟨oc7, od7, .func (PySem.W.fnOf "core" "core" (defArgs s_core) (defBody s_core) (defScope s_core) .none kV7 dc7 pm7 an7 cd7 ct7), sl7⟩)
    (c7 : PySem.W.codeIn K cd7 "core" = true)
    (k7 : PySem.W.keepIn K (.ref f7) = true)
    (a8 : PySem.W.nsIn K mainGlobals "_law_jar" = some (some (.ref f8)))
    (l8 : K.lookup f8 = some ⟨oc8, od8, .func (PySem.W.fnOf "_law_jar" "_law_jar" (defArgs s_l_jar) (defBody s_l_jar) (defScope s_l_jar) .none kV8 dc8 pm8 an8 cd8 ct8), sl8⟩)
    (c8 : PySem.W.codeIn K cd8 "_law_jar" = true)
    (k8 : PySem.W.keepIn K (.ref f8) = true)
    (a9 : PySem.W.nsIn K mainGlobals "_law_draw" = some (some (.ref f9)))
    (l9 : K.lookup f9 = some ⟨oc9, od9, .func (PySem.W.fnOf "_law_draw" "_law_draw" (defArgs s_l_draw) (defBody s_l_draw) (defScope s_l_draw) .none kV9 dc9 pm9 an9 cd9 ct9), sl9⟩)
    (c9 : PySem.W.codeIn K cd9 "_law_draw" = true)
    (k9 : PySem.W.keepIn K (.ref f9) = true)
    (a10 : PySem.W.nsIn K mainGlobals "_law_order" = some (some (.ref f10)))
    (l10 : K.lookup f10 = some ⟨oc10, od10, .func (PySem.W.fnOf "_law_order" "_law_order" (defArgs s_l_order) (defBody s_l_order) (defScope s_l_order) .none kV10 dc10 pm10 an10 cd10 ct10), sl10⟩)
    (c10 : PySem.W.codeIn K cd10 "_law_order" = true)
    (k10 : PySem.W.keepIn K (.ref f10) = true)
    (a11 : PySem.W.nsIn K mainGlobals "_law_ties" = some (some (.ref f11)))
    (l11 : K.lookup f11 = some ⟨oc11, od11, .func (PySem.W.fnOf "_law_ties" "_law_ties" (defArgs s_l_ties) (defBody s_l_ties) (defScope s_l_ties) .none kV11 dc11 pm11 an11 cd11 ct11), sl11⟩)
    (c11 : PySem.W.codeIn K cd11 "_law_ties" = true)
    (k11 : PySem.W.keepIn K (.ref f11) = true)
    (a12 : PySem.W.nsIn K mainGlobals "_law_whole" = some (some (.ref f12)))
    (l12 : K.lookup f12 = some ⟨oc12, od12, .func (PySem.W.fnOf "_law_whole" "_law_whole" (defArgs s_l_whole) (defBody s_l_whole) (defScope s_l_whole) .none kV12 dc12 pm12 an12 cd12 ct12), sl12⟩)
    (c12 : PySem.W.codeIn K cd12 "_law_whole" = true)
    (k12 : PySem.W.keepIn K (.ref f12) = true)
    (a13 : PySem.W.nsIn K mainGlobals "_law_places" = some (some (.ref f13)))
    (l13 : K.lookup f13 = some ⟨oc13, od13, .func (PySem.W.fnOf "_law_places" "_law_places" (defArgs s_l_places) (defBody s_l_places) (defScope s_l_places) .none kV13 dc13 pm13 an13 cd13 ct13), sl13⟩)
    (c13 : PySem.W.codeIn K cd13 "_law_places" = true)
    (k13 : PySem.W.keepIn K (.ref f13) = true)
    (a14 : PySem.W.nsIn K mainGlobals "_law_pairs" = some (some (.ref f14)))
    (l14 : K.lookup f14 = some ⟨oc14, od14, .func (PySem.W.fnOf "_law_pairs" "_law_pairs" (defArgs s_l_pairs) (defBody s_l_pairs) (defScope s_l_pairs) .none kV14 dc14 pm14 an14 cd14 ct14), sl14⟩)
    (c14 : PySem.W.codeIn K cd14 "_law_pairs" = true)
    (k14 : PySem.W.keepIn K (.ref f14) = true)
    (a15 : PySem.W.nsIn K mainGlobals "_law_near" = some (some (.ref f15)))
    (l15 : K.lookup f15 = some ⟨oc15, od15, .func (PySem.W.fnOf "_law_near" "_law_near" (defArgs s_l_near) (defBody s_l_near) (defScope s_l_near) .none kV15 dc15 pm15 an15 cd15 ct15), sl15⟩)
    (c15 : PySem.W.codeIn K cd15 "_law_near" = true)
    (k15 : PySem.W.keepIn K (.ref f15) = true)
    (a16 : PySem.W.nsIn K mainGlobals "_law_struck_right" = some (some (.ref f16)))
    (l16 : K.lookup f16 = some ⟨oc16, od16, .func (PySem.W.fnOf "_law_struck_right" "_law_struck_right" (defArgs s_l_struck_right) (defBody s_l_struck_right) (defScope s_l_struck_right) .none kV16 dc16 pm16 an16 cd16 ct16), sl16⟩)
    (c16 : PySem.W.codeIn K cd16 "_law_struck_right" = true)
    (k16 : PySem.W.keepIn K (.ref f16) = true)
    (a17 : PySem.W.nsIn K mainGlobals "_law_answer_right" = some (some (.ref f17)))
    (l17 : K.lookup f17 = some ⟨oc17, od17, .func (PySem.W.fnOf "_law_answer_right" "_law_answer_right" (defArgs s_l_answer_right) (defBody s_l_answer_right) (defScope s_l_answer_right) .none kV17 dc17 pm17 an17 cd17 ct17), sl17⟩)
    (c17 : PySem.W.codeIn K cd17 "_law_answer_right" = true)
    (k17 : PySem.W.keepIn K (.ref f17) = true)
    (a18 : PySem.W.nsIn K mainGlobals "law" = some (some (.ref f18)))
    (l18 : K.lookup f18 = some ⟨oc18, od18, .func (PySem.W.fnOf "law" "law" (defArgs s_law) (defBody s_law) (defScope s_law) .none kV18 dc18 pm18 an18 cd18 ct18), sl18⟩)
    (c18 : PySem.W.codeIn K cd18 "law" = true)
    (k18 : PySem.W.keepIn K (.ref f18) = true) :
    ∃ fd : FuncData, (∀ (s : Shared) (v : Value), BindsTo s fd ⟨[v], []⟩ [("script", v)]) ∧ ∀ base : Heap, K.In base → base.Ns mainGlobals mg → FnOk l.prog w K mg base CX0 5 fa fd ["script"] (spLaw K) := by
  have e := hfa.symm.trans (PySem.W.mg_of X G a18)
  cases e
  have O_Web : Own K mg "Web" C_Web := own_mk X G aC_Web pg_Web hd_Web po_Web sa_Web mk_Web kc_Web
  have n_Web_beside : NoAttr K C_Web "beside" := n_Web_beside
  have T : Tx mg := ⟨PySem.W.mg_none_of X G z_abs, PySem.W.mg_none_of X G z_all, PySem.W.mg_none_of X G z_bool, PySem.W.mg_none_of X G z_int, PySem.W.mg_none_of X G z_isinstance, PySem.W.mg_none_of X G z_len, PySem.W.mg_none_of X G z_list, PySem.W.mg_none_of X G z_max, PySem.W.mg_none_of X G z_min, PySem.W.mg_none_of X G z_property, PySem.W.mg_none_of X G z_range, PySem.W.mg_none_of X G z_sorted, PySem.W.mg_none_of X G z_tuple⟩
  have D_is_integer : DefAt K mg "is_integer" s_is_integer ["value"] := defAt_mk X G a0 l0 c0 k0 (fun _ _ _ _ _ _ us hl => match us, hl with | [_], _ => rfl)
  have D_is_tie : DefAt K mg "is_tie" s_is_tie ["places", "value"] := defAt_mk X G a1 l1 c1 k1 (fun _ _ _ _ _ _ us hl => match us, hl with | [_, _], _ => rfl)
  have D_WebD_initD : MetAt K C_Web "__init__" "Web.__init__" s_WebD_initD ["self", "places", "ties"] := metAt_mk a2 i2 l2 c2 k2 (fun _ _ _ _ _ _ us hl => match us, hl with | [_, _, _], _ => rfl)
  have D_WebD_lenD : MetAt K C_Web "__len__" "Web.__len__" s_WebD_lenD ["self"] := metAt_mk a3 i3 l3 c3 k3 (fun _ _ _ _ _ _ us hl => match us, hl with | [_], _ => rfl)
  have D_Web_ties : PrpAt K C_Web "ties" "Web.ties" s_Web_ties := prpAt_mk a4 g4 t4 r4 l4 c4 k4 (fun _ _ _ _ _ _ us hl => match us, hl with | [_], _ => rfl)
  have D_Web_is_place : MetAt K C_Web "is_place" "Web.is_place" s_Web_is_place ["self", "value"] := metAt_mk a5 i5 l5 c5 k5 (fun _ _ _ _ _ _ us hl => match us, hl with | [_, _], _ => rfl)
  have D_Web_neighbours : MetAt K C_Web "neighbours" "Web.neighbours" s_Web_neighbours ["self", "place"] := metAt_mk a6 i6 l6 c6 k6 (fun _ _ _ _ _ _ us hl => match us, hl with | [_, _], _ => rfl)
  have D_core : DefAt K mg "core" s_core ["web"] := defAt_mk X G a7 l7 c7 k7 (fun _ _ _ _ _ _ us hl => match us, hl with | [_], _ => rfl)
  have D_l_jar : DefAt K mg "_law_jar" s_l_jar ["script", "k"] := defAt_mk X G a8 l8 c8 k8 (fun _ _ _ _ _ _ us hl => match us, hl with | [_, _], _ => rfl)
  have D_l_draw : DefAt K mg "_law_draw" s_l_draw ["jar", "many"] := defAt_mk X G a9 l9 c9 k9 (fun _ _ _ _ _ _ us hl => match us, hl with | [_, _], _ => rfl)
  have D_l_order : DefAt K mg "_law_order" s_l_order ["jar", "many"] := defAt_mk X G a10 l10 c10 k10 (fun _ _ _ _ _ _ us hl => match us, hl with | [_, _], _ => rfl)
  have D_l_ties : DefAt K mg "_law_ties" s_l_ties ["pairs", "order"] := defAt_mk X G a11 l11 c11 k11 (fun _ _ _ _ _ _ us hl => match us, hl with | [_, _], _ => rfl)
  have D_l_whole : DefAt K mg "_law_whole" s_l_whole ["found"] := defAt_mk X G a12 l12 c12 k12 (fun _ _ _ _ _ _ us hl => match us, hl with | [_], _ => rfl)
  have D_l_places : DefAt K mg "_law_places" s_l_places ["found"] := defAt_mk X G a13 l13 c13 k13 (fun _ _ _ _ _ _ us hl => match us, hl with | [_], _ => rfl)
  have D_l_pairs : DefAt K mg "_law_pairs" s_l_pairs ["jar", "many"] := defAt_mk X G a14 l14 c14 k14 (fun _ _ _ _ _ _ us hl => match us, hl with | [_, _], _ => rfl)
  have D_l_near : DefAt K mg "_law_near" s_l_near ["many", "ties"] := defAt_mk X G a15 l15 c15 k15 (fun _ _ _ _ _ _ us hl => match us, hl with | [_, _], _ => rfl)
  have D_l_struck_right : DefAt K mg "_law_struck_right" s_l_struck_right ["many", "ties", "struck", "left"] := defAt_mk X G a16 l16 c16 k16 (fun _ _ _ _ _ _ us hl => match us, hl with | [_, _, _, _], _ => rfl)
  have D_l_answer_right : DefAt K mg "_law_answer_right" s_l_answer_right ["many", "ties", "found"] := defAt_mk X G a17 l17 c17 k17 (fun _ _ _ _ _ _ us hl => match us, hl with | [_, _, _], _ => rfl)
  refine ⟨PySem.W.fnOf "law" "law" (defArgs s_law) (defBody s_law) (defScope s_law) .none kV18 dc18 pm18 an18 cd18 ct18, fun s v => .of_eq rfl, fun base _ _ => ?_⟩
  have q1 := c_is_integer (base := base) (P := l.prog) (w := w) (K := K) T D_is_integer
  have q2 := c_is_tie (base := base) (P := l.prog) (w := w) (K := K) T D_is_tie q1
  have q3 := m_Web_init (base := base) (P := l.prog) (w := w) T O_Web n_Web_beside D_WebD_initD q1 q2
  have q4 := o_Web_len (base := base) (P := l.prog) (w := w) T O_Web n_Web_beside D_WebD_lenD
  have q5 := p_Web_ties (base := base) (P := l.prog) (w := w) T O_Web n_Web_beside D_Web_ties
  have q6 := m_Web_is_place (base := base) (P := l.prog) (w := w) T O_Web n_Web_beside D_Web_is_place q1
  have q7 := m_Web_neighbours (base := base) (P := l.prog) (w := w) T O_Web n_Web_beside D_Web_neighbours q6
  have q8 := c_core (base := base) (P := l.prog) (w := w) T O_Web D_core q7 q4
  have q9 := c_l_jar (base := base) (P := l.prog) (w := w) (K := K) T D_l_jar
  have q10 := c_l_draw (base := base) (P := l.prog) (w := w) (K := K) T D_l_draw
  have q11 := c_l_order (base := base) (P := l.prog) (w := w) (K := K) T D_l_order q10
  have q12 := c_l_ties (base := base) (P := l.prog) (w := w) (K := K) T D_l_ties
  have q13 := c_l_pairs (base := base) (P := l.prog) (w := w) (K := K) T D_l_pairs q10
  have q14 := c_l_whole (base := base) (P := l.prog) (w := w) (K := K) T D_l_whole
  have q15 := c_l_places (base := base) (P := l.prog) (w := w) (K := K) T D_l_places q14
  have q16 := c_l_near (base := base) (P := l.prog) (w := w) (K := K) T D_l_near
  have q17 := c_l_struck_right (base := base) (P := l.prog) (w := w) (K := K) T D_l_struck_right q16
  have q18 := c_l_answer_right (base := base) (P := l.prog) (w := w) (K := K) T D_l_answer_right q15 q17
  exact ok_law T O_Web (fun_mk l18 c18 k18) q3 q4 q5 q8 q9 q10 q11 q12 q13 q18
end OC
open PySem PySem.W PyProof.Rows
set_option maxRecDepth 100000 in
set_option maxHeartbeats 0 in
theorem PySem.Challenge.cw_ownhues_k24_whole_places_struck_in_order_holds : PySem.Challenge.rw_ownhues_k24_whole_places_struck_in_order.Holds := by
  w_on; o_law; k_head; (case hw => w_witness2)
  k_fill
  refine L2.walk_of (l := PySem.Challenge.rw_ownhues_k24_whole_places_struck_in_order) (n := 63) (k := 5) (x := "script") (CX := fun _ => L2.CX0) (sp := fun w => OC.spLaw _) rfl (by decide) rfl ⟨rfl, by decide, by decide⟩ (fun w h Y => PySem.W.kIn_of Y) ?F (fun _ _ a ns hl _ hS => ⟨a, ns, rfl, hS, hl, fun _ => rfl⟩) (fun _ _ _ _ _ h => h)
  case F =>
    intro w mg fa h KX G hmg
    refine' OC.all_mk KX G hmg ?aC_Web ?pg_Web ?hd_Web ?po_Web ?sa_Web ?mk_Web ?kc_Web ?n_Web_beside ?z_abs ?z_all ?z_bool ?z_int ?z_isinstance ?z_len ?z_list ?z_max ?z_min ?z_property ?z_range ?z_sorted ?z_tuple ?a0 ?l0 ?c0 ?k0 ?a1 ?l1 ?c1 ?k1 ?a2 ?i2 ?l2 ?c2 ?k2 ?a3 ?i3 ?l3 ?c3 ?k3 ?a4 ?g4 ?t4 ?r4 ?l4 ?c4 ?k4 ?a5 ?i5 ?l5 ?c5 ?k5 ?a6 ?i6 ?l6 ?c6 ?k6 ?a7 ?l7 ?c7 ?k7 ?a8 ?l8 ?c8 ?k8 ?a9 ?l9 ?c9 ?k9 ?a10 ?l10 ?c10 ?k10 ?a11 ?l11 ?c11 ?k11 ?a12 ?l12 ?c12 ?k12 ?a13 ?l13 ?c13 ?k13 ?a14 ?l14 ?c14 ?k14 ?a15 ?l15 ?c15 ?k15 ?a16 ?l16 ?c16 ?k16 ?a17 ?l17 ?c17 ?k17 ?a18 ?l18 ?c18 ?k18
    (case aC_Web => k_is); (case pg_Web => k_is); (case hd_Web => k_is); (case po_Web => k_is); (case sa_Web => k_is); (case mk_Web => k_is); (case kc_Web => k_is); (case n_Web_beside => k_is)
    (case z_abs => k_is); (case z_all => k_is); (case z_bool => k_is); (case z_int => k_is); (case z_isinstance => k_is); (case z_len => k_is); (case z_list => k_is); (case z_max => k_is)
    (case z_min => k_is); (case z_property => k_is); (case z_range => k_is); (case z_sorted => k_is); (case z_tuple => k_is); (case a0 => k_is); (case l0 => k_is); (case c0 => k_is)
    (case k0 => k_is); (case a1 => k_is); (case l1 => k_is); (case c1 => k_is); (case k1 => k_is); (case a2 => k_is); (case i2 => k_is); (case l2 => k_is)
    (case c2 => k_is); (case k2 => k_is); (case a3 => k_is); (case i3 => k_is); (case l3 => k_is); (case c3 => k_is); (case k3 => k_is); (case a4 => k_is)
    (case g4 => k_is); (case t4 => k_is); (case r4 => k_is); (case l4 => k_is); (case c4 => k_is); (case k4 => k_is); (case a5 => k_is); (case i5 => k_is)
    (case l5 => k_is); (case c5 => k_is); (case k5 => k_is); (case a6 => k_is); (case i6 => k_is); (case l6 => k_is); (case c6 => k_is); (case k6 => k_is)
    (case a7 => k_is); (case l7 => k_is); (case c7 => k_is); (case k7 => k_is); (case a8 => k_is); (case l8 => k_is); (case c8 => k_is); (case k8 => k_is)
    (case a9 => k_is); (case l9 => k_is); (case c9 => k_is); (case k9 => k_is); (case a10 => k_is); (case l10 => k_is); (case c10 => k_is); (case k10 => k_is)
    (case a11 => k_is); (case l11 => k_is); (case c11 => k_is); (case k11 => k_is); (case a12 => k_is); (case l12 => k_is); (case c12 => k_is); (case k12 => k_is)
    (case a13 => k_is); (case l13 => k_is); (case c13 => k_is); (case k13 => k_is); (case a14 => k_is); (case l14 => k_is); (case c14 => k_is); (case k14 => k_is)
    (case a15 => k_is); (case l15 => k_is); (case c15 => k_is); (case k15 => k_is); (case a16 => k_is); (case l16 => k_is); (case c16 => k_is); (case k16 => k_is)
    (case a17 => k_is); (case l17 => k_is); (case c17 => k_is); (case k17 => k_is); (case a18 => k_is); (case l18 => k_is); (case c18 => k_is); (case k18 => k_is)
