import PyProof.Rows.All
import Wide.All
import OpenK.AllK
import Wide.FinOn
import HandS.ForMost
import HandS.ForExc
import HandS.Wide
import HandS.SortInts
import HandS.SortRule
import HandS.Conv
import HandS.IsInst
import HandS.Deep
import HandS.Property
import HandS.Evl
import HandS.Style
import HandS.More
import HandS.ExcOwn
import HandS.ExcIs
import HandS.TryOnly
import HandS.WordsExc
import HandS.Iter
import HandS.Flow
import HandS.NoneIn
import HandS.DictComp
import KE.SortKeyed
import HandS.DictTup
import HandS.Nested
import HandS.EndTab
import HandS.HeadWalk
import KE.KDictZip
import KE.SortData
import KE.DataCmp
import HandS.Star
import HandS.SortKw
import KE.KSortKey
import PySem.Challenge.RW_ownhues_k64_first_winning_turns

set_option Elab.async false
set_option linter.all false
set_option maxRecDepth 100000
set_option maxHeartbeats 4000000
/-! OC: short steps through a reading, own lemmas. -/
namespace OC
open PySem PySem.Spec PyProof.Rows L2
abbrev St := L2.St

/-! ### heaps -/
/-- all but u is as it was -/
def Keep (u : Addr) (H H' : Hp) : Prop := ∀ a o, H a = some o → a ≠ u → H' a = some o
theorem Keep.refl {u : Addr} (H : Hp) : Keep u H H := fun _ _ h _ => h
theorem Keep.trans {u : Addr} {H H1 H2 : Hp} (a : Keep u H H1) (b : Keep u H1 H2) : Keep u H H2 := fun x o h n => b x o (a x o h n) n
theorem Keep.same {u : Addr} {H H1 H2 : Hp} (a : Keep u H H1) (b : Same H1 H2) : Keep u H H2 := fun x o h n => b x o (a x o h n)
theorem Same.keep {u : Addr} {H H1 H2 : Hp} (a : Same H H1) (b : Keep u H1 H2) : Keep u H H2 := fun x o h n => b x o (a x o h) n
theorem Same.toKeep {u : Addr} {H H1 : Hp} (a : Same H H1) : Keep u H H1 := fun x o h _ => a x o h
theorem Keep.at {u a : Addr} {H H' : Hp} {o : HO} (k : Keep u H H') (h : H a = some o) (n : a ≠ u) : H' a = some o := k a o h n
theorem sat {a : Addr} {H H' : Hp} {o : HO} (k : Same H H') (h : H a = some o) : H' a = some o := k a o h
theorem same_new {H : Hp} {p : Addr} {o : HO} (h : H p = none) : Same H (upd H p o) := fun b x e => by
  rw [upd_ne (ne_of_none e h)]
  exact e
theorem new_at {H : Hp} {p a : Addr} {o x : HO} (h : H p = none) (e : H a = some x) : upd H p o a = some x := same_new h a x e
theorem upd_at {H : Hp} {p a : Addr} {o x : HO} (n : a ≠ p) (e : H a = some x) : upd H p o a = some x := by
  rw [upd_ne n]
  exact e
theorem upd_none {H : Hp} {p a : Addr} {o : HO} (n : a ≠ p) (e : H a = none) : upd H p o a = none := by
  rw [upd_ne n]
  exact e
/-- what H does not know may change -/
theorem same_mut {H H' : Hp} {p : Addr} {o : HO} (e : Same H H') (h : H p = none) : Same H (upd H' p o) := fun a x q => by
  rw [upd_ne (ne_of_none q h)]
  exact e a x q
theorem keep_mut {u p : Addr} {H H' : Hp} {o : HO} (e : Keep u H H') (h : H p = none) : Keep u H (upd H' p o) := fun a x q n => by
  rw [upd_ne (ne_of_none q h)]
  exact e a x q n
theorem keep_self {u : Addr} {H H' : Hp} {o : HO} (e : Keep u H H') : Keep u H (upd H' u o) := fun a x q n => by
  rw [upd_ne n]
  exact e a x q n
theorem keep_new {u p : Addr} {H H' : Hp} {o : HO} (e : Keep u H H') (h : H' p = none) : Keep u H (upd H' p o) := e.same (same_new h)
theorem sq_l {K : PySem.W.Frag} {H : Hp} {a : Addr} {xs : List V} (h : H a = some (.lst xs)) : SqL K H a xs := .inl (.inl h)
theorem sq_t {K : PySem.W.Frag} {H : Hp} {a : Addr} {xs : List V} (h : H a = some (.tup xs)) : SqT K H a xs := .inl (.inl h)

/-! ### steps through a reading -/
section
variable {K : PySem.W.Frag} {σ : St} {H : Hp} {ta tb te tc : TE} {t u : TT} {ts us : TS} {Q : VK} {n r b c : St → Hp → Prop} {rt : VK} {bk ct : St → Hp → Prop}
theorem x_seq (h : ts ⟨us ⟨n, rt, bk, ct⟩, rt, bk, ct⟩ σ H) : tSeq ts us ⟨n, rt, bk, ct⟩ σ H := h
theorem x_next (h : n σ H) : tNext ⟨n, rt, bk, ct⟩ σ H := h
theorem x_break (h : bk σ H) : tBreak ⟨n, rt, bk, ct⟩ σ H := h
theorem x_cont (h : ct σ H) : tCont ⟨n, rt, bk, ct⟩ σ H := h
theorem x_asg {g : TG} (h : te σ H fun x H1 => g x σ H1 n) : tAsg te g ⟨n, rt, bk, ct⟩ σ H := h
theorem x_name {i : Nat} {v : V} {Qs : St → Hp → Prop} {σ' : St} (e : σ.set i (some v) = σ') (h : Qs σ' H) : gName i v σ H Qs := by
  subst e
  exact h
theorem x_drop (h : te σ H fun _ H1 => n σ H1) : tDrop te ⟨n, rt, bk, ct⟩ σ H := h
theorem x_ret (h : te σ H rt) : tRet te ⟨n, rt, bk, ct⟩ σ H := h
theorem x_retN (h : rt .non H) : tRetN ⟨n, rt, bk, ct⟩ σ H := h
theorem x_ifs (h : t σ H fun z H1 => if z = true then ts ⟨n, rt, bk, ct⟩ σ H1 else us ⟨n, rt, bk, ct⟩ σ H1) : tIfS t ts us ⟨n, rt, bk, ct⟩ σ H := h
theorem x_var {i : Nat} {v : V} (e : σ[i]? = some (some v)) (h : Q v H) : tVar i σ H Q := ⟨v, e, h⟩
theorem x_c {v : V} (h : Q v H) : tC v σ H Q := h
theorem x_op {r : R2} (h : ta σ H fun x H1 => tb σ H1 fun y H2 => r x y H2 Q) : tOp r ta tb σ H Q := h
theorem x_un {r : V → Hp → VK → Prop} (h : ta σ H fun x H1 => r x H1 Q) : tUn r ta σ H Q := h
theorem x_I0 {g : Int → Int → V} {i j : Int} (h : Q (g i j) H) : rI0 g (.int i) (.int j) H Q := ⟨i, j, rfl, rfl, h⟩
theorem x_I {C : Int → Int → Prop} {g : Int → Int → V} {i j : Int} (c : C i j) (h : Q (g i j) H) : rI C g (.int i) (.int j) H Q := ⟨i, j, rfl, rfl, c, h⟩
theorem x_U {g : Int → V} {i : Int} (h : Q (g i) H) : rU g (.int i) H Q := ⟨i, rfl, h⟩
theorem x_test {Qb : Bool → Hp → Prop} {f : TE} (h : f σ H fun x H1 => ∃ k, x = .bl k ∧ Qb k H1) : tTest f σ H Qb := h
theorem x_B {Qb : Bool → Hp → Prop} (h : te σ H fun x H1 => ∃ k, x = .bl k ∧ Qb k H1) : tB te σ H Qb := h
theorem x_bl {z : Bool} {P : Bool → Prop} (h : P z) : ∃ k, V.bl z = .bl k ∧ P k := ⟨z, rfl, h⟩
theorem x_not {Qb : Bool → Hp → Prop} (h : t σ H fun z H1 => Qb (!z) H1) : tNot t σ H Qb := h
theorem x_and {Qb : Bool → Hp → Prop} (h : t σ H fun z H1 => if z = true then u σ H1 Qb else Qb false H1) : tAnd t u σ H Qb := h
theorem x_or {Qb : Bool → Hp → Prop} (h : t σ H fun z H1 => if z = true then Qb true H1 else u σ H1 Qb) : tOr t u σ H Qb := h
theorem x_and' {p q : Prop} {dp : Decidable p} {dq : Decidable q} {Qb : Bool → Hp → Prop} (h1 : ∀ R : Bool → Hp → Prop, R (decide p) H → t σ H R) (h2 : p → ∀ R : Bool → Hp → Prop, R (decide q) H → u σ H R) (h : Qb (decide (p ∧ q)) H) : tAnd t u σ H Qb := by
  refine h1 _ ?_
  by_cases c : p
  · rw [decide_eq_true c]
    refine h2 c _ ?_
    have e : decide (p ∧ q) = decide q := by simp [c]
    rw [e] at h
    exact h
  · rw [decide_eq_false c]
    have e : decide (p ∧ q) = false := by simp [c]
    rw [e] at h
    exact h
theorem x_or' {p q : Prop} {dp : Decidable p} {dq : Decidable q} {Qb : Bool → Hp → Prop} (h1 : ∀ R : Bool → Hp → Prop, R (decide p) H → t σ H R) (h2 : ¬ p → ∀ R : Bool → Hp → Prop, R (decide q) H → u σ H R) (h : Qb (decide (p ∨ q)) H) : tOr t u σ H Qb := by
  refine h1 _ ?_
  by_cases c : p
  · rw [decide_eq_true c]
    have e : decide (p ∨ q) = true := by simp [c]
    rw [e] at h
    exact h
  · rw [decide_eq_false c]
    refine h2 c _ ?_
    have e : decide (p ∨ q) = decide q := by simp [c]
    rw [e] at h
    exact h
theorem x_andV (h : ta σ H fun x H1 => ∃ k, x = .bl k ∧ if k = true then tb σ H1 Q else Q (.bl false) H1) : tAndV ta tb σ H Q := h
theorem x_orV (h : ta σ H fun x H1 => ∃ k, x = .bl k ∧ if k = true then Q (.bl true) H1 else tb σ H1 Q) : tOrV ta tb σ H Q := h
theorem x_notV (h : ta σ H fun x H1 => ∃ k, x = .bl k ∧ Q (.bl (!k)) H1) : tNotV ta σ H Q := h
theorem x_if {t : TT} (h : t σ H fun z H1 => if z = true then ta σ H1 Q else tb σ H1 Q) : tIf t ta tb σ H Q := h
theorem x_eq {x y : V} (s : scal x y = true) (h : Q (.bl (decide (x = y))) H) : rEq x y H Q := ⟨s, h⟩
theorem x_ne {x y : V} (s : scal x y = true) (h : Q (.bl (!decide (x = y))) H) : rNe x y H Q := ⟨s, h⟩
theorem x_eqI {i j : Int} (h : Q (.bl (decide (i = j))) H) : rEq (.int i) (.int j) H Q := ⟨rfl, by
  have e : decide (V.int i = V.int j) = decide (i = j) := by
    by_cases q : i = j
    · subst q; simp
    · rw [decide_eq_false q, decide_eq_false fun z => q (V.int.inj z)]
  rw [e]; exact h⟩
theorem x_neI {i j : Int} (h : Q (.bl (!decide (i = j))) H) : rNe (.int i) (.int j) H Q := ⟨rfl, by
  have e : decide (V.int i = V.int j) = decide (i = j) := by
    by_cases q : i = j
    · subst q; simp
    · rw [decide_eq_false q, decide_eq_false fun z => q (V.int.inj z)]
  rw [e]; exact h⟩
theorem x_ixL {p : Addr} {xs : List V} {i : Int} {v : V} (s : H p = some (.lst xs)) (a : atI xs i = some v) (h : Q v H) : rIxL K (.ref p) (.int i) H Q := ⟨p, xs, i, v, rfl, rfl, sq_l s, a, h⟩
theorem x_ixLs {p : Addr} {xs : List V} {i : Int} {v : V} (s : SqL K H p xs) (a : atI xs i = some v) (h : Q v H) : rIxL K (.ref p) (.int i) H Q := ⟨p, xs, i, v, rfl, rfl, s, a, h⟩
theorem x_ixT {p : Addr} {xs : List V} {i : Int} {v : V} (s : H p = some (.tup xs)) (a : atI xs i = some v) (h : Q v H) : rIxT K (.ref p) (.int i) H Q := ⟨p, xs, i, v, rfl, rfl, sq_t s, a, h⟩
theorem x_nil {Qa : List V → Hp → Prop} (h : Qa [] H) : tNil σ H Qa := h
theorem x_cons {tr : TA} {Qa : List V → Hp → Prop} (h : ta σ H fun x H1 => tr σ H1 fun xs H2 => Qa (x :: xs) H2) : tCons ta tr σ H Qa := h
theorem x_cb {r : List V → Hp → VK → Prop} {tr : TA} (h : tr σ H fun vs H1 => r vs H1 Q) : tCB r tr σ H Q := h
theorem x_call {sp : Sp} {E : XK} {tr : TA} (h : tr σ H fun vs H1 => sp vs H1 Q E) : tCall sp [] E tr σ H Q := by
  have e : (fun (vs : List V) (H1 : Hp) => sp (vs ++ []) H1 Q E) = fun vs H1 => sp vs H1 Q E := by
    funext vs H1
    rw [List.append_nil]
  show tr σ H fun vs H1 => sp (vs ++ []) H1 Q E
  rw [e]
  exact h
theorem x_meth0 {C : Addr} {m : Str} {sp : Sp} {E : XK} (h : ta σ H fun x H1 => ∃ a dx fs, x = .ref a ∧ H1 a = some (.ins C dx fs) ∧ fs.lookup m = none ∧ sp [x] H1 Q E) : tMeth C m sp [] E ta tNil σ H Q := h
theorem x_meth {C : Addr} {m : Str} {sp : Sp} {E : XK} {tr : TA} (h : ta σ H fun x H1 => ∃ a dx fs, x = .ref a ∧ H1 a = some (.ins C dx fs) ∧ fs.lookup m = none ∧ tr σ H1 fun vs H2 => sp (x :: vs) H2 Q E) : tMeth C m sp [] E ta tr σ H Q := by
  have e : (fun (x : V) (vs : List V) (H1 : Hp) => sp (x :: (vs ++ [])) H1 Q E) = fun x vs H1 => sp (x :: vs) H1 Q E := by
    funext x vs H1
    rw [List.append_nil]
  show ta σ H fun x H1 => ∃ a dx fs, x = .ref a ∧ H1 a = some (.ins C dx fs) ∧ fs.lookup m = none ∧ tr σ H1 fun vs H2 => (fun (x : V) (vs : List V) (H1 : Hp) => sp (x :: (vs ++ [])) H1 Q E) x vs H2
  rw [e]
  exact h
theorem x_make {C : Addr} {sp : Sp} {E : XK} {tr : TA} (h : tr σ H fun vs H1 => ∀ x dx, H1 x = none → H1 dx = none → dx ≠ x → sp (.ref x :: vs) (upd (upd H1 dx (.own x)) x (.ins C dx [])) (fun v H2 => v = .non ∧ Q (.ref x) H2) E) : tMake C sp [] E tr σ H Q := by
  have e : (fun (vs : List V) (H1 : Hp) => ∀ x dx, H1 x = none → H1 dx = none → dx ≠ x → sp (.ref x :: (vs ++ [])) (upd (upd H1 dx (.own x)) x (.ins C dx [])) (fun v H2 => v = .non ∧ Q (.ref x) H2) E) =
      fun vs H1 => ∀ x dx, H1 x = none → H1 dx = none → dx ≠ x → sp (.ref x :: vs) (upd (upd H1 dx (.own x)) x (.ins C dx [])) (fun v H2 => v = .non ∧ Q (.ref x) H2) E := by
    funext vs H1
    rw [List.append_nil]
  show tr σ H (fun (vs : List V) (H1 : Hp) => ∀ x dx, H1 x = none → H1 dx = none → dx ≠ x → sp (.ref x :: (vs ++ [])) (upd (upd H1 dx (.own x)) x (.ins C dx [])) (fun v H2 => v = .non ∧ Q (.ref x) H2) E)
  rw [e]
  exact h
theorem x_ins {C : Addr} {m : Str} {P : Prop} {a dx : Addr} {fs : List (Str × V)} (h : H a = some (.ins C dx fs)) (l : fs.lookup m = none) (k : P) : ∃ a' dx' fs', V.ref a = .ref a' ∧ H a' = some (.ins C dx' fs') ∧ fs'.lookup m = none ∧ P := ⟨a, dx, fs, rfl, h, l, k⟩
theorem x_prop {C : Addr} {sp : Sp} {E : XK} (h : te σ H fun x H1 => ∃ a dx fs, x = .ref a ∧ H1 a = some (.ins C dx fs) ∧ sp [.ref a] H1 Q E) : tProp C sp [] E te σ H Q := h
theorem x_inp {C : Addr} {sp : Sp} {E : XK} {a dx : Addr} {fs : List (Str × V)} (h : H a = some (.ins C dx fs)) (k : sp [.ref a] H Q E) : ∃ a' dx' fs', V.ref a = .ref a' ∧ H a' = some (.ins C dx' fs') ∧ sp [.ref a'] H Q E := ⟨a, dx, fs, rfl, h, k⟩
theorem x_tup {tr : TA} (h : tr σ H fun xs H1 => xs.length ≤ sizeLine ∧ ∀ p, H1 p = none → Q (.ref p) (upd H1 p (.tup xs))) : tTup tr σ H Q := h
theorem x_lst {tr : TA} (h : tr σ H fun xs H1 => xs.length ≤ sizeLine ∧ ∀ p, H1 p = none → Q (.ref p) (upd H1 p (.lst xs))) : tLst tr σ H Q := h
theorem x_bm {T : String} {r : V → List V → Hp → VK → Prop} {tr : TA} (h : ta σ H fun x H1 => tyV K T x H1 ∧ tr σ H1 fun xs H2 => r x xs H2 Q) : tBM K T r ta tr σ H Q := h
theorem x_bm0 {T : String} {r : V → List V → Hp → VK → Prop} (h : ta σ H fun x H1 => tyV K T x H1 ∧ r x [] H1 Q) : tBM0 K T r ta σ H Q := h
theorem x_tyL {p : Addr} {xs : List V} {P : Prop} (s : H p = some (.lst xs)) (h : P) : tyV K "list" (.ref p) H ∧ P := ⟨.inl ⟨rfl, _, sq_l s⟩, h⟩
theorem x_append {p : Addr} {xs : List V} {v : V} (s : H p = some (.lst xs)) (l : xs.length < sizeLine) (h : Q .non (upd H p (.lst (xs ++ [v])))) : rAppend (.ref p) [v] H Q := ⟨p, xs, v, rfl, rfl, s, l, h⟩
theorem x_setL {p : Addr} {xs : List V} {k : Int} {v : V} {Qh : Hp → Prop} (s : H p = some (.lst xs)) (a : 0 ≤ k) (l : k < xs.length) (h : Qh (upd H p (.lst (xs.set k.toNat v)))) : rSetL (.ref p) (.int k) v H Qh :=
  ⟨p, xs, k, k.toNat, rfl, rfl, s, by unfold ixN; rw [if_pos a, if_pos l], h⟩
theorem x_sub {to ti : TE} {tset : TSet} {v : V} {Qs : St → Hp → Prop} (h : to σ H fun o H1 => ti σ H1 fun i H2 => tset o i v H2 fun H3 => Qs σ H3) : gSub to ti tset v σ H Qs := h
theorem x_gTup {nn : Nat} {g : TGs} {p : Addr} {xs : List V} {Qs : St → Hp → Prop} (s : H p = some (.tup xs)) (l : xs.length = nn) (h : g xs σ H Qs) : gTup K nn g (.ref p) σ H Qs := ⟨p, xs, rfl, sq_t s, l, h⟩
theorem x_gCons {g : TG} {gs : TGs} {v : V} {vs : List V} {Qs : St → Hp → Prop} (h : g v σ H fun σ' H' => gs vs σ' H' Qs) : gCons g gs (v :: vs) σ H Qs := ⟨v, vs, rfl, h⟩
theorem x_gNil {Qs : St → Hp → Prop} (h : Qs σ H) : gNil [] σ H Qs := ⟨rfl, h⟩
theorem x_augI {i : Nat} {f : Int → Int → Int} {a : Int} (e : σ[i]? = some (some (.int a))) (h : te σ H fun y H1 => ∃ b, y = .int b ∧ n (σ.set i (some (.int (f a b)))) H1) : tAug i te (ipI f) ⟨n, rt, bk, ct⟩ σ H := ⟨.int a, e, by
  have w : ∀ (y : V) (H1 : Hp), (∃ b, y = .int b ∧ n (σ.set i (some (.int (f a b)))) H1) → ipI f (.int a) y H1 fun z H2 => n (σ.set i (some z)) H2 := fun y H1 ⟨b, e1, q⟩ => ⟨a, b, rfl, e1, q⟩
  have e : (fun (y : V) (H1 : Hp) => ∃ b, y = .int b ∧ n (σ.set i (some (.int (f a b)))) H1) = fun y H1 => ipI f (.int a) y H1 fun z H2 => n (σ.set i (some z)) H2 := by
    funext y H1
    exact propext ⟨w y H1, fun ⟨i1, j1, e1, e2, q⟩ => ⟨j1, e2, by cases e1; exact q⟩⟩
  show te σ H fun y H1 => ipI f (.int a) y H1 fun z H2 => n (σ.set i (some z)) H2
  rw [← e]
  exact h⟩
theorem x_int {i : Int} {P : Int → Prop} (h : P i) : ∃ b, V.int i = .int b ∧ P b := ⟨i, rfl, h⟩
theorem x_it {p : Prop} {_d : Decidable p} {A B : Prop} (c : p) (h : A) : if decide p = true then A else B := by rw [decide_eq_true c]; exact h
theorem x_if0 {p : Prop} {_d : Decidable p} {A B : Prop} (c : ¬ p) (h : B) : if decide p = true then A else B := by rw [decide_eq_false c]; exact h
theorem x_ite {p : Prop} {_d : Decidable p} {A B : Prop} (h1 : p → A) (h2 : ¬ p → B) : if decide p = true then A else B := by
  by_cases q : p
  · rw [decide_eq_true q]; exact h1 q
  · rw [decide_eq_false q]; exact h2 q
theorem x_iten {p : Prop} {_d : Decidable p} {A B : Prop} (h1 : ¬ p → A) (h2 : p → B) : if (!decide p) = true then A else B := by
  by_cases q : p
  · rw [decide_eq_true q]; exact h2 q
  · rw [decide_eq_false q]; exact h1 q
theorem x_itb {z : Bool} {A B : Prop} (h1 : z = true → A) (h2 : z = false → B) : if z = true then A else B := by
  cases z
  · exact h2 rfl
  · exact h1 rfl
theorem x_itn0 {p : Prop} {_d : Decidable p} {A B : Prop} (c : p) (h : B) : if (!decide p) = true then A else B := by rw [decide_eq_true c]; exact h
theorem x_itn1 {p : Prop} {_d : Decidable p} {A B : Prop} (c : ¬ p) (h : A) : if (!decide p) = true then A else B := by rw [decide_eq_false c]; exact h
theorem x_cut (Mid : St → Hp → Prop) (h : ts ⟨Mid, rt, bk, ct⟩ σ H) (k : ∀ σ' H', Mid σ' H' → us ⟨n, rt, bk, ct⟩ σ' H') : Evl.tCut ts us ⟨n, rt, bk, ct⟩ σ H := ⟨Mid, h, k⟩
theorem x_nT {A B : Prop} (h : B) : if (!true) = true then A else B := h
theorem x_nF {A B : Prop} (h : A) : if (!false) = true then A else B := h
theorem x_T {A B : Prop} (h : A) : if true = true then A else B := h
theorem x_F {A B : Prop} (h : B) : if false = true then A else B := h
theorem x_intI {i : Int} {C : Prop} (h : Q (.int i) H) : (∃ j, [V.int i] = [.int j] ∧ Q (.int j) H) ∨ C := .inl ⟨i, rfl, h⟩
end
section
variable {σ : St} {H : Hp} {ta : TE} {Q : VK}
theorem x_tRg1 {Qr : Int → Int → Hp → Prop} (h : ta σ H fun x H1 => ∃ n, x = .int n ∧ Qr 0 n H1) : tRg1 ta σ H Qr := h
theorem x_rgN {N : Int} {Qr : Int → Prop} (h : Qr N) : ∃ n, V.int N = .int n ∧ Qr n := ⟨N, rfl, h⟩
theorem x_rgOk {N : Int} {A : Prop} (a : 0 ≤ N) (b : N ≤ 100000) (h : A) : RgOk 0 N ∧ A := ⟨RgOk.of_le (by decide) (by omega) (by decide) a, h⟩
theorem x_lstRg {te : St → Hp → (Int → Int → Hp → Prop) → Prop} (h : te σ H fun a b H1 => RgOk a b ∧ ∀ q, H1 q = none → Q (.ref q) (upd H1 q (.lst (rgV a b)))) : tLstRg te σ H Q := h
end
theorem sz_ok {n : Nat} (h : n ≤ 100000) : n ≤ sizeLine := Nat.le_trans h (by decide)
theorem sz_lt {n : Nat} (h : n < 100000) : n < sizeLine := Nat.lt_of_lt_of_le h (by decide)
theorem mul_l {i j : Int} (h1 : -(2 ^ 64) < i) (h2 : i < 2 ^ 64) : CMul i j := .inl ⟨h1, h2⟩
theorem mul_r {i j : Int} (h1 : -(2 ^ 64) < j) (h2 : j < 2 ^ 64) : CMul i j := .inr ⟨h1, h2⟩

section
variable {H : Hp} {Q : VK} {g : Int → Int → V} {i j : Int}
theorem x_div (a : 0 < j) (b : j < 1073741824) (h : Q (g i j) H) : rI CDiv g (.int i) (.int j) H Q := x_I ⟨a, b⟩ h
theorem x_mod (a : 0 < j) (h : Q (g i j) H) : rI (fun _ j => 0 < j) g (.int i) (.int j) H Q := x_I a h
theorem x_mull (a : -(2 ^ 64) < i) (b : i < 2 ^ 64) (h : Q (g i j) H) : rI CMul g (.int i) (.int j) H Q := x_I (mul_l a b) h
theorem x_mulr (a : -(2 ^ 64) < j) (b : j < 2 ^ 64) (h : Q (g i j) H) : rI CMul g (.int i) (.int j) H Q := x_I (mul_r a b) h
theorem x_pow (a : 0 ≤ j) (b : j ≤ 1000000) (c : i.natAbs < 2 ^ 64) (h : Q (g i j) H) : rI CPow g (.int i) (.int j) H Q := x_I ⟨a, b, c⟩ h
theorem x_divW (a : 0 < j) (b : j.natAbs < 2 ^ 64) (h : Q (g i j) H) : rI CDivW g (.int i) (.int j) H Q := x_I (wide_div a b (by decide) (by decide)) h
end
/-! ### built-ins, their readings by name -/
def rInt : List V → Hp → VK → Prop := fun xs H Q => (∃ i, xs = [.int i] ∧ Q (.int i) H) ∨ ∃ k, xs = [.bl k] ∧ Q (.int (if k then 1 else 0)) H
def rLen (K : PySem.W.Frag) : List V → Hp → VK → Prop := fun xs H Q => ∃ p ys, xs = [.ref p] ∧ (SqL K H p ys ∨ SqT K H p ys) ∧ Q (.int ys.length) H
def rListOf (K : PySem.W.Frag) : List V → Hp → VK → Prop := fun xs H Q => ∃ p ys, xs = [.ref p] ∧ (SqL K H p ys ∨ SqT K H p ys) ∧ ∀ l, H l = none → Q (.ref l) (upd H l (.lst ys))
def rMax2 : List V → Hp → VK → Prop := fun xs H Q => ∃ i j, xs = [.int i, .int j] ∧ Q (.int (if j > i then j else i)) H
def rMin2 : List V → Hp → VK → Prop := fun xs H Q => ∃ i j, xs = [.int i, .int j] ∧ Q (.int (if j < i then j else i)) H
section
variable {X : Cx}
theorem cl_int : CallR X (.type "int") rInt := call_int1
theorem cl_max2 (hc : X.calm = true) : CallR X (.builtin "max") rMax2 := call_max2 hc
theorem cl_min2 (hc : X.calm = true) : CallR X (.builtin "min") rMin2 := call_min2 hc
end
section
variable {K : PySem.W.Frag} {H : Hp} {Q : VK}
theorem x_int_i {i : Int} (h : Q (.int i) H) : rInt [.int i] H Q := .inl ⟨i, rfl, h⟩
theorem x_int_b {b : Bool} (h : Q (.int (if b then 1 else 0)) H) : rInt [.bl b] H Q := .inr ⟨b, rfl, h⟩
theorem x_len {p : Addr} {ys : List V} (s : H p = some (.lst ys)) (h : Q (.int ys.length) H) : rLen K [.ref p] H Q := ⟨p, ys, rfl, .inl (sq_l s), h⟩
theorem x_lenT {p : Addr} {ys : List V} (s : H p = some (.tup ys)) (h : Q (.int ys.length) H) : rLen K [.ref p] H Q := ⟨p, ys, rfl, .inr (sq_t s), h⟩
theorem x_lenS {p : Addr} {ys : List V} (s : SqL K H p ys) (h : Q (.int ys.length) H) : rLen K [.ref p] H Q := ⟨p, ys, rfl, .inl s, h⟩
theorem x_listOf {p : Addr} {ys : List V} (s : H p = some (.lst ys)) (h : ∀ l, H l = none → Q (.ref l) (upd H l (.lst ys))) : rListOf K [.ref p] H Q := ⟨p, ys, rfl, .inl (sq_l s), h⟩
theorem x_max2 {i j : Int} (h : Q (.int (if j > i then j else i)) H) : rMax2 [.int i, .int j] H Q := ⟨i, j, rfl, h⟩
theorem x_min2 {i j : Int} (h : Q (.int (if j < i then j else i)) H) : rMin2 [.int i, .int j] H Q := ⟨i, j, rfl, h⟩
theorem x_sz {n : Nat} {A : Prop} (s : n ≤ 100000) (h : A) : n ≤ sizeLine ∧ A := ⟨sz_ok s, h⟩
theorem x_isi {x c : V} {t u : Value} {b : Bool} (k : ClsV c u) (ty : TyX K H x t) (e : PySem.W.kitOne K t u = some b) (h : Q (.bl b) H) : rIsi K [x, c] H Q := ⟨x, c, t, u, b, rfl, k, ty, e, h⟩
theorem x_ext {l b : Addr} {xs zs : List V} (s : H l = some (.lst xs)) (s2 : H b = some (.lst zs)) (z : xs.length + zs.length ≤ 100000) (h : Q .non (upd H l (.lst (xs ++ zs)))) : rExtend (.ref l) [.ref b] H Q := ⟨l, b, xs, zs, rfl, rfl, s, s2, sz_ok z, h⟩
theorem x_rev {l : Addr} {xs : List V} (s : H l = some (.lst xs)) (h : Q .non (upd H l (.lst xs.reverse))) : rReverse (.ref l) [] H Q := ⟨l, xs, rfl, rfl, s, h⟩
theorem x_popAt {l : Addr} {xs : List V} {k : Int} {y : V} (s : H l = some (.lst xs)) (z : xs.length ≤ 100000) (a : 0 ≤ k) (e : xs[k.toNat]? = some y) (h : Q y (upd H l (.lst (xs.eraseIdx k.toNat)))) : rPopAt (.ref l) [.int k] H Q := by
  have hk := (List.getElem?_eq_some_iff.mp e).1
  exact ⟨l, xs, k, k.toNat, y, rfl, rfl, s, by omega, by omega, PySem.seqIndex_of a (by omega), e, h⟩
end

/-! ### rules with the written part by name (within a block, too) -/
section
variable {X : Cx} (K : PySem.W.Frag) (hK : X.K = K := by rfl)
include hK
theorem cl_len : CallR X (.builtin "len") (rLen K) := by subst hK; exact call_len_seq
theorem cl_listOf : CallR X (.type "list") (rListOf K) := by subst hK; exact call_list_of
theorem cl_isi : CallR X (.builtin "isinstance") (rIsi K) := by subst hK; exact call_isi
theorem cl_sortedI : CallR X (.builtin "sorted") (rSortedI K) := by subst hK; exact cr_sortedI
theorem cl_sortedPO : CallR X (.builtin "sorted") (rSortedPO K) := by subst hK; exact cr_sortedPO
theorem ix_l : IxR X (rIxL K) := by subst hK; exact ix_list
theorem ix_t : IxR X (rIxT K) := by subst hK; exact ix_tup
theorem k_in : OpR X (compareOp .In) (rIn K false) := by subst hK; exact op_in_seq
theorem k_nin : OpR X (compareOp .NotIn) (rIn K true) := by subst hK; exact op_notIn_seq
theorem k_sll : SlR X (rSlL K) := by subst hK; exact sl_list
theorem k_slt : SlR X (rSlT K) := by subst hK; exact sl_tup
end
section
variable {X : Cx} (K : PySem.W.Frag)
theorem cl_all (hc : X.calm = true) (hK : X.K = K := by rfl) : CallR X (.builtin "all") (rAll K) := by subst hK; exact cr_all hc
theorem cl_any (hc : X.calm = true) (hK : X.K = K := by rfl) : CallR X (.builtin "any") (rAny K) := by subst hK; exact cr_any hc
theorem cl_sum (hc : X.calm = true) (hK : X.K = K := by rfl) : CallR X (.builtin "sum") (rSum K) := by subst hK; exact cr_sum hc
theorem cl_max (hc : X.calm = true) (hK : X.K = K := by rfl) : CallR X (.builtin "max") (rMax K) := by subst hK; exact cr_max hc
theorem cl_min (hc : X.calm = true) (hK : X.K = K := by rfl) : CallR X (.builtin "min") (rMin K) := by subst hK; exact cr_min hc
theorem k_eqD (hu : X.A.units + 64 < cLine) (hK : X.K = K := by rfl) : OpR X (compareOp .Eq) (rEqD K) := by subst hK; exact op_eqD hu
theorem k_neD (hu : X.A.units + 64 < cLine) (hK : X.K = K := by rfl) : OpR X (compareOp .NotEq) (rNeD K) := by subst hK; exact op_neD hu
theorem k_inD (hu : X.A.units + 65 < cLine) (hK : X.K = K := by rfl) : OpR X (compareOp .In) (rInD K) := by subst hK; exact op_inD hu
theorem k_ninD (hu : X.A.units + 65 < cLine) (hK : X.K = K := by rfl) : OpR X (compareOp .NotIn) (rNotInD K) := by subst hK; exact op_notInD hu
variable {e o value : Expr} {f : Str} {pos pos' apos cpos : Pos} {ta tv to te : TE}
theorem k_fld (he : PE X e ta) (hb : attributeBase e f X.env (eval e X.env) = eval e X.env) (hK : X.K = K := by rfl) : PE X (.Attribute e f pos) (tFld K ta f) := by subst hK; exact pe_fld he hb
theorem k_sfld (ha : PE X o ta) (hv : PE X value tv) (hs : swapsWith value (some (.Attribute o f pos')) pos.line X.env = pure false) (hK : X.K = K := by rfl) : PS X (.Assign [.Attribute o f pos'] value pos) (sFld K ta tv f) := by subst hK; exact ps_fld ha hv hs
theorem k_tup {es : List Expr} {k : Nat} {t : TGs} {n : Nat} (hc : X.calm = true) (h : PGs X es t)
    (hn : (assignEach es X.env).length = n := by rfl) (hst : (assignEach es X.env).findIdx? (·.1) = none := by rfl) (hK : X.K = K := by rfl) : PG X (.Tuple es k pos) (gTup K n t) := by subst hK; exact pg_tup hc h hn hst
theorem k_pil {tg l : Expr} {tl : TE} (hl : PE X l tl) (hK : X.K = K := by rfl) : PI X tg l (iList K tl) := by subst hK; exact pi_list hl
theorem k_pit {tg l : Expr} {tl : TE} (hl : PE X l tl) (hK : X.K = K := by rfl) : PI X tg l (iTup K tl) := by subst hK; exact pi_tup hl
theorem k_bm {T : String} {name : Str} {id : String} {r : V → List V → Hp → VK → Prop} {es : List Expr} {t : TA} (pa : PlainAttrs T) (slot : Slot T name id) (hty : typeOf (.builtin id) = pure (.type "method_descriptor")) (hm : MtR X id r) (ho : PE X o to) (ha : PA X (e :: es) t)
    (hbase : attributeBase o name X.env (eval o X.env) = eval o X.env := by rfl)
    (hfew : ((backTo cpos (starEach (e :: es) X.env)).all (fun x => !x.1) && (backToKw cpos (keywordEach [] X.env)).all (fun x => x.1.isSome)
      && decide ((e :: es).length + ([] : List Keyword).length + (if ([] : List Keyword).isEmpty then 0 else 1) < 30)) = true := by rfl)
    (hline : (apos.endLine == cpos.line) = true := by rfl) (hs : starEach (e :: es) X.env = (false, eval e X.env) :: starEach es X.env := by rfl) (hplain : (backTo cpos (starEach es X.env)).any (·.1) = false := by rfl) (hK : X.K = K := by rfl) :
    PE X (.Call (.Attribute o name apos) (e :: es) [] cpos) (tBM K T r to t) := by subst hK; exact pe_bm pa slot hty hm ho ha hbase hfew hline hs hplain
theorem k_bm0 {T : String} {name : Str} {id : String} {r : V → List V → Hp → VK → Prop} (pa : PlainAttrs T) (slot : Slot T name id) (hty : typeOf (.builtin id) = pure (.type "method_descriptor")) (hm : MtR X id r) (ho : PE X o to)
    (hbase : attributeBase o name X.env (eval o X.env) = eval o X.env := by rfl) (hline : (apos.endLine == cpos.line) = true := by rfl) (hK : X.K = K := by rfl) : PE X (.Call (.Attribute o name apos) [] [] cpos) (tBM0 K T r to) := by subst hK; exact pe_bm0 pa slot hty hm ho hbase hline
end
theorem hu65 {k : Nat} {A : Around} (hr : Room k A) : A.units + 65 < cLine := by
  have := hr.un
  omega

/-! ### calls by name, with what may leave -/
structure Cal (P : Program) (w : World) (K : PySem.W.Frag) (mg : Str → Option Value) (base : Heap) (CX : CXT) (k : Nat) (x : Str) (sp : Sp) : Prop where
  ex : ∃ (f : Addr) (fd : FuncData) (ps : List Str), FnOk P w K mg base CX k f fd ps sp ∧ mg x = some (.ref f) ∧ PySem.W.keepIn K (.ref f) = true ∧ Binds K fd ps []
theorem pe_cal {X : Cx} {CX : CXT} {k j : Nat} {x : Str} {sp : Sp} {E : XK} {e : Expr} {es : List Expr} {t : TA} {p pos : Pos} (c : Cal X.prog X.w X.K X.mg X.base CX k x sp) (hr : Room j X.A) (hk : k ≤ j) (hg : Gl X x) (hx : Passes CX X E) (ht : PA X (e :: es) t)
    (hdb : (x == ("__debug__" : Str)) = false := by decide) (he : starEach (e :: es) X.env = (false, eval e X.env) :: starEach es X.env := by rfl) (hpl : (backTo pos (starEach es X.env)).any (·.1) = false := by rfl) :
    PE X (.Call (.Name x p) (e :: es) [] pos) (tCall sp [] E t) := by
  obtain ⟨f, fd, ps, F, hm, kp, b⟩ := c.ex
  exact pe_call F (hr.mono hk) hg hm kp b .nil hx ht hdb he hpl
/-! ### loops, comprehensions: the questions by name -/
/-- a for over what J walks -/
def FW (J : It) (g : TG) (tb : TS) (D : Ends) (σ : St) (H1 : Hp) : Prop := ∃ W : Nat → Nat → St → Hp → Prop, (∃ m, W 0 m σ H1) ∧ ∀ i m σ H, W i m σ H →
  (J.stop i H ∧ D.nx σ H) ∨ (J.go i H ∧ ∃ N : St → Hp → Prop, (∀ σ' H', N σ' H' → ∃ m', m' < m ∧ W (i + 1) m' σ' H') ∧ ∀ x H', J.yld i H x H' → g x σ H' fun σ2 H2 => tb { D with nx := N, ct := N, bk := D.nx } σ2 H2)
/-- a comprehension over what J walks, its list at D -/
def LW (J : It) (D : Addr) (g : TG) (tt : TT) (te : TE) (vs : List Nat) (σ : St) (H1 : Hp) (Q : VK) : Prop := ∃ W : Nat → Nat → Hp → Prop, (∃ m, W 0 m (upd H1 D (.lst []))) ∧ ∀ i m H, W i m H →
  (J.stop i H ∧ Q (.ref D) H) ∨ (J.go i H ∧ ∃ Nx : Hp → Prop, (∀ H', Nx H' → ∃ m', m' < m ∧ W (i + 1) m' H') ∧ ∀ x H', J.yld i H x H' → g x (wipe σ vs) H' fun σ2 H2 => wipe σ2 vs = wipe σ vs ∧ tt σ2 H2 fun b H3 =>
    if b = true then te σ2 H3 fun y H4 => ∃ acc, H4 D = some (.lst acc) ∧ acc.length < sizeLine ∧ Nx (upd H4 D (.lst (acc ++ [y]))) else Nx H3)
def Rg1 (vs : List V) (H : Hp) (R : It → Hp → Prop) : Prop := ∃ j : Int, vs = [.int j] ∧ -(2 ^ 62) ≤ j ∧ j < 2 ^ 62 ∧ R (Itr 0 j.toNat) H
def Rg2 (vs : List V) (H : Hp) (R : It → Hp → Prop) : Prop := ∃ i j : Int, vs = [.int i, .int j] ∧ (-(2 ^ 62) ≤ i ∧ i < 2 ^ 62 ∧ -(2 ^ 62) ≤ j ∧ j < 2 ^ 62) ∧ R (Itr i (j - i).toNat) H
def Il (K : PySem.W.Frag) (x : V) (H : Hp) (R : It → Hp → Prop) : Prop := ∃ a, x = .ref a ∧ (∃ xs, SqL K H a xs) ∧ R (Itl K a) H
section
variable {K : PySem.W.Frag} {σ : St} {H : Hp} {ta : TA} {te tl : TE} {tt : TT} {wi : TI} {g : TG} {tb : TS} {Q : VK} {D : Ends} {R : It → Hp → Prop} {vs : List Nat}
theorem x_for {n : St → Hp → Prop} {rt : VK} {bk ct : St → Hp → Prop} (h : wi σ H fun J H1 => FW J g tb ⟨n, rt, bk, ct⟩ σ H1) : tFor wi g tb ⟨n, rt, bk, ct⟩ σ H := h
theorem x_lc (h : wi σ H fun J H1 => ∀ D, H1 D = none → LW J D g tt te vs σ H1 Q) : tLc wi g tt te vs σ H Q := h
theorem x_rg1 (h : ta σ H fun vs H1 => Rg1 vs H1 R) : iRng1 ta σ H R := h
theorem x_rg2 (h : ta σ H fun vs H1 => Rg2 vs H1 R) : iRng2 ta σ H R := h
theorem x_il (h : tl σ H fun x H1 => Il K x H1 R) : iList K tl σ H R := h
theorem x_r1 {j : Int} (a : -(2 ^ 62) ≤ j) (b : j < 2 ^ 62) (h : R (Itr 0 j.toNat) H) : Rg1 [.int j] H R := ⟨j, rfl, a, b, h⟩
theorem x_r2 {i j : Int} (a : -(2 ^ 62) ≤ i) (a' : i < 2 ^ 62) (b : -(2 ^ 62) ≤ j) (b' : j < 2 ^ 62) (h : R (Itr i (j - i).toNat) H) : Rg2 [.int i, .int j] H R := ⟨i, j, rfl, ⟨a, a', b, b'⟩, h⟩
theorem x_ill {a : Addr} {xs : List V} (s : H a = some (.lst xs)) (h : R (Itl K a) H) : Il K (.ref a) H R := ⟨a, rfl, ⟨xs, sq_l s⟩, h⟩
theorem x_ils {a : Addr} {xs : List V} (s : SqL K H a xs) (h : R (Itl K a) H) : Il K (.ref a) H R := ⟨a, rfl, ⟨xs, s⟩, h⟩
/-- for i in range: the invariant, its start, a turn, the end -/
theorem x_fwR {lo : Int} {n : Nat} {nx : St → Hp → Prop} {rt : VK} {bk ct : St → Hp → Prop} (Pv : Nat → St → Hp → Prop) (h0 : Pv 0 σ H)
    (hs : ∀ i σ H, i < n → Pv i σ H → g (.int (lo + (i : Int))) σ H fun σ2 H2 => tb ⟨Pv (i + 1), rt, nx, Pv (i + 1)⟩ σ2 H2) (hd : ∀ σ H, Pv n σ H → nx σ H) : FW (Itr lo n) g tb ⟨nx, rt, bk, ct⟩ σ H :=
  for_range (D := ⟨nx, rt, bk, ct⟩) Pv h0 hs hd
theorem x_fwL {a : Addr} {xs : List V} {nx : St → Hp → Prop} {rt : VK} {bk ct : St → Hp → Prop} (Pv : Nat → St → Hp → Prop) (h0 : Pv 0 σ H) (hl : ∀ i σ H, i ≤ xs.length → Pv i σ H → SqL K H a xs)
    (hs : ∀ i x σ H, xs[i]? = some x → Pv i σ H → g x σ H fun σ2 H2 => tb ⟨Pv (i + 1), rt, nx, Pv (i + 1)⟩ σ2 H2) (hd : ∀ σ H, Pv xs.length σ H → nx σ H) : FW (Itl K a) g tb ⟨nx, rt, bk, ct⟩ σ H :=
  for_list (D := ⟨nx, rt, bk, ct⟩) Pv h0 hl hs hd
/-- comprehensions -/
theorem x_lwR {lo : Int} {n : Nat} {Dl : Addr} (Pv : Nat → Hp → Prop) (h0 : Pv 0 (upd H Dl (.lst [])))
    (hs : ∀ i H, i < n → Pv i H → g (.int (lo + (i : Int))) (wipe σ vs) H fun σ2 H2 => wipe σ2 vs = wipe σ vs ∧ tt σ2 H2 fun b H3 =>
      if b = true then te σ2 H3 fun y H4 => ∃ acc, H4 Dl = some (.lst acc) ∧ acc.length < sizeLine ∧ Pv (i + 1) (upd H4 Dl (.lst (acc ++ [y]))) else Pv (i + 1) H3) (hd : ∀ H, Pv n H → Q (.ref Dl) H) :
    LW (Itr lo n) Dl g tt te vs σ H Q := lc_range (Qd := fun H => Q (.ref Dl) H) Pv h0 hs hd
theorem x_lwL {a : Addr} {xs : List V} {Dl : Addr} (Pv : Nat → Hp → Prop) (h0 : Pv 0 (upd H Dl (.lst []))) (hl : ∀ i H, i ≤ xs.length → Pv i H → SqL K H a xs)
    (hs : ∀ i x H, xs[i]? = some x → Pv i H → g x (wipe σ vs) H fun σ2 H2 => wipe σ2 vs = wipe σ vs ∧ tt σ2 H2 fun b H3 =>
      if b = true then te σ2 H3 fun y H4 => ∃ acc, H4 Dl = some (.lst acc) ∧ acc.length < sizeLine ∧ Pv (i + 1) (upd H4 Dl (.lst (acc ++ [y]))) else Pv (i + 1) H3) (hd : ∀ H, Pv xs.length H → Q (.ref Dl) H) :
    LW (Itl K a) Dl g tt te vs σ H Q := lc_list (Qd := fun H => Q (.ref Dl) H) Pv h0 hl hs hd
theorem x_fwR0 {n : Nat} {nx : St → Hp → Prop} {rt : VK} {bk ct : St → Hp → Prop} (Pv : Nat → St → Hp → Prop) (h0 : Pv 0 σ H)
    (hs : ∀ i σ H, i < n → Pv i σ H → g (.int (i : Int)) σ H fun σ2 H2 => tb ⟨Pv (i + 1), rt, nx, Pv (i + 1)⟩ σ2 H2) (hd : ∀ σ H, Pv n σ H → nx σ H) : FW (Itr 0 n) g tb ⟨nx, rt, bk, ct⟩ σ H :=
  x_fwR Pv h0 (fun i σ H hi p => by rw [Int.zero_add]; exact hs i σ H hi p) hd
theorem x_lwR0 {n : Nat} {Dl : Addr} (Pv : Nat → Hp → Prop) (h0 : Pv 0 (upd H Dl (.lst [])))
    (hs : ∀ i H, i < n → Pv i H → g (.int (i : Int)) (wipe σ vs) H fun σ2 H2 => wipe σ2 vs = wipe σ vs ∧ tt σ2 H2 fun b H3 =>
      if b = true then te σ2 H3 fun y H4 => ∃ acc, H4 Dl = some (.lst acc) ∧ acc.length < sizeLine ∧ Pv (i + 1) (upd H4 Dl (.lst (acc ++ [y]))) else Pv (i + 1) H3) (hd : ∀ H, Pv n H → Q (.ref Dl) H) :
    LW (Itr 0 n) Dl g tt te vs σ H Q := x_lwR Pv h0 (fun i H hi p => by rw [Int.zero_add]; exact hs i H hi p) hd
theorem x_while {c : TT} {nx : St → Hp → Prop} {rt : VK} {bk ct : St → Hp → Prop} (W : Nat → St → Hp → Prop) (m0 : Nat) (h0 : W m0 σ H)
    (hs : ∀ m σ H, W m σ H → c σ H fun b H1 => if b = true then ∃ N : St → Hp → Prop, (∀ σ' H', N σ' H' → ∃ m', m' < m ∧ W m' σ' H') ∧ tb ⟨N, rt, nx, N⟩ σ H1 else nx σ H1) : tWhile c tb ⟨nx, rt, bk, ct⟩ σ H := ⟨W, ⟨m0, h0⟩, hs⟩
theorem x_wgo {nx : St → Hp → Prop} {rt : VK} {W : Nat → St → Hp → Prop} {m : Nat} (h : tb ⟨fun σ' H' => ∃ m', m' < m ∧ W m' σ' H', rt, nx, fun σ' H' => ∃ m', m' < m ∧ W m' σ' H'⟩ σ H) :
    ∃ N : St → Hp → Prop, (∀ σ' H', N σ' H' → ∃ m', m' < m ∧ W m' σ' H') ∧ tb ⟨N, rt, nx, N⟩ σ H := ⟨_, fun _ _ h => h, h⟩
theorem x_yes {Qb : Bool → Hp → Prop} (h : Qb true H) : tYes σ H Qb := h
theorem x_wipe {σ2 σ1 : St} {A : Prop} (e : σ2 = σ1) (h : A) : σ2 = σ1 ∧ A := ⟨e, h⟩
theorem x_acc {Dl : Addr} {acc : List V} {P : Hp → Prop} {y : V} (s : H Dl = some (.lst acc)) (z : acc.length < 100000) (h : P (upd H Dl (.lst (acc ++ [y])))) :
    ∃ acc, H Dl = some (.lst acc) ∧ acc.length < sizeLine ∧ P (upd H Dl (.lst (acc ++ [y]))) := ⟨acc, s, sz_lt z, h⟩
end

/-- a comprehension of two fors, its list at D; the inner walk -/
def LI (J1 : It) (D : Addr) (Nx : Hp → Prop) (g1 : TG) (tt1 : TT) (te : TE) (vs1 : List Nat) (σ2 : St) (H4 : Hp) : Prop := ∃ W1 : Nat → Nat → Hp → Prop, (∃ m, W1 0 m H4) ∧ ∀ j k H, W1 j k H →
      (J1.stop j H ∧ Nx H) ∨ (J1.go j H ∧ ∃ Nx1 : Hp → Prop, (∀ H', Nx1 H' → ∃ k', k' < k ∧ W1 (j + 1) k' H') ∧ ∀ x H', J1.yld j H x H' → g1 x (wipe σ2 vs1) H' fun σ3 H5 => wipe σ3 vs1 = wipe σ2 vs1 ∧ tt1 σ3 H5 fun b H6 =>
        if b = true then te σ3 H6 fun y H7 => ∃ acc, H7 D = some (.lst acc) ∧ acc.length < sizeLine ∧ Nx1 (upd H7 D (.lst (acc ++ [y]))) else Nx1 H6)
def LW2 (J : It) (D : Addr) (g : TG) (tt : TT) (wi1 : TI) (g1 : TG) (tt1 : TT) (te : TE) (vs vs1 : List Nat) (σ : St) (H1 : Hp) (Q : VK) : Prop := ∃ W : Nat → Nat → Hp → Prop, (∃ m, W 0 m (upd H1 D (.lst []))) ∧ ∀ i m H, W i m H →
  (J.stop i H ∧ Q (.ref D) H) ∨ (J.go i H ∧ ∃ Nx : Hp → Prop, (∀ H', Nx H' → ∃ m', m' < m ∧ W (i + 1) m' H') ∧ ∀ x H', J.yld i H x H' → g x (wipe σ vs) H' fun σ2 H2 => wipe σ2 vs = wipe σ vs ∧ tt σ2 H2 fun b H3 =>
    if b = true then wi1 σ2 H3 fun J1 H4 => LI J1 D Nx g1 tt1 te vs1 σ2 H4 else Nx H3)
theorem x_lc2 {σ : St} {H : Hp} {wi wi1 : TI} {g g1 : TG} {tt tt1 : TT} {te : TE} {vs vs1 : List Nat} {Q : VK} (h : wi σ H fun J H1 => ∀ D, H1 D = none → LW2 J D g tt wi1 g1 tt1 te vs vs1 σ H1 Q) : tLc2 wi g tt wi1 g1 tt1 te vs vs1 σ H Q := h
section
variable {K : PySem.W.Frag} {σ σ2 : St} {H1 H4 : Hp} {wi1 : TI} {g g1 : TG} {tt tt1 : TT} {te : TE} {vs vs1 : List Nat} {Q : VK} {D : Addr} {Nx : Hp → Prop}
theorem x_lw2R {lo : Int} {n : Nat} (Pv : Nat → Hp → Prop) (h0 : Pv 0 (upd H1 D (.lst [])))
    (hs : ∀ i H, i < n → Pv i H → g (.int (lo + (i : Int))) (wipe σ vs) H fun σ2 H2 => wipe σ2 vs = wipe σ vs ∧ tt σ2 H2 fun b H3 => if b = true then wi1 σ2 H3 fun J1 H4 => LI J1 D (Pv (i + 1)) g1 tt1 te vs1 σ2 H4 else Pv (i + 1) H3)
    (hd : ∀ H, Pv n H → Q (.ref D) H) : LW2 (Itr lo n) D g tt wi1 g1 tt1 te vs vs1 σ H1 Q := by
  refine ⟨fun i m H => m = n - i ∧ i ≤ n ∧ Pv i H, ⟨n, by simp, Nat.zero_le _, h0⟩, ?_⟩
  rintro i m H ⟨rfl, hi, p⟩
  by_cases hlt : i < n
  · refine .inr ⟨hlt, Pv (i + 1), fun H' p' => ⟨n - (i + 1), by omega, rfl, hlt, p'⟩, fun x H' y => ?_⟩
    obtain ⟨e, y⟩ := y
    subst e y
    exact hs i _ hlt p
  · have e : i = n := by omega
    subst e
    exact .inl ⟨Nat.le_refl _, hd _ p⟩
theorem x_lw2L {a : Addr} {xs : List V} (Pv : Nat → Hp → Prop) (h0 : Pv 0 (upd H1 D (.lst []))) (hl : ∀ i H, i ≤ xs.length → Pv i H → SqL K H a xs)
    (hs : ∀ i x H, xs[i]? = some x → Pv i H → g x (wipe σ vs) H fun σ2 H2 => wipe σ2 vs = wipe σ vs ∧ tt σ2 H2 fun b H3 => if b = true then wi1 σ2 H3 fun J1 H4 => LI J1 D (Pv (i + 1)) g1 tt1 te vs1 σ2 H4 else Pv (i + 1) H3)
    (hd : ∀ H, Pv xs.length H → Q (.ref D) H) : LW2 (Itl K a) D g tt wi1 g1 tt1 te vs vs1 σ H1 Q := by
  refine ⟨fun i m H => m = xs.length - i ∧ i ≤ xs.length ∧ Pv i H, ⟨xs.length, by simp, Nat.zero_le _, h0⟩, ?_⟩
  rintro i m H ⟨rfl, hi, p⟩
  have q := hl i H hi p
  by_cases hlt : i < xs.length
  · refine .inr ⟨⟨xs, xs[i], q, by simp [hlt]⟩, Pv (i + 1), fun H' p' => ⟨xs.length - (i + 1), by omega, rfl, hlt, p'⟩, fun x H' y => ?_⟩
    obtain ⟨e, y⟩ := y
    subst e
    exact hs i x _ (y xs q) p
  · have e : i = xs.length := by omega
    subst e
    exact .inl ⟨⟨xs, q, by omega⟩, hd _ p⟩
theorem x_liR {lo : Int} {n : Nat} (Pv : Nat → Hp → Prop) (h0 : Pv 0 H4)
    (hs : ∀ i H, i < n → Pv i H → g1 (.int (lo + (i : Int))) (wipe σ2 vs1) H fun σ3 H5 => wipe σ3 vs1 = wipe σ2 vs1 ∧ tt1 σ3 H5 fun b H6 =>
      if b = true then te σ3 H6 fun y H7 => ∃ acc, H7 D = some (.lst acc) ∧ acc.length < sizeLine ∧ Pv (i + 1) (upd H7 D (.lst (acc ++ [y]))) else Pv (i + 1) H6) (hd : ∀ H, Pv n H → Nx H) :
    LI (Itr lo n) D Nx g1 tt1 te vs1 σ2 H4 := by
  refine ⟨fun i m H => m = n - i ∧ i ≤ n ∧ Pv i H, ⟨n, by simp, Nat.zero_le _, h0⟩, ?_⟩
  rintro i m H ⟨rfl, hi, p⟩
  by_cases hlt : i < n
  · refine .inr ⟨hlt, Pv (i + 1), fun H' p' => ⟨n - (i + 1), by omega, rfl, hlt, p'⟩, fun x H' y => ?_⟩
    obtain ⟨e, y⟩ := y
    subst e y
    exact hs i _ hlt p
  · have e : i = n := by omega
    subst e
    exact .inl ⟨Nat.le_refl _, hd _ p⟩
theorem x_liL {a : Addr} {xs : List V} (Pv : Nat → Hp → Prop) (h0 : Pv 0 H4) (hl : ∀ i H, i ≤ xs.length → Pv i H → SqL K H a xs)
    (hs : ∀ i x H, xs[i]? = some x → Pv i H → g1 x (wipe σ2 vs1) H fun σ3 H5 => wipe σ3 vs1 = wipe σ2 vs1 ∧ tt1 σ3 H5 fun b H6 =>
      if b = true then te σ3 H6 fun y H7 => ∃ acc, H7 D = some (.lst acc) ∧ acc.length < sizeLine ∧ Pv (i + 1) (upd H7 D (.lst (acc ++ [y]))) else Pv (i + 1) H6) (hd : ∀ H, Pv xs.length H → Nx H) :
    LI (Itl K a) D Nx g1 tt1 te vs1 σ2 H4 := by
  refine ⟨fun i m H => m = xs.length - i ∧ i ≤ xs.length ∧ Pv i H, ⟨xs.length, by simp, Nat.zero_le _, h0⟩, ?_⟩
  rintro i m H ⟨rfl, hi, p⟩
  have q := hl i H hi p
  by_cases hlt : i < xs.length
  · refine .inr ⟨⟨xs, xs[i], q, by simp [hlt]⟩, Pv (i + 1), fun H' p' => ⟨xs.length - (i + 1), by omega, rfl, hlt, p'⟩, fun x H' y => ?_⟩
    obtain ⟨e, y⟩ := y
    subst e
    exact hs i x _ (y xs q) p
  · have e : i = xs.length := by omega
    subst e
    exact .inl ⟨⟨xs, q, by omega⟩, hd _ p⟩
theorem x_lw2R0 {n : Nat} (Pv : Nat → Hp → Prop) (h0 : Pv 0 (upd H1 D (.lst [])))
    (hs : ∀ i H, i < n → Pv i H → g (.int (i : Int)) (wipe σ vs) H fun σ2 H2 => wipe σ2 vs = wipe σ vs ∧ tt σ2 H2 fun b H3 => if b = true then wi1 σ2 H3 fun J1 H4 => LI J1 D (Pv (i + 1)) g1 tt1 te vs1 σ2 H4 else Pv (i + 1) H3)
    (hd : ∀ H, Pv n H → Q (.ref D) H) : LW2 (Itr 0 n) D g tt wi1 g1 tt1 te vs vs1 σ H1 Q := x_lw2R Pv h0 (fun i H hi p => by rw [Int.zero_add]; exact hs i H hi p) hd
theorem x_liR0 {n : Nat} (Pv : Nat → Hp → Prop) (h0 : Pv 0 H4)
    (hs : ∀ i H, i < n → Pv i H → g1 (.int (i : Int)) (wipe σ2 vs1) H fun σ3 H5 => wipe σ3 vs1 = wipe σ2 vs1 ∧ tt1 σ3 H5 fun b H6 =>
      if b = true then te σ3 H6 fun y H7 => ∃ acc, H7 D = some (.lst acc) ∧ acc.length < sizeLine ∧ Pv (i + 1) (upd H7 D (.lst (acc ++ [y]))) else Pv (i + 1) H6) (hd : ∀ H, Pv n H → Nx H) :
    LI (Itr 0 n) D Nx g1 tt1 te vs1 σ2 H4 := x_liR Pv h0 (fun i H hi p => by rw [Int.zero_add]; exact hs i H hi p) hd
end

/-! ### instances -/
structure Own (K : PySem.W.Frag) (mg : Str → Option Value) (nm : Str) (C : Addr) : Prop where
  cl : Cls K C
  mgC : mg nm = some (.ref C)
  makes : PySem.W.makesIn K C = true
  kp : PySem.W.keepIn K (.ref C) = true
section
variable {K : PySem.W.Frag} {σ : St} {H : Hp} {te ta : TE} {Q : VK}
theorem x_fld {a C dx : Addr} {fs : List (Str × V)} {f : Str} {v : V} {P : V → Prop} (h : H a = some (.ins C dx fs)) (c : Cls K C) (n : NoAttr K C f) (l : fs.lookup f = some v) (k : P v) :
    ∃ a' C' dx' fs' v', V.ref a = .ref a' ∧ H a' = some (.ins C' dx' fs') ∧ Cls K C' ∧ NoAttr K C' f ∧ fs'.lookup f = some v' ∧ P v' := ⟨a, C, dx, fs, v, rfl, h, c, n, l, k⟩
theorem x_tfld {f : Str} (h : te σ H fun x H1 => ∃ a C dx fs v, x = .ref a ∧ H1 a = some (.ins C dx fs) ∧ Cls K C ∧ NoAttr K C f ∧ fs.lookup f = some v ∧ Q v H1) : tFld K te f σ H Q := h
end
section
variable {K : PySem.W.Frag} {σ : St} {H : Hp} {tv ta : TE} {n : St → Hp → Prop} {rt : VK} {bk ct : St → Hp → Prop} {f : Str}
theorem x_sfld (h : tv σ H fun y H1 => ta σ H1 fun x H2 => ∃ a C dx fs, x = .ref a ∧ H2 a = some (.ins C dx fs) ∧ Cls K C ∧ NoAttr K C f ∧ fs.length < 1000 ∧ n σ (upd H2 a (.ins C dx (putF f y fs)))) : sFld K ta tv f ⟨n, rt, bk, ct⟩ σ H := h
theorem x_sfl {a C dx : Addr} {fs : List (Str × V)} {P : Addr → Addr → Addr → List (Str × V) → Prop} (h : H a = some (.ins C dx fs)) (c : Cls K C) (nA : NoAttr K C f) (l : fs.length < 1000) (k : P a C dx fs) :
    ∃ a' C' dx' fs', V.ref a = .ref a' ∧ H a' = some (.ins C' dx' fs') ∧ Cls K C' ∧ NoAttr K C' f ∧ fs'.length < 1000 ∧ P a' C' dx' fs' := ⟨a, C, dx, fs, rfl, h, c, nA, l, k⟩
theorem x_sortedI {p : Addr} {ns : List Int} {Q : VK} (h : H p = some (.lst (ns.map V.int))) (k : ∀ (ns' : List Int) (q : Addr), ns'.Perm ns → ns'.Pairwise (· ≤ ·) → H q = none → Q (.ref q) (upd H q (.lst (ns'.map V.int)))) : rSortedI K [.ref p] H Q :=
  ⟨p, ns, rfl, sq_l h, k⟩
theorem x_in {p : Addr} {x : V} {xs : List V} {Q : VK} (h : H p = some (.lst xs)) (fx : flatV x = true) (fs : xs.all flatV = true) (k : Q (.bl (inV x xs)) H) : rIn K false x (.ref p) H Q := ⟨p, xs, rfl, .inl (sq_l h), fx, fs, k⟩
theorem x_nin {p : Addr} {x : V} {xs : List V} {Q : VK} (h : H p = some (.lst xs)) (fx : flatV x = true) (fs : xs.all flatV = true) (k : Q (.bl (!inV x xs)) H) : rIn K true x (.ref p) H Q := ⟨p, xs, rfl, .inl (sq_l h), fx, fs, k⟩
end
theorem x_all {K : PySem.W.Frag} {H : Hp} {p : Addr} {bs : List Bool} {b : Bool} {Q : VK} (h : H p = some (.lst (bs.map V.bl))) (e : bs.all id = b) (k : Q (.bl b) H) : rAll K [.ref p] H Q := ⟨p, bs, rfl, sq_l h, by rw [e]; exact k⟩
theorem x_any {K : PySem.W.Frag} {H : Hp} {p : Addr} {bs : List Bool} {b : Bool} {Q : VK} (h : H p = some (.lst (bs.map V.bl))) (e : bs.any id = b) (k : Q (.bl b) H) : rAny K [.ref p] H Q := ⟨p, bs, rfl, sq_l h, by rw [e]; exact k⟩
/-! ### dicts of ints -/
section
variable {σ : St} {H : Hp} {ty td tv : TE} {Q : VK} {n : St → Hp → Prop} {rt : VK} {bk ct : St → Hp → Prop}
theorem x_dnew (h : ∀ p, H p = none → Q (.ref p) (upd H p (.dK []))) : tDNewK σ H Q := h
theorem x_din (h : ty σ H fun y H1 => td σ H1 fun x H2 => ∃ a o, x = .ref a ∧ DGet H2 a y o ∧ Q (.bl o.isSome) H2) : tDIn ty td σ H Q := h
theorem x_dnin (h : ty σ H fun y H1 => td σ H1 fun x H2 => ∃ a o, x = .ref a ∧ DGet H2 a y o ∧ Q (.bl (!o.isSome)) H2) : tDNotIn ty td σ H Q := h
theorem x_dput (h : tv σ H fun v H1 => td σ H1 fun x H2 => ty σ H2 fun y H3 => ∃ a H4, x = .ref a ∧ DPut H3 a y v H4 ∧ n σ H4) : sDPut td ty tv ⟨n, rt, bk, ct⟩ σ H := h
/-- the dict of the ints of S, each with the value f gives -/
def sD (S : List (Int × V)) : List (Key × V) := S.map fun p => (Sum.inl p.1, p.2)
theorem sD_val (S : List (Int × V)) (k : Int) : valV (sD S) (Sum.inl k : Key) = (S.find? fun p => decide (p.1 = k)).map (·.2) := by
  induction S with
  | nil => rfl
  | cons p r ih =>
    show valV ((Sum.inl p.1, p.2) :: sD r) (Sum.inl k) = _
    by_cases e : p.1 = k
    · rw [valV_pos (by rw [e]), List.find?_cons_of_pos (by simpa using e)]
      rfl
    · rw [valV_neg (fun z => e (Sum.inl.inj z)), List.find?_cons_of_neg (by simpa using e), ih]
theorem x_dgetI {d : Addr} {k : Int} {kvs : List (Key × V)} {P : Option V → Prop} (h : H d = some (.dK kvs)) (p : P (valV kvs (Sum.inl k : Key))) : ∃ a o, V.ref d = .ref a ∧ DGet H a (.int k) o ∧ P o := ⟨d, _, rfl, DGet.k (k := Sum.inl k) h, p⟩
theorem x_dputI {d : Addr} {k : Int} {kvs : List (Key × V)} {v : V} {P : Hp → Prop} (h : H d = some (.dK kvs)) (z : kvs.length < 100000) (p : P (upd H d (.dK (putK kvs (Sum.inl k : Key) v)))) : ∃ a H4, V.ref d = .ref a ∧ DPut H a (.int k) v H4 ∧ P H4 :=
  ⟨d, _, rfl, DPut.k (k := Sum.inl k) h (sz_lt z), p⟩
end
/-- a method -/
structure MetAt (K : PySem.W.Frag) (C : Addr) (m qual : Str) (st : Stmt) (ps : List Str) : Prop where
  ex : ∃ (f : Addr) (fd : FuncData), Fun K m qual st f fd ∧ PySem.W.findIn K (.ref C) m = some (some (.ref f)) ∧ PySem.W.isFn K (.ref f) = true ∧ Binds K fd ps []
structure Met (P : Program) (w : World) (K : PySem.W.Frag) (mg : Str → Option Value) (base : Heap) (CX : CXT) (k : Nat) (C : Addr) (m : Str) (sp : Sp) : Prop where
  ex : ∃ (f : Addr) (fd : FuncData) (ps : List Str), FnOk P w K mg base CX k f fd ps sp ∧ PySem.W.findIn K (.ref C) m = some (some (.ref f)) ∧ PySem.W.isFn K (.ref f) = true ∧ PySem.W.keepIn K (.ref f) = true ∧ Binds K fd ps []
/-- a property's getter -/
structure PrpAt (K : PySem.W.Frag) (C : Addr) (m qual : Str) (st : Stmt) : Prop where
  ex : ∃ (p f : Addr) (fd : FuncData), Fun K m qual st f fd ∧ PropOf K C m p f ∧ Binds K fd ["self"] []
structure Prp (P : Program) (w : World) (K : PySem.W.Frag) (mg : Str → Option Value) (base : Heap) (CX : CXT) (k : Nat) (C : Addr) (m : Str) (sp : Sp) : Prop where
  ex : ∃ (p f : Addr) (fd : FuncData) (ps : List Str), FnOk P w K mg base CX k f fd ps sp ∧ PropOf K C m p f ∧ Binds K fd ps []
section
variable {P : Program} {w : World} {K : PySem.W.Frag} {mg : Str → Option Value} {base : Heap}
/-- a def under its name -/
structure DefAt (K : PySem.W.Frag) (mg : Str → Option Value) (x : Str) (st : Stmt) (ps : List Str) : Prop where
  ex : ∃ (f : Addr) (fd : FuncData), Fun K x x st f fd ∧ mg x = some (.ref f) ∧ Binds K fd ps []
abbrev Bdy (P : Program) (w : World) (K : PySem.W.Frag) (mg : Str → Option Value) (base : Heap) (N : List Str) (qual : Str) (st : Stmt) (k : Nat) (sp : Sp) : Prop :=
  ∀ (f : Addr) (cdv : Value) (A : Around) (outer : List Env) (s : Shared) (H : Hp) (vs : List V) (Q : VK) (E : XK), Room k (A.deeper (envOfC qual (defScope st) s.heap.objs.size f cdv)) → sp vs H Q E →
      ∃ t, PSs (cxOf CX0 P w K mg base N qual (defScope st) f cdv A outer s H E).nox (defBody st) t ∧ t { nx := fun _ H' => Q .non H', rt := Q } (start N vs) H
/-- its promise, by its body; nothing leaves it but by return -/
theorem DefAt.cal {x : Str} {st : Stmt} {N ps : List Str} {k : Nat} {sp : Sp} (F : DefAt K mg x st ps) (S : FnScope N ps (defScope st)) (len : ∀ vs H Q E, sp vs H Q E → vs.length = ps.length)
    (hbody : Bdy P w K mg base N x st k sp) : Cal P w K mg base CX0 (k + 1) x sp := by
  obtain ⟨f, fd, F, m, b⟩ := F.ex
  exact ⟨f, fd, ps, F.ok S len (fun cdv A outer s H vs Q E hr h => hbody f cdv A outer s H vs Q E hr h), m, F.kp, b⟩
theorem MetAt.met {C : Addr} {m qual : Str} {st : Stmt} {N ps : List Str} {k : Nat} {sp : Sp} (F : MetAt K C m qual st ps) (S : FnScope N ps (defScope st)) (len : ∀ vs H Q E, sp vs H Q E → vs.length = ps.length)
    (hbody : Bdy P w K mg base N qual st k sp) : Met P w K mg base CX0 (k + 1) C m sp := by
  obtain ⟨f, fd, F, m1, m2, b⟩ := F.ex
  exact ⟨f, fd, ps, F.ok S len (fun cdv A outer s H vs Q E hr h => hbody f cdv A outer s H vs Q E hr h), m1, m2, F.kp, b⟩
theorem PrpAt.prp {C : Addr} {m qual : Str} {st : Stmt} {N : List Str} {k : Nat} {sp : Sp} (F : PrpAt K C m qual st) (S : FnScope N ["self"] (defScope st)) (len : ∀ vs H Q E, sp vs H Q E → vs.length = 1)
    (hbody : Bdy P w K mg base N qual st k sp) : Prp P w K mg base CX0 (k + 1) C m sp := by
  obtain ⟨p, f, fd, F, m1, b⟩ := F.ex
  exact ⟨p, f, fd, ["self"], F.ok S len (fun cdv A outer s H vs Q E hr h => hbody f cdv A outer s H vs Q E hr h), m1, b⟩
end
section
variable {X : Cx} {CX : CXT} {k j : Nat} {C : Addr} {m : Str} {sp : Sp} {E : XK} {o e : Expr} {es : List Expr} {pos apos : Pos} {ta : TE} {t : TA}
theorem pe_prp (p : Prp X.prog X.w X.K X.mg X.base CX k C m sp) (c : Cls X.K C) (hr : Room j X.A) (hk : k + 1 ≤ j) (hx : Passes CX X.nox E) (he : PE X e ta) (hab : attributeBase e m X.env (eval e X.env) = eval e X.env) : PE X (.Attribute e m pos) (tProp C sp [] E ta) := by
  obtain ⟨p, f, fd, ps, F, m1, b⟩ := p.ex
  exact pe_prop he c m1 F (hr.mono hk) b .nil hx hab
theorem pe_mak {x : Str} {p : Pos} (M : Met X.prog X.w X.K X.mg X.base CX k C "__init__" sp) (O : Own X.K X.mg x C) (hr : Room j X.A) (hk : k + 1 ≤ j) (hg : Gl X x) (hx : Passes CX X E) (ha : PA X (e :: es) t)
    (hdb : (x == ("__debug__" : Str)) = false := by decide) (he : starEach (e :: es) X.env = (false, eval e X.env) :: starEach es X.env := by rfl) (hpl : (backTo pos (starEach es X.env)).any (·.1) = false := by rfl) :
    PE X (.Call (.Name x p) (e :: es) [] pos) (tMake C sp [] E t) := by
  obtain ⟨f, fd, ps, F, m1, m2, m3, b⟩ := M.ex
  exact pe_make ⟨O.makes, m1, m2, O.kp⟩ F (hr.mono hk) hg O.mgC b .nil hx ha hdb he hpl
/-- len of an instance by its own __len__ -/
def rLenO (C : Addr) (sp : Sp) (E : XK) : List V → Hp → VK → Prop := fun xs H Q => ∃ a dx fs, xs = [.ref a] ∧ H a = some (.ins C dx fs) ∧ sp [.ref a] H (fun v H' => ∃ n : Int, v = .int n ∧ 0 ≤ n ∧ n < 2 ^ 63 ∧ Q (.int n) H') E
theorem call_lenO (M : Met X.prog X.w X.K X.mg X.base CX k C "__len__" sp) (hr : Room j X.A) (hk : k + 1 ≤ j) (hx : Passes CX X E) : CallR X (.builtin "len") (rLenO C sp E) := by
  intro pins s σ H xs us Q I r h
  obtain ⟨a, dx, fs, rfl, ha, hsp⟩ := h
  obtain ⟨u, rfl, ru⟩ := vals1 r
  obtain rfl : u = Value.ref a := ru
  obtain ⟨f, fd, ps, F, m1, m2, m3, b⟩ := M.ex
  obtain ⟨mA, J, _⟩ := ins_get I.hok ha
  obtain ⟨od, J, _⟩ := J.look
  obtain ⟨mm, hF⟩ := I.fr
  refine PySem.W.len_K hF I.ok.mod.kin J m1 m2 ?_
  have hl := F.len _ _ _ _ hsp
  have r2 : Vals [V.ref a] [Value.ref a] := .cons rfl .nil
  refine wpAny_call (codeAny_mono (F.run X.A.in1 X.stack s H ⟨[.ref a], []⟩ [.ref a] [.ref a] _ E (hr.mono hk).in1 I.env0.in1 (by
    have := b s [.ref a] I.kIn (by simpa using hl)
    simpa using this) r2 hsp) fun r s' hq => ?_)
  cases r with
  | error e => exact hx pins σ H s e s' I hq
  | ok fl =>
    cases fl with
    | ret w =>
      obtain ⟨z, H', I', rz, n, rfl, n0, n1, q⟩ := I.after hq
      obtain ⟨t', rfl⟩ := rz
      exact ⟨⟨n0, n1⟩, ⟨.int n, H', I'.tok _, ⟨_, rfl⟩, q⟩⟩
    | next => exact False.elim hq
    | brk => exact False.elim hq
    | cont => exact False.elim hq
end

/-! ### kinds of values -/
def kinds : List String := ["NoneType", "bool", "int", "str", "list", "tuple", "dict"]
/-- x is a value of the built-in kind T -/
structure Knd (K : PySem.W.Frag) (H : Hp) (x : V) (T : String) : Prop where
  ty : TyX K H x (.type T)
  mem : T ∈ kinds
theorem knd_int {K : PySem.W.Frag} {H : Hp} (i : Int) : Knd K H (.int i) "int" := ⟨.base (.int i), by decide⟩
theorem knd_bl {K : PySem.W.Frag} {H : Hp} (i : Bool) : Knd K H (.bl i) "bool" := ⟨.base (.bl i), by decide⟩
theorem knd_non {K : PySem.W.Frag} {H : Hp} : Knd K H .non "NoneType" := ⟨.base .non, by decide⟩
theorem knd_str {K : PySem.W.Frag} {H : Hp} (z : Str) : Knd K H (.str z) "str" := ⟨.base (.str z), by decide⟩
theorem knd_lst {K : PySem.W.Frag} {H : Hp} {a : Addr} {xs : List V} (h : H a = some (.lst xs)) : Knd K H (.ref a) "list" := ⟨.base (.lst h), by decide⟩
theorem knd_tup {K : PySem.W.Frag} {H : Hp} {a : Addr} {xs : List V} (h : H a = some (.tup xs)) : Knd K H (.ref a) "tuple" := ⟨.base (.tup h), by decide⟩
theorem knd_dK {K : PySem.W.Frag} {H : Hp} {a : Addr} {xs : List (Key × V)} (h : H a = some (.dK xs)) : Knd K H (.ref a) "dict" := ⟨.base (.dK h), by decide⟩
theorem kit_int {T : String} (h : T ∈ kinds) : kitB T "int" = some (T == "int" || T == "bool") := by
  simp only [kinds, List.mem_cons, List.not_mem_nil, or_false] at h
  rcases h with rfl | rfl | rfl | rfl | rfl | rfl | rfl <;> decide +kernel
theorem kit_bool {T : String} (h : T ∈ kinds) : kitB T "bool" = some (T == "bool") := by
  simp only [kinds, List.mem_cons, List.not_mem_nil, or_false] at h
  rcases h with rfl | rfl | rfl | rfl | rfl | rfl | rfl <;> decide +kernel
theorem kit_list {T : String} (h : T ∈ kinds) : kitB T "list" = some (T == "list") := by
  simp only [kinds, List.mem_cons, List.not_mem_nil, or_false] at h
  rcases h with rfl | rfl | rfl | rfl | rfl | rfl | rfl <;> decide +kernel
theorem kit_tuple {T : String} (h : T ∈ kinds) : kitB T "tuple" = some (T == "tuple") := by
  simp only [kinds, List.mem_cons, List.not_mem_nil, or_false] at h
  rcases h with rfl | rfl | rfl | rfl | rfl | rfl | rfl <;> decide +kernel
section
variable {K : PySem.W.Frag} {H : Hp} {Q : VK} {x : V} {T : String}
theorem y_isInt {b : Bool} (k : Knd K H x T) (e : (T == "int" || T == "bool") = b) (h : Q (.bl b) H) : rIsi K [x, .ty "int"] H Q := x_isi (.ty _) k.ty (kit_ty (e ▸ kit_int k.mem)) h
theorem x_isInt (k : Knd K H x T) (h : Q (.bl (T == "int" || T == "bool")) H) : rIsi K [x, .ty "int"] H Q := x_isi (.ty _) k.ty (kit_ty (kit_int k.mem)) h
theorem y_isBool {b : Bool} (k : Knd K H x T) (e : (T == "bool") = b) (h : Q (.bl b) H) : rIsi K [x, .ty "bool"] H Q := x_isi (.ty _) k.ty (kit_ty (e ▸ kit_bool k.mem)) h
theorem x_isBool (k : Knd K H x T) (h : Q (.bl (T == "bool")) H) : rIsi K [x, .ty "bool"] H Q := x_isi (.ty _) k.ty (kit_ty (kit_bool k.mem)) h
theorem y_isList {b : Bool} (k : Knd K H x T) (e : (T == "list") = b) (h : Q (.bl b) H) : rIsi K [x, .ty "list"] H Q := x_isi (.ty _) k.ty (kit_ty (e ▸ kit_list k.mem)) h
theorem x_isList (k : Knd K H x T) (h : Q (.bl (T == "list")) H) : rIsi K [x, .ty "list"] H Q := x_isi (.ty _) k.ty (kit_ty (kit_list k.mem)) h
theorem y_isTuple {b : Bool} (k : Knd K H x T) (e : (T == "tuple") = b) (h : Q (.bl b) H) : rIsi K [x, .ty "tuple"] H Q := x_isi (.ty _) k.ty (kit_ty (e ▸ kit_tuple k.mem)) h
theorem x_isTuple (k : Knd K H x T) (h : Q (.bl (T == "tuple")) H) : rIsi K [x, .ty "tuple"] H Q := x_isi (.ty _) k.ty (kit_ty (kit_tuple k.mem)) h
end

/-! ### what the top has written -/
section
variable {K : PySem.W.Frag} {h : Heap} {mg : Str → Option Value}
theorem defAt_mk {x : Str} {st : Stmt} {ps : List Str} {f : Addr} {oc : Value} {od an : Option Addr} {osl : Array (Option Value)} {kV doc pm cdv ct : Value} (X : K.In h) (G : h.Ns mainGlobals mg)
    (a : PySem.W.nsIn K mainGlobals x = some (some (.ref f))) (l : K.lookup f = some ⟨oc, od, .func (PySem.W.fnOf x x (defArgs st) (defBody st) (defScope st) .none kV doc pm an cdv ct), osl⟩) (c : PySem.W.codeIn K cdv x = true) (k : PySem.W.keepIn K (.ref f) = true)
    (b : ∀ (kV doc pm : Value) (an : Option Addr) (cdv ct : Value) (us : List Value), us.length = ps.length → bindArgs (PySem.W.fnOf x x (defArgs st) (defBody st) (defScope st) .none kV doc pm an cdv ct) ⟨us, []⟩ = pure (ps.zip us)) : DefAt K mg x st ps :=
  ⟨f, _, fun_mk l c k, PySem.W.mg_of X G a, (fun_mk l c k).binds b⟩
theorem metAt_mk {m qual : Str} {st : Stmt} {ps : List Str} {f C : Addr} {oc : Value} {od an : Option Addr} {osl : Array (Option Value)} {kV doc pm cdv ct : Value}
    (a : PySem.W.findIn K (.ref C) m = some (some (.ref f))) (i : PySem.W.isFn K (.ref f) = true) (l : K.lookup f = some ⟨oc, od, .func (PySem.W.fnOf m qual (defArgs st) (defBody st) (defScope st) .none kV doc pm an cdv ct), osl⟩) (c : PySem.W.codeIn K cdv qual = true) (k : PySem.W.keepIn K (.ref f) = true)
    (b : ∀ (kV doc pm : Value) (an : Option Addr) (cdv ct : Value) (us : List Value), us.length = ps.length → bindArgs (PySem.W.fnOf m qual (defArgs st) (defBody st) (defScope st) .none kV doc pm an cdv ct) ⟨us, []⟩ = pure (ps.zip us)) : MetAt K C m qual st ps :=
  ⟨f, _, fun_mk l c k, a, i, (fun_mk l c k).binds b⟩
theorem prpAt_mk {m qual : Str} {st : Stmt} {p f C : Addr} {oc : Value} {od an : Option Addr} {osl : Array (Option Value)} {kV doc pm cdv ct : Value} {rest : List Value}
    (a : PySem.W.findIn K (.ref C) m = some (some (.ref p))) (g : PySem.W.specialIn K (.ref p) "__get__" = some (some (.builtin "property.__get__"))) (t : PySem.W.takesIn K (.ref p) = some true) (r : PySem.W.recIn K p "property" = some (.ref f :: rest))
    (l : K.lookup f = some ⟨oc, od, .func (PySem.W.fnOf m qual (defArgs st) (defBody st) (defScope st) .none kV doc pm an cdv ct), osl⟩) (c : PySem.W.codeIn K cdv qual = true) (k : PySem.W.keepIn K (.ref f) = true)
    (b : ∀ (kV doc pm : Value) (an : Option Addr) (cdv ct : Value) (us : List Value), us.length = (["self"] : List Str).length → bindArgs (PySem.W.fnOf m qual (defArgs st) (defBody st) (defScope st) .none kV doc pm an cdv ct) ⟨us, []⟩ = pure ((["self"] : List Str).zip us)) : PrpAt K C m qual st :=
  ⟨p, f, _, fun_mk l c k, ⟨a, g, t, _, r⟩, (fun_mk l c k).binds b⟩
theorem own_mk {nm : Str} {C : Addr} (X : K.In h) (G : h.Ns mainGlobals mg) (a : PySem.W.nsIn K mainGlobals nm = some (some (.ref C))) (pg : PySem.W.plainGet K C Str.empty = true) (hd : PySem.W.hasDictIn K C = true) (po : PySem.W.plainOver K C = true)
    (sa : PySem.W.findIn K (.ref C) "__setattr__" = some (some (.builtin "object.__setattr__"))) (mk : PySem.W.makesIn K C = true) (kp : PySem.W.keepIn K (.ref C) = true) : Own K mg nm C := ⟨⟨pg, hd, po, sa⟩, PySem.W.mg_of X G a, mk, kp⟩
end
def spLaw (K : PySem.W.Frag) : Sp := fun vs H Q _ => ∃ (a : Addr) (ns : List Int), vs = [.ref a] ∧ SqL K H a (ns.map V.int) ∧ ns.length ≤ 63 ∧ ∀ H', Q (.bl true) H'
theorem same_keep {H H1 H2 : Hp} {p : Addr} (s : Same H H1) (k : Keep p H1 H2) (p0 : H p = none) : Same H H2 := fun a o h => k a o (s a o h) (ne_of_none h p0)
end OC

namespace OC
open PySem PySem.Spec PyProof.Rows L2
/-! ### the steps -/
local macro_rules | `(tactic| walk_at "look") => `(tactic| first
  | assumption
  | exact upd_same
  | (refine new_at (by assumption) ?_; walk_at "look")
  | (refine upd_at (by walk_at "ne") ?_; walk_at "look")
  | (refine Keep.at (by assumption) ?_ (by walk_at "ne"); walk_at "look")
  | (refine sat (by assumption) ?_; walk_at "look"))
local macro_rules | `(tactic| walk_at "knd") => `(tactic| first
  | exact knd_int _
  | exact knd_lst (by walk_at "look")
  | exact knd_tup (by walk_at "look")
  | exact knd_bl _
  | exact knd_non
  | exact knd_str _
  | exact knd_dK (by walk_at "look"))
local macro_rules | `(tactic| walk_at "ne") => `(tactic| first
  | assumption
  | exact Ne.symm (by assumption))
local macro_rules | `(tactic| walk_at "ar") => `(tactic| first
  | omega
  | assumption
  | (simp only [List.length_cons, List.length_nil, List.length_append, List.length_map]; omega)
  | rfl
  | decide)
local macro_rules | `(tactic| walk_at "s1") => `(tactic| first
  | with_reducible refine x_seq ?_
  | ((with_reducible refine' x_var ?k0 ?_); (case k0 => with_unfolding_all rfl))
  | with_reducible refine x_c ?_
  | with_reducible refine x_op ?_
  | with_reducible refine x_I0 ?_
  | with_reducible refine x_asg ?_
  | ((with_reducible refine' x_name ?k0 ?_); (case k0 => with_unfolding_all rfl))
  | with_reducible refine x_next ?_
  | with_reducible refine x_ret ?_
  | with_reducible refine x_drop ?_
  | with_reducible refine x_ifs ?_
  | with_reducible refine x_test ?_
  | with_reducible refine x_B ?_
  | with_reducible refine x_bl ?_
  | with_reducible refine x_cons ?_
  | with_reducible refine x_nil ?_
  | with_reducible refine x_cb ?_
  | with_reducible refine x_call ?_
  | with_reducible refine x_tup ?_
  | with_reducible refine x_lst ?_
  | with_reducible refine x_bm ?_
  | with_reducible refine x_bm0 ?_
  | with_reducible refine x_un ?_
  | with_reducible refine x_U ?_
  | with_reducible refine x_not ?_
  | with_reducible refine x_and ?_
  | with_reducible refine x_or ?_
  | with_reducible refine x_andV ?_
  | with_reducible refine x_orV ?_
  | with_reducible refine x_notV ?_
  | with_reducible refine x_if ?_
  | with_reducible refine x_sub ?_
  | with_reducible refine x_gCons ?_
  | with_reducible refine x_gNil ?_
  | with_reducible refine x_retN ?_
  | with_reducible refine x_break ?_
  | with_reducible refine x_cont ?_
  | with_reducible refine x_T ?_
  | with_reducible refine x_nT ?_
  | with_reducible refine x_nF ?_
  | with_reducible refine x_meth0 ?_
  | with_reducible refine x_meth ?_
  | with_reducible refine x_prop ?_
  | with_reducible refine x_F ?_
  | with_reducible refine x_int_i ?_
  | with_reducible refine x_int_b ?_
  | with_reducible refine x_max2 ?_
  | with_reducible refine x_min2 ?_
  | with_reducible refine x_for ?_
  | with_reducible refine x_lc ?_
  | with_reducible refine x_lc2 ?_
  | with_reducible refine x_rg1 ?_
  | with_reducible refine x_rg2 ?_
  | with_reducible refine x_il ?_
  | with_reducible refine x_yes ?_
  | with_reducible refine x_tfld ?_
  | with_reducible refine x_din ?_
  | with_reducible refine x_dnin ?_
  | with_reducible refine x_dput ?_
  | with_reducible refine x_lstRg ?_
  | with_reducible refine x_tRg1 ?_
  | with_reducible refine x_rgN ?_
  | with_reducible refine x_sfld ?_
  | with_reducible refine x_make ?_
  | with_reducible refine x_eqI ?_
  | with_reducible refine x_neI ?_)
local macro_rules | `(tactic| walk_at "s2") => `(tactic| first
  | ((with_reducible refine' x_ixL ?k0 ?k1 ?_); (case k0 => walk_at "look"); (case k1 => first | assumption | with_unfolding_all rfl))
  | ((with_reducible refine' x_ixT ?k0 ?k1 ?_); (case k0 => walk_at "look"); (case k1 => first | assumption | with_unfolding_all rfl))
  | ((with_reducible refine' x_mod ?k0 ?_); (case k0 => walk_at "ar"))
  | ((with_reducible refine' x_div ?k0 ?k1 ?_); (case k0 => walk_at "ar"); (case k1 => walk_at "ar"))
  | ((with_reducible refine' x_mull ?k0 ?k1 ?_); (case k0 => omega); (case k1 => omega))
  | ((with_reducible refine' x_mulr ?k0 ?k1 ?_); (case k0 => omega); (case k1 => omega))
  | ((with_reducible refine' x_pow ?k0 ?k1 ?k2 ?_); (case k0 => decide); (case k1 => decide); (case k2 => decide))
  | ((with_reducible refine' x_divW ?k0 ?k1 ?_); (case k0 => decide); (case k1 => decide))
  | ((with_reducible refine' x_tyL ?k0 ?_); (case k0 => walk_at "look"))
  | ((with_reducible refine' x_append ?k0 ?k1 ?_); (case k0 => walk_at "look"); (case k1 => exact sz_lt (by walk_at "ar")))
  | ((with_reducible refine' x_setL ?k0 ?k1 ?k2 ?_); (case k0 => walk_at "look"); (case k1 => walk_at "ar"); (case k2 => walk_at "ar"))
  | ((with_reducible refine' x_gTup ?k0 ?k1 ?_); (case k0 => walk_at "look"); (case k1 => with_unfolding_all rfl))
  | ((with_reducible refine' x_it ?k0 ?_); (case k0 => walk_at "ar"))
  | ((with_reducible refine' x_if0 ?k0 ?_); (case k0 => walk_at "ar"))
  | ((with_reducible refine' x_itn0 ?k0 ?_); (case k0 => walk_at "ar"))
  | ((with_reducible refine' x_itn1 ?k0 ?_); (case k0 => walk_at "ar"))
  | ((with_reducible refine' x_r1 ?k0 ?k1 ?_); (case k0 => walk_at "ar"); (case k1 => walk_at "ar"))
  | ((with_reducible refine' x_r2 ?k0 ?k1 ?k2 ?k3 ?_); (case k0 => walk_at "ar"); (case k1 => walk_at "ar"); (case k2 => walk_at "ar"); (case k3 => walk_at "ar"))
  | ((with_reducible refine' x_rgOk ?k0 ?k1 ?_); (case k0 => walk_at "ar"); (case k1 => walk_at "ar"))
  | ((with_reducible refine' x_ill ?k0 ?_); (case k0 => walk_at "look"))
  | ((with_reducible refine' x_wipe ?k0 ?_); (case k0 => with_unfolding_all rfl))
  | ((with_reducible refine' x_fld ?k0 ?k1 ?k2 ?k3 ?_); (case k0 => walk_at "look"); (case k1 => assumption); (case k2 => assumption); (case k3 => assumption))
  | ((with_reducible refine' y_isInt (b := true) ?k0 ?k1 ?_); (case k0 => walk_at "knd"); (case k1 => decide))
  | ((with_reducible refine' y_isInt (b := false) ?k0 ?k1 ?_); (case k0 => walk_at "knd"); (case k1 => decide))
  | ((with_reducible refine' y_isBool (b := true) ?k0 ?k1 ?_); (case k0 => walk_at "knd"); (case k1 => decide))
  | ((with_reducible refine' y_isBool (b := false) ?k0 ?k1 ?_); (case k0 => walk_at "knd"); (case k1 => decide))
  | ((with_reducible refine' y_isList (b := true) ?k0 ?k1 ?_); (case k0 => walk_at "knd"); (case k1 => decide))
  | ((with_reducible refine' y_isList (b := false) ?k0 ?k1 ?_); (case k0 => walk_at "knd"); (case k1 => decide))
  | ((with_reducible refine' y_isTuple (b := true) ?k0 ?k1 ?_); (case k0 => walk_at "knd"); (case k1 => decide))
  | ((with_reducible refine' y_isTuple (b := false) ?k0 ?k1 ?_); (case k0 => walk_at "knd"); (case k1 => decide))
  | ((with_reducible refine' x_inp ?k0 ?_); (case k0 => walk_at "look"))
  | ((with_reducible refine' x_len ?k0 ?_); (case k0 => walk_at "look"))
  | ((with_reducible refine' x_lenT ?k0 ?_); (case k0 => walk_at "look"))
  | ((with_reducible refine' x_rev ?k0 ?_); (case k0 => walk_at "look")))
local macro_rules | `(tactic| walk_at "go") => `(tactic| repeat (first | walk_at "s1" | walk_at "s2"))
open LamX
variable {TL : List (Addr × Str)}
def topS (i : Nat) : Stmt := PySem.Challenge.pw_ownhues_k64_first_winning_turns.main.body.getD i (.Pass ⟨0, 0, 0, 0⟩)
/-- what the top has left alone -/
structure Tx (mg : Str → Option Value) : Prop where
  z_abs : mg "abs" = none
  z_all : mg "all" = none
  z_any : mg "any" = none
  z_bool : mg "bool" = none
  z_enumerate : mg "enumerate" = none
  z_int : mg "int" = none
  z_isinstance : mg "isinstance" = none
  z_len : mg "len" = none
  z_list : mg "list" = none
  z_property : mg "property" = none
  z_range : mg "range" = none
  z_sorted : mg "sorted" = none
  z_tuple : mg "tuple" = none
/-! ### whether a value is an integer -/
def spIsInt (K : PySem.W.Frag) : Sp := fun vs H Q _ => ∃ x T, vs = [x] ∧ Knd K H x T ∧ Q (.bl (T == "int")) H
theorem isint_val {T : String} (h : T ∈ kinds) : (T == "int" || T == "bool") = true → (!(T == "bool")) = (T == "int") := by
  simp only [kinds, List.mem_cons, List.not_mem_nil, or_false] at h
  rcases h with rfl | rfl | rfl | rfl | rfl | rfl | rfl <;> decide
theorem isint_no {T : String} (h : (T == "int" || T == "bool") = false) : (T == "int") = false := (Bool.or_eq_false_iff.mp h).1
theorem x_spInt {K : PySem.W.Frag} {H : Hp} {Q : VK} {E : XK} {i : Int} (h : Q (.bl true) H) : spIsInt K [.int i] H Q E := ⟨.int i, "int", rfl, knd_int i, h⟩
abbrev s_is_integer : Stmt := topS 8
theorem sc_is_integer : FnScope ["value"] ["value"] (defScope s_is_integer) := ⟨rfl, rfl, rfl, by decide +kernel, rfl, by decide +kernel, by decide +kernel⟩
section
variable {P : Program} {w : World} {K : PySem.W.Frag} {mg : Str → Option Value} {base : Heap}
theorem c_is_integer (T : Tx mg) (F : DefAt K mg "is_integer" s_is_integer ["value"]) : Cal P w K mg base CX0 1 "is_integer" (spIsInt K) := by
  refine F.cal sc_is_integer (fun vs H Q E h => ?_) (fun f cdv A outer s H vs Q E hr h => ?_)
  · obtain ⟨x, T, rfl, _⟩ := h
    rfl
  · obtain ⟨x, Ty, rfl, k, q⟩ := h
    refine ⟨_, (pss_one (ps_ret (pe_and (pe_callB (cl_isi K) (by rfl) T.z_isinstance (by decide +kernel) (pa_cons (pv 0) (pa_cons (pe_bltn (v := .ty "int") (by rfl) T.z_int (by decide +kernel) rfl) pa_nil))) (pe_one (pe_not (pe_callB (cl_isi K) (by rfl) T.z_isinstance (by decide +kernel) (pa_cons (pv 0) (pa_cons (pe_bltn (v := .ty "bool") (by rfl) T.z_bool (by decide +kernel) rfl) pa_nil)))))))), ?_⟩
    walk_at "go"
    refine x_isInt k ?_
    walk_at "go"
    refine x_itb (fun c => ?_) (fun c => ?_)
    · walk_at "go"
      refine x_isBool k ?_
      walk_at "go"
      rw [isint_val k.mem c]
      exact q
    · rw [isint_no c] at q
      exact q
end
abbrev s_is_tie : Stmt := topS 9
theorem sc_is_tie : FnScope ["places", "value"] ["places", "value"] (defScope s_is_tie) := ⟨rfl, rfl, rfl, by decide +kernel, rfl, by decide +kernel, by decide +kernel⟩
def spTie : Sp := fun vs H Q _ => ∃ (n : Int) (t : Addr) (a b : Int), vs = [.int n, .ref t] ∧ H t = some (.tup [.int a, .int b]) ∧ Q (.bl (decide (0 ≤ a ∧ a < b ∧ b < n))) H
section
variable {P : Program} {w : World} {K : PySem.W.Frag} {mg : Str → Option Value} {base : Heap}
theorem c_is_tie (T : Tx mg) (F : DefAt K mg "is_tie" s_is_tie ["places", "value"]) (c_is_integer : Cal P w K mg base CX0 1 "is_integer" (spIsInt K)) : Cal P w K mg base CX0 2 "is_tie" spTie := by
  refine F.cal sc_is_tie (fun vs H Q E h => ?_) (fun f cdv A outer s H vs Q E hr h => ?_)
  · obtain ⟨n, t, a, b, rfl, _⟩ := h
    rfl
  · obtain ⟨n, t, a, b, rfl, ht, q⟩ := h
    refine ⟨_, (pss_cons (ps_if (PW.pt (pw_or (pt_not (pt_val (pe_callB (cl_isi K) (by rfl) T.z_isinstance (by decide +kernel) (pa_cons (pv 1) (pa_cons (pe_bltn (v := .ty "tuple") (by rfl) T.z_tuple (by decide +kernel) rfl) pa_nil))))) (pw_or1 (pt_cmpR op_ne (pe_callB (cl_len K) (by rfl) T.z_len PySem.boot_len (pa_cons (pv 1) pa_nil)) pe_int (nomark _)))))
        (pss_one (ps_ret pe_bl)) pss_nil)
      (pss_cons (ps_if (PW.pt (pw_or (pt_not (pt_val (pe_cal c_is_integer hr (by decide) rfl pass0 (pa_cons (pe_ix (ix_t K) (pv 1) pe_int (fun _ _ => rfl)) pa_nil)))) (pw_or1 (pt_not (pt_val (pe_cal c_is_integer hr (by decide) rfl pass0 (pa_cons (pe_ix (ix_t K) (pv 1) pe_int (fun _ _ => rfl)) pa_nil)))))))
        (pss_one (ps_ret pe_bl)) pss_nil)
      (pss_one (ps_ret (pe_and (pe_cmpR op_le pe_int (pe_ix (ix_t K) (pv 1) pe_int (fun _ _ => rfl)) (nomark _)) (pe_and (pe_cmpR op_lt (pe_ix (ix_t K) (pv 1) pe_int (fun _ _ => rfl)) (pe_ix (ix_t K) (pv 1) pe_int (fun _ _ => rfl)) (nomark _)) (pe_one (pe_cmpR op_lt (pe_ix (ix_t K) (pv 1) pe_int (fun _ _ => rfl)) (pv 0) (nomark _))))))))), ?_⟩
    walk_at "go"
    refine x_spInt ?_
    walk_at "go"
    refine x_spInt ?_
    walk_at "go"
    refine x_ite (fun c1 => ?_) (fun c1 => ?_)
    · walk_at "go"
      refine x_ite (fun c2 => ?_) (fun c2 => ?_)
      · walk_at "go"
        have e : decide (b < n) = decide (0 ≤ a ∧ a < b ∧ b < n) := by simp [c1, c2]
        rw [e]
        exact q
      · rw [decide_eq_false (by omega)] at q
        exact q
    · rw [decide_eq_false (by omega)] at q
      exact q
end
/-! ### webs in plain Lean: a number of places, a relation -/
abbrev Rel := Nat → Nat → Bool
/-- a web of n places -/
structure Gr (n : Nat) (e : Rel) : Prop where
  sym : ∀ u v, e u v = e v u
  irr : ∀ u, e u u = false
  lt : ∀ u v, e u v = true → u < n
theorem Gr.lt2 {n : Nat} {e : Rel} (g : Gr n e) {u v : Nat} (h : e u v = true) : v < n := g.lt v u (by rw [g.sym]; exact h)
/-- the neighbours of a place, ascending -/
def nb (n : Nat) (e : Rel) (u : Nat) : List Nat := (List.range n).filter (e u)
theorem mem_nb {n : Nat} {e : Rel} {u v : Nat} : v ∈ nb n e u ↔ v < n ∧ e u v = true := by
  unfold nb
  rw [List.mem_filter, List.mem_range]
theorem nb_pw (n : Nat) (e : Rel) (u : Nat) : (nb n e u).Pairwise (· < ·) := List.Pairwise.filter _ List.pairwise_lt_range
theorem nodup_of_lt {l : List Nat} (h : l.Pairwise (· < ·)) : l.Nodup := h.imp fun h => Nat.ne_of_lt h
theorem nb_len (n : Nat) (e : Rel) (u : Nat) : (nb n e u).length ≤ n := by
  have h := List.length_filter_le (e u) (List.range n)
  rw [List.length_range] at h
  exact h
/-- two ascending lists of the same numbers are one -/
theorem asc_eq {l m : List Nat} (hl : l.Pairwise (· < ·)) (hm : m.Pairwise (· < ·)) (h : ∀ x, x ∈ l ↔ x ∈ m) : l = m := by
  have p : l.Perm m := (List.perm_ext_iff_of_nodup (nodup_of_lt hl) (nodup_of_lt hm)).mpr h
  exact List.Perm.eq_of_pairwise (fun a b _ _ h1 h2 => absurd (Nat.lt_trans h1 h2) (Nat.lt_irrefl _)) hl hm p
abbrev Tie := Nat × Nat
/-- the relation of a list of ties -/
def eOf (ps : List Tie) : Rel := fun u v => ps.contains (u, v) || ps.contains (v, u)
theorem eOf_iff {ps : List Tie} {u v : Nat} : eOf ps u v = true ↔ (u, v) ∈ ps ∨ (v, u) ∈ ps := by
  unfold eOf
  rw [Bool.or_eq_true, List.contains_iff_mem, List.contains_iff_mem]
/-- ties of a web of n places -/
structure TOk (n : Nat) (ps : List Tie) : Prop where
  nd : ps.Nodup
  ok : ∀ p ∈ ps, p.1 < p.2 ∧ p.2 < n
theorem TOk.gr {n : Nat} {ps : List Tie} (t : TOk n ps) : Gr n (eOf ps) where
  sym := fun u v => by unfold eOf; rw [Bool.or_comm]
  irr := fun u => by
    cases h : eOf ps u u
    · rfl
    · rcases eOf_iff.mp h with h | h <;> exact absurd (t.ok _ h).1 (Nat.lt_irrefl _)
  lt := fun u v h => by
    rcases eOf_iff.mp h with h | h
    · have := t.ok _ h
      exact Nat.lt_trans this.1 this.2
    · exact (t.ok _ h).2
theorem TOk.perm {n : Nat} {ps qs : List Tie} (t : TOk n ps) (p : qs.Perm ps) : TOk n qs := ⟨p.nodup_iff.mpr t.nd, fun x hx => t.ok x (p.mem_iff.mp hx)⟩
theorem eOf_perm {ps qs : List Tie} (p : qs.Perm ps) : eOf qs = eOf ps := by
  funext u v
  have h : eOf qs u v = true ↔ eOf ps u v = true := by rw [eOf_iff, eOf_iff, p.mem_iff, p.mem_iff]
  cases a : eOf qs u v <;> cases b : eOf ps u v <;> simp_all
/-- the other ends at j, in the order of the ties -/
def ends (j : Nat) (p : Tie) : Option Nat := if p.1 = j then some p.2 else if p.2 = j then some p.1 else none
def nbr (ps : List Tie) (j : Nat) : List Nat := ps.filterMap (ends j)
theorem nbr_snoc (ps : List Tie) (p : Tie) (j : Nat) : nbr (ps ++ [p]) j = nbr ps j ++ (ends j p).toList := by
  unfold nbr
  rw [List.filterMap_append]
  cases h : ends j p <;> simp [List.filterMap_cons, h]
theorem mem_nbr {n : Nat} {ps : List Tie} (t : TOk n ps) {j v : Nat} : v ∈ nbr ps j ↔ eOf ps j v = true := by
  unfold nbr
  rw [List.mem_filterMap, eOf_iff]
  constructor
  · rintro ⟨⟨a, b⟩, h, e⟩
    unfold ends at e
    simp only at e
    split at e
    · rename_i q
      cases e
      subst q
      exact .inl h
    · split at e
      · rename_i q
        cases e
        subst q
        exact .inr h
      · cases e
  · rintro (h | h)
    · exact ⟨_, h, by simp [ends]⟩
    · refine ⟨_, h, ?_⟩
      have := t.ok _ h
      simp only at this
      unfold ends
      simp only
      rw [if_neg (by omega)]
      simp
theorem nbr_nodup {n : Nat} : ∀ {ps : List Tie}, TOk n ps → ∀ j, (nbr ps j).Nodup
  | [], _, _ => List.nodup_nil
  | p :: r, t, j => by
    have t' : TOk n r := ⟨(List.nodup_cons.mp t.nd).2, fun x hx => t.ok x (List.mem_cons_of_mem _ hx)⟩
    have ih := nbr_nodup t' j
    show (List.filterMap (ends j) (p :: r)).Nodup
    rw [List.filterMap_cons]
    cases e : ends j p with
    | none => exact ih
    | some v =>
      refine List.nodup_cons.mpr ⟨fun hm => ?_, ih⟩
      have h1 := (mem_nbr t').mp hm
      have np := (List.nodup_cons.mp t.nd).1
      have op := t.ok p (List.mem_cons_self ..)
      obtain ⟨a, b⟩ := p
      simp only at op
      unfold ends at e
      simp only at e
      split at e
      · rename_i q
        cases e
        subst q
        rcases eOf_iff.mp h1 with h | h
        · exact np h
        · have := t'.ok _ h
          simp only at this
          omega
      · split at e
        · rename_i q
          cases e
          subst q
          rcases eOf_iff.mp h1 with h | h
          · have := t'.ok _ h
            simp only at this
            omega
          · exact np h
        · cases e
/-- in order, these are the neighbours -/
theorem nbr_sorted {n : Nat} {ps : List Tie} (t : TOk n ps) {j : Nat} {l : List Int} (p : l.Perm ((nbr ps j).map fun (v : Nat) => (v : Int))) (s : l.Pairwise (· ≤ ·)) : l = (nb n (eOf ps) j).map fun (v : Nat) => (v : Int) := by
  have q : (nb n (eOf ps) j).Perm (nbr ps j) := by
    refine (List.perm_ext_iff_of_nodup (nodup_of_lt (nb_pw _ _ _)) (nbr_nodup t j)).mpr fun v => ?_
    rw [mem_nb, mem_nbr t]
    exact ⟨fun h => h.2, fun h => ⟨t.gr.lt2 h, h⟩⟩
  refine List.Perm.eq_of_pairwise (le := (· ≤ ·)) (fun a b _ _ h1 h2 => Int.le_antisymm h1 h2) s ?_ (p.trans (q.map _).symm)
  refine List.pairwise_map.mpr ((nb_pw _ _ _).imp fun h => ?_)
  omega
/-- all ties of a web, ascending -/
def tiesOf (n : Nat) (e : Rel) : List Tie := (List.range n).flatMap fun u => ((nb n e u).filter fun v => decide (u < v)).map fun v => (u, v)
theorem mem_tiesOf {n : Nat} {e : Rel} {p : Tie} : p ∈ tiesOf n e ↔ p.1 < n ∧ p.2 < n ∧ p.1 < p.2 ∧ e p.1 p.2 = true := by
  obtain ⟨a, b⟩ := p
  unfold tiesOf
  rw [List.mem_flatMap]
  simp only [List.mem_map, List.mem_filter, mem_nb, List.mem_range, decide_eq_true_eq, Prod.mk.injEq]
  constructor
  · rintro ⟨u, hu, v, ⟨⟨h1, h2⟩, h3⟩, rfl, rfl⟩
    exact ⟨hu, h1, h3, h2⟩
  · rintro ⟨h1, h2, h3, h4⟩
    exact ⟨a, h1, b, ⟨⟨h2, h4⟩, h3⟩, rfl, rfl⟩
def ltT (p q : Tie) : Prop := p.1 < q.1 ∨ p.1 = q.1 ∧ p.2 < q.2
theorem ltT_asymm {p q : Tie} (h : ltT p q) (k : ltT q p) : False := by
  unfold ltT at h k
  omega
theorem tiesOf_pw (n : Nat) (e : Rel) : (tiesOf n e).Pairwise ltT := by
  unfold tiesOf
  rw [List.pairwise_flatMap]
  constructor
  · intro u _
    refine List.pairwise_map.mpr (List.Pairwise.filter _ ((nb_pw n e u).imp fun h => ?_))
    exact .inr ⟨rfl, h⟩
  · refine List.pairwise_lt_range.imp fun h => ?_
    intro x hx y hy
    obtain ⟨v, _, rfl⟩ := List.mem_map.mp hx
    obtain ⟨w, _, rfl⟩ := List.mem_map.mp hy
    exact .inl h
theorem ascT_eq {l m : List Tie} (hl : l.Pairwise ltT) (hm : m.Pairwise ltT) (h : ∀ x, x ∈ l ↔ x ∈ m) : l = m := by
  have nd : ∀ {k : List Tie}, k.Pairwise ltT → k.Nodup := fun hk => hk.imp fun h e => by
    subst e
    exact ltT_asymm h h
  have p : l.Perm m := (List.perm_ext_iff_of_nodup (nd hl) (nd hm)).mpr h
  exact List.Perm.eq_of_pairwise (fun a b _ _ h1 h2 => (ltT_asymm h1 h2).elim) hl hm p
theorem nodupT {k : List Tie} (hk : k.Pairwise ltT) : k.Nodup := hk.imp fun h e => by
  subst e
  exact ltT_asymm h h
/-- the ties in order are all ties of their web -/
theorem ties_eq {n : Nat} {ps : List Tie} (t : TOk n ps) (s : ps.Pairwise ltT) : tiesOf n (eOf ps) = ps := by
  refine ascT_eq (tiesOf_pw _ _) s fun p => ?_
  rw [mem_tiesOf]
  obtain ⟨a, b⟩ := p
  constructor
  · rintro ⟨h1, h2, h3, h4⟩
    rcases eOf_iff.mp h4 with h | h
    · exact h
    · have := t.ok _ h
      simp only at this h3
      omega
  · intro h
    have := t.ok _ h
    simp only at this ⊢
    exact ⟨by omega, by omega, by omega, eOf_iff.mpr (.inl h)⟩
theorem nodup_le {n : Nat} {l : List Nat} (nd : l.Nodup) (h : ∀ x ∈ l, x < n) : l.length ≤ n := by
  have s := nd.length_le_of_subset (l₂ := List.range n) fun x hx => List.mem_range.mpr (h x hx)
  rw [List.length_range] at s
  exact s
/-! ### a web in the heap -/
def nv (l : List Nat) : List V := l.map fun (v : Nat) => V.int (v : Int)
theorem nv_len (l : List Nat) : (nv l).length = l.length := by unfold nv; rw [List.length_map]
theorem nv_app (l m : List Nat) : nv (l ++ m) = nv l ++ nv m := by unfold nv; rw [List.map_append]
theorem nv_flat (l : List Nat) : (nv l).all flatV = true := by
  unfold nv
  rw [List.all_map, List.all_eq_true]
  exact fun _ _ => rfl
theorem nv_ints (l : List Nat) : nv l = (l.map fun (v : Nat) => (v : Int)).map V.int := by
  unfold nv
  rw [List.map_map]
  rfl
theorem nv_at {l : List Nat} {i v : Nat} (h : l[i]? = some v) : (nv l)[i]? = some (.int (v : Int)) := by
  unfold nv
  rw [List.getElem?_map, h]
  rfl
theorem of_nv {l : List Nat} {i : Nat} {x : V} (h : (nv l)[i]? = some x) : ∃ v : Nat, x = .int (v : Int) ∧ l[i]? = some v := by
  unfold nv at h
  rw [List.getElem?_map] at h
  cases e : l[i]? with
  | none => rw [e] at h; cases h
  | some a => rw [e] at h; exact ⟨a, (Option.some.inj h).symm, rfl⟩
theorem refs_at {l : List Addr} {i : Nat} {a : Addr} (h : l[i]? = some a) : (l.map V.ref)[i]? = some (.ref a) := by
  rw [List.getElem?_map, h]
  rfl
theorem of_refs {l : List Addr} {i : Nat} {x : V} (h : (l.map V.ref)[i]? = some x) : ∃ a, x = .ref a ∧ l[i]? = some a := by
  rw [List.getElem?_map] at h
  cases e : l[i]? with
  | none => rw [e] at h; cases h
  | some a => rw [e] at h; exact ⟨a, (Option.some.inj h).symm, rfl⟩
theorem nv_in {v : Nat} {l : List Nat} : inV (.int (v : Int)) (nv l) = decide (v ∈ l) := by
  unfold inV nv
  rw [List.any_map, Bool.eq_iff_iff, List.any_eq_true, decide_eq_true_eq]
  constructor
  · rintro ⟨a, ha, e⟩
    have e2 : (a : Int) = (v : Int) := by simpa [eqV] using e
    have : a = v := by omega
    rw [← this]; exact ha
  · intro h
    exact ⟨v, h, by simp [eqV]⟩
theorem x_inN {K : PySem.W.Frag} {H : Hp} {p : Addr} {v : Nat} {l : List Nat} {Q : VK} (h : H p = some (.lst (nv l))) (k : Q (.bl (decide (v ∈ l))) H) : rIn K false (.int (v : Int)) (.ref p) H Q := by
  refine x_in h rfl (nv_flat l) ?_
  rw [nv_in]
  exact k
theorem x_ninN {K : PySem.W.Frag} {H : Hp} {p : Addr} {v : Nat} {l : List Nat} {Q : VK} (h : H p = some (.lst (nv l))) (k : Q (.bl (!decide (v ∈ l))) H) : rIn K true (.int (v : Int)) (.ref p) H Q := by
  refine x_nin h rfl (nv_flat l) ?_
  rw [nv_in]
  exact k
/-- without u -/
def Hd (u : Addr) (H : Hp) : Hp := fun a => if a = u then none else H a
theorem hd_at {u a : Addr} {H : Hp} {o : HO} (h : H a = some o) (n : a ≠ u) : Hd u H a = some o := by unfold Hd; rw [if_neg n]; exact h
theorem hd_of {u a : Addr} {H : Hp} {o : HO} (h : Hd u H a = some o) : H a = some o ∧ a ≠ u := by
  unfold Hd at h
  split at h
  · cases h
  · rename_i n
    exact ⟨h, n⟩
theorem hd_same {u : Addr} {H : Hp} : Same (Hd u H) H := fun _ _ h => (hd_of h).1
theorem Keep.hd {u : Addr} {H H' : Hp} (k : Keep u H H') : Same (Hd u H) (Hd u H') := fun a o h => hd_at (k a o (hd_of h).1 (hd_of h).2) (hd_of h).2
theorem Same.hd {u : Addr} {H H' : Hp} (k : Same H H') : Same (Hd u H) (Hd u H') := fun a o h => hd_at (k a o (hd_of h).1) (hd_of h).2
/-- what is new, and x -/
def Nw (x : Addr) (H H' : Hp) : Hp := fun a => if a = x ∨ H a = none then H' a else none
theorem nw_at {x a : Addr} {H H' : Hp} {o : HO} (h : H' a = some o) (n : a = x ∨ H a = none) : Nw x H H' a = some o := by unfold Nw; rw [if_pos n]; exact h
theorem nw_of {x a : Addr} {H H' : Hp} {o : HO} (h : Nw x H H' a = some o) : H' a = some o ∧ (a = x ∨ H a = none) := by
  unfold Nw at h
  split at h
  · rename_i n
    exact ⟨h, n⟩
  · cases h
theorem nw_same {x : Addr} {H H' : Hp} : Same (Nw x H H') H' := fun _ _ h => (nw_of h).1
theorem nw_none {x a : Addr} {H H' : Hp} {o : HO} (h : H a = some o) (n : a ≠ x) : Nw x H H' a = none := by
  unfold Nw
  rw [if_neg]
  rintro (e | e)
  · exact n e
  · rw [h] at e; cases e
def fB (d : Addr) : List (Str × V) := putF "beside" (.ref d) []
theorem fB_beside (d : Addr) : (fB d).lookup ("beside" : Str) = some (.ref d) := by
  unfold fB
  rw [lookup_putF, if_pos rfl]
theorem fB_no (d : Addr) {m : Str} (h : ¬ m = "beside") : (fB d).lookup m = none := by
  unfold fB
  rw [lookup_putF, if_neg h]
  all_goals rfl
structure WebAt (C : Addr) (H : Hp) (x : Addr) (n : Nat) (e : Rel) : Prop where
  ex : ∃ (dx d : Addr) (rows : List Addr), H x = some (.ins C dx (fB d)) ∧ H d = some (.lst (rows.map V.ref)) ∧ rows.length = n ∧ ∀ (i : Nat) (a : Addr), rows[i]? = some a → H a = some (.lst (nv (nb n e i)))
theorem WebAt.same {C x : Addr} {H H' : Hp} {n : Nat} {e : Rel} (w : WebAt C H x n e) (k : Same H H') : WebAt C H' x n e := by
  obtain ⟨dx, d, rows, h1, h2, h3, h4⟩ := w.ex
  exact ⟨dx, d, rows, k _ _ h1, k _ _ h2, h3, fun i a h => k _ _ (h4 i a h)⟩
/-- the tuple of a tie -/
def TieV (H : Hp) (v : V) (p : Tie) : Prop := ∃ t, v = .ref t ∧ H t = some (.tup [.int (p.1 : Int), .int (p.2 : Int)])
/-- item by item -/
inductive A2 {α β : Type} (R : α → β → Prop) : List α → List β → Prop where
  | nil : A2 R [] []
  | cons {a : α} {b : β} {as : List α} {bs : List β} : R a b → A2 R as bs → A2 R (a :: as) (b :: bs)
section
variable {α β : Type} {R S : α → β → Prop}
theorem A2.len {as : List α} {bs : List β} (h : A2 R as bs) : as.length = bs.length := by
  induction h with
  | nil => rfl
  | cons _ _ ih => rw [List.length_cons, List.length_cons, ih]
theorem A2.imp {as : List α} {bs : List β} (h : A2 R as bs) (f : ∀ a b, R a b → S a b) : A2 S as bs := by
  induction h with
  | nil => exact .nil
  | cons r _ ih => exact .cons (f _ _ r) ih
theorem A2.get {as : List α} {bs : List β} (h : A2 R as bs) : ∀ {i : Nat} {a : α}, as[i]? = some a → ∃ b, bs[i]? = some b ∧ R a b := by
  induction h with
  | nil => intro i a e; simp at e
  | cons r _ ih =>
    intro i a e
    cases i with
    | zero => cases e; exact ⟨_, rfl, r⟩
    | succ i => exact ih (by simpa using e)
theorem A2.app {as cs : List α} {bs ds : List β} (h : A2 R as bs) (k : A2 R cs ds) : A2 R (as ++ cs) (bs ++ ds) := by
  induction h with
  | nil => exact k
  | cons r _ ih => exact .cons r ih
theorem A2.snoc {as : List α} {bs : List β} {a : α} {b : β} (h : A2 R as bs) (r : R a b) : A2 R (as ++ [a]) (bs ++ [b]) := h.app (.cons r .nil)
theorem A2.perm {as cs : List α} (p : cs.Perm as) : ∀ {bs : List β}, A2 R as bs → ∃ ds, ds.Perm bs ∧ A2 R cs ds := by
  induction p with
  | nil => intro bs h; exact ⟨bs, List.Perm.refl _, h⟩
  | cons x _ ih =>
    intro bs h
    cases h with
    | cons r t =>
      obtain ⟨ds, p, k⟩ := ih t
      exact ⟨_ :: ds, p.cons _, .cons r k⟩
  | swap x y l =>
    intro bs h
    cases h with
    | cons r t =>
      cases t with
      | cons r' t' => exact ⟨_, List.Perm.swap _ _ _, .cons r' (.cons r t')⟩
  | trans _ _ ih1 ih2 =>
    intro bs h
    obtain ⟨ds, p, k⟩ := ih2 h
    obtain ⟨es, q, k'⟩ := ih1 k
    exact ⟨es, q.trans p, k'⟩
end
abbrev TieL (H : Hp) (vs : List V) (ps : List Tie) : Prop := A2 (TieV H) vs ps
theorem TieV.same {H H' : Hp} {v : V} {p : Tie} (k : Same H H') (h : TieV H v p) : TieV H' v p := by
  obtain ⟨t, e, h⟩ := h
  exact ⟨t, e, k _ _ h⟩
theorem TieL.same {H H' : Hp} {vs : List V} {ps : List Tie} (k : Same H H') (h : TieL H vs ps) : TieL H' vs ps := h.imp fun _ _ => TieV.same k
theorem TieV.keep {u : Addr} {H H' : Hp} {us : List V} {v : V} {p : Tie} (k : Keep u H H') (hu : H u = some (.lst us)) (h : TieV H v p) : TieV H' v p := by
  obtain ⟨t, e, h⟩ := h
  exact ⟨t, e, k _ _ h (ne_of h hu (fun z => nomatch z))⟩
theorem TieL.keep {u : Addr} {H H' : Hp} {us : List V} {vs : List V} {ps : List Tie} (k : Keep u H H') (hu : H u = some (.lst us)) (h : TieL H vs ps) : TieL H' vs ps := h.imp fun _ _ => TieV.keep k hu
theorem TieL.upd {u : Addr} {H : Hp} {us vs : List V} {ps : List Tie} {o : HO} (hu : H u = some (.lst us)) (h : TieL H vs ps) : TieL (upd H u o) vs ps := h.keep (keep_self (Keep.refl H)) hu
/-! ### Web(places, ties) -/
/-- the rows that __init__ fills -/
structure Bs (H H1 : Hp) (D : Addr) (rows : List Addr) (f : Nat → List Nat) : Prop where
  sm : Same H H1
  nD : H D = none
  hD : H1 D = some (.lst (rows.map V.ref))
  nd : rows.Nodup
  out : D ∉ rows
  rw : ∀ (i : Nat) (a : Addr), rows[i]? = some a → H a = none ∧ H1 a = some (.lst (nv (f i)))
theorem Bs.push {H H1 : Hp} {D p : Addr} {rows : List Addr} (b : Bs H H1 D rows fun _ => []) (hp : H1 p = none) : Bs H (upd (upd H1 p (.lst [])) D (.lst (rows.map V.ref ++ [V.ref p]))) D (rows ++ [p]) fun _ => [] := by
  have nDp : D ≠ p := ne_of_none b.hD hp
  have np : p ∉ rows := fun h => by
    obtain ⟨i, e⟩ := List.mem_iff_getElem?.mp h
    have := (b.rw i p e).2
    rw [hp] at this
    cases this
  refine ⟨same_mut (b.sm.trans (same_new hp)) b.nD, b.nD, ?_, ?_, ?_, fun i a e => ?_⟩
  · rw [upd_same, List.map_append]
    rfl
  · exact List.nodup_append.mpr ⟨b.nd, by simp, fun x hx y hy => by simp only [List.mem_singleton] at hy; subst hy; exact fun z => np (z ▸ hx)⟩
  · intro h
    rcases List.mem_append.mp h with h | h
    · exact b.out h
    · exact nDp (List.mem_singleton.mp h)
  · by_cases hi : i < rows.length
    · rw [List.getElem?_append_left hi] at e
      have q := b.rw i a e
      have nDa : a ≠ D := fun z => b.out (z ▸ List.mem_of_getElem? e)
      exact ⟨q.1, upd_at nDa (new_at hp q.2)⟩
    · rw [List.getElem?_append_right (by omega)] at e
      have h0 : i - rows.length = 0 := by
        by_cases z : i - rows.length = 0
        · exact z
        · rw [List.getElem?_eq_none (by simp only [List.length_cons, List.length_nil]; omega)] at e
          cases e
      rw [h0] at e
      have ea : p = a := Option.some.inj e
      subst ea
      exact ⟨b.sm.free hp, upd_at nDp.symm upd_same⟩
theorem Bs.app {H H1 : Hp} {D a : Addr} {rows : List Addr} {f g : Nat → List Nat} {i v : Nat} (b : Bs H H1 D rows f) (e : rows[i]? = some a) (hg : g i = f i ++ [v]) (ho : ∀ j, j ≠ i → g j = f j) : Bs H (upd H1 a (.lst (nv (f i) ++ [.int (v : Int)]))) D rows g := by
  have q := b.rw i a e
  have nDa : D ≠ a := fun z => b.out (z ▸ List.mem_of_getElem? e)
  refine ⟨same_mut b.sm q.1, b.nD, upd_at nDa b.hD, b.nd, b.out, fun j c hc => ?_⟩
  by_cases hj : j = i
  · subst hj
    rw [e] at hc
    cases hc
    refine ⟨q.1, ?_⟩
    rw [upd_same, hg, nv_app]
    rfl
  · have q' := b.rw j c hc
    have nca : c ≠ a := fun z => by
      subst z
      exact hj (nd_ix b.nd hc e)
    rw [ho j hj]
    exact ⟨q'.1, upd_at nca q'.2⟩
def spInitW (C : Addr) : Sp := fun vs H Q _ => ∃ (x dx t : Addr) (n : Nat) (vs' : List V) (ps : List Tie), vs = [.ref x, .int (n : Int), .ref t] ∧ H x = some (.ins C dx []) ∧ H t = some (.lst vs') ∧ TieL H vs' ps ∧ TOk n ps ∧ n ≤ 100 ∧ ps.length ≤ 50000 ∧
  ∀ H', Keep x H H' → WebAt C (Nw x H H') x n (eOf ps) → Q .non H'
theorem x_spTie {H : Hp} {Q : VK} {E : XK} {n : Int} {t : Addr} {a b : Int} (h : H t = some (.tup [.int a, .int b])) (q : Q (.bl (decide (0 ≤ a ∧ a < b ∧ b < n))) H) : spTie [.int n, .ref t] H Q E := ⟨n, t, a, b, rfl, h, q⟩
abbrev s_WebD_initD : Stmt := inClass (topS 10) 0
theorem sc_WebD_initD : FnScope ["self", "places", "ties", "beside", "tie", "u", "v", "place", "row"] ["self", "places", "ties"] (defScope s_WebD_initD) := ⟨rfl, rfl, rfl, by decide +kernel, rfl, by decide +kernel, by decide +kernel⟩
section
variable {P : Program} {w : World} {K : PySem.W.Frag} {mg : Str → Option Value} {base : Heap}
theorem m_Web_init {C : Addr} (T : Tx mg) (O_Web : Own K mg "Web" C) (nB : NoAttr K C "beside") (F : MetAt K C "__init__" "Web.__init__" s_WebD_initD ["self", "places", "ties"]) (c_is_integer : Cal P w K mg base CX0 1 "is_integer" (spIsInt K)) (c_is_tie : Cal P w K mg base CX0 2 "is_tie" spTie) :
    Met P w K mg base CX0 3 C "__init__" (spInitW C) := by
  refine F.met sc_WebD_initD (fun vs H Q E h => ?_) (fun f cdv A outer s H vs Q E hr h => ?_)
  · obtain ⟨x, dx, t, n, vs', ps, rfl, _⟩ := h
    rfl
  · obtain ⟨x, dx, t, n, vs', ps, rfl, hx, ht, hT, tok, hn, hl, q⟩ := h
    refine ⟨_, (pss_cons (ps_if (PW.pt (pw_or (pt_not (pt_val (pe_cal c_is_integer hr (by decide) rfl pass0 (pa_cons (pv 1) pa_nil)))) (pw_or1 (pt_cmpR op_lt (pv 1) pe_int (nomark _)))))
        (pss_one ps_never) pss_nil)
      (pss_cons (ps_if (pt_not (pt_val (pe_callB (cl_isi K) (by rfl) T.z_isinstance (by decide +kernel) (pa_cons (pv 2) (pa_cons (pe_bltn (v := .ty "list") (by rfl) T.z_list (by decide +kernel) rfl) pa_nil)))))
        (pss_one ps_never) pss_nil)
      (pss_cons (ps_setLc (i := 3) (own := [("place", 7)]) (g := gName 7) rfl sc_WebD_initD.nd rfl rfl (sw_true rfl rfl rfl (by decide +kernel)) (pi_range1 rfl T.z_range (pa_cons (pv 1) pa_nil)) (blkOk_by (own := [("place", 7)]) (N := ["self", "places", "ties", "beside", "tie", "u", "v", "place", "row"]) (sc := defScope s_WebD_initD) (by decide +kernel)) (fun _ _ _ _ _ => (pg_name (i := 7) sc_WebD_initD.nd rfl (Or.inl rfl))) (fun _ _ _ _ _ => pts_nil) (fun _ _ _ _ _ => (pe_lst pa_nil)))
      (pss_cons (ps_for PassesOwn.never rfl (k_pil K (pv 2)) (pg_name (i := 4) sc_WebD_initD.nd rfl (Or.inl rfl))
        (pss_cons (ps_if (pt_not (pt_val (pe_cal c_is_tie hr (by decide) rfl pass0 (pa_cons (pv 1) (pa_cons (pv 4) pa_nil)))))
        (pss_one ps_never) pss_nil)
      (pss_cons (ps_asg (pv 4) (k_tup (n := 2) K rfl (pgs_cons (pg_name (i := 5) sc_WebD_initD.nd rfl (Or.inl rfl)) (pgs_cons (pg_name (i := 6) sc_WebD_initD.nd rfl (Or.inl rfl)) pgs_nil))))
      (pss_cons (ps_if (pt_cmpR (k_in K) (pv 6) (pe_ix (ix_l K) (pv 3) (pv 5) (fun _ _ => rfl)) (by first | exact nomark _ | rfl))
        (pss_one ps_never) pss_nil)
      (pss_cons (ps_expr (k_bm K PySem.F.plainAttrs_list PySem.F.slot_list_append PySem.F.type_list_append mt_append (pe_ix (ix_l K) (pv 3) (pv 5) (fun _ _ => rfl)) (pa_cons (pv 6) pa_nil)))
      (pss_one (ps_expr (k_bm K PySem.F.plainAttrs_list PySem.F.slot_list_append PySem.F.type_list_append mt_append (pe_ix (ix_l K) (pv 3) (pv 6) (fun _ _ => rfl)) (pa_cons (pv 5) pa_nil)))))))))
      (pss_one (k_sfld K (pv 0) (pe_lc (own := [("row", 8)]) (g := gName 8) rfl sc_WebD_initD.nd (k_pil K (pv 3)) (blkOk_by (own := [("row", 8)]) (N := ["self", "places", "ties", "beside", "tie", "u", "v", "place", "row"]) (sc := defScope s_WebD_initD) (by decide +kernel)) (fun _ _ _ _ _ => (pg_name (i := 8) sc_WebD_initD.nd rfl (Or.inl rfl))) (fun _ _ _ _ _ => pts_nil) (fun _ _ _ _ _ => (pe_callB (cl_sortedI K) (by rfl) T.z_sorted (by decide +kernel) (pa_cons (pv 8) pa_nil)))) rfl)))))), ?_⟩
    walk_at "go"
    refine x_spInt ?_
    walk_at "go"
    intro D hD
    -- beside: a new row for each place
    refine x_lwR (fun i H1 => ∃ rows, rows.length = i ∧ Bs H H1 D rows fun _ => []) ⟨[], rfl, same_new hD, hD, upd_same, List.nodup_nil, by simp, fun i a e => by simp at e⟩ ?_ ?_
    · rintro i H1 hi ⟨rows, rfl, b⟩
      walk_at "go"
      refine x_sz (by decide) fun p hp => ?_
      have nDp : D ≠ p := ne_of_none b.hD hp
      refine ⟨_, upd_at nDp b.hD, sz_lt (by rw [List.length_map]; omega), ?_⟩
      exact ⟨rows ++ [p], by simp, b.push hp⟩
    rintro H1 ⟨rows, hlen, b⟩
    have s1 := b.sm
    walk_at "go"
    -- the ties, one by one
    refine x_fwL (xs := vs') (fun i σ H2 => ∃ y4 y5 y6, σ = [some (.ref x), some (.int (n : Int)), some (.ref t), some (.ref D), y4, y5, y6, none, none] ∧ Bs H H2 D rows (nbr (ps.take i)))
      ⟨none, none, none, rfl, b⟩ ?_ ?_ ?_
    · rintro i σ H2 hi ⟨y4, y5, y6, rfl, b⟩
      exact sq_l (b.sm _ _ ht)
    · rintro i y σ H2 hi ⟨y4, y5, y6, rfl, b⟩
      obtain ⟨p, hp, tp, rfl, htp⟩ := hT.get hi
      have htp2 : H2 tp = some (.tup [.int (p.1 : Int), .int (p.2 : Int)]) := b.sm _ _ htp
      have hok := tok.ok p (List.mem_of_getElem? hp)
      have htk : ps.take (i + 1) = ps.take i ++ [p] := by rw [List.take_add_one, hp]; rfl
      walk_at "go"
      refine x_spTie htp2 ?_
      rw [decide_eq_true (show (0 : Int) ≤ (p.1 : Int) ∧ (p.1 : Int) < (p.2 : Int) ∧ (p.2 : Int) < (n : Int) by omega)]
      have r1 : p.1 < rows.length := by omega
      have r2 : p.2 < rows.length := by omega
      have e1 : rows[p.1]? = some rows[p.1] := List.getElem?_eq_getElem r1
      have e2 : rows[p.2]? = some rows[p.2] := List.getElem?_eq_getElem r2
      have g1 : atI (rows.map V.ref) (p.1 : Int) = some (.ref rows[p.1]) := atI_nat (refs_at e1)
      have g2 : atI (rows.map V.ref) (p.2 : Int) = some (.ref rows[p.2]) := atI_nat (refs_at e2)
      have hD2 := b.hD
      walk_at "go"
      refine x_inN (b.rw _ _ e1).2 ?_
      have tk : TOk n (ps.take i) := ⟨tok.nd.sublist (List.take_sublist _ _), fun z hz => tok.ok z (List.mem_of_mem_take hz)⟩
      have nm : ¬ p.2 ∈ nbr (ps.take i) p.1 := fun h => by
        rcases eOf_iff.mp ((mem_nbr tk).mp h) with h | h
        · have nd := tok.nd
          rw [← List.take_append_drop i ps] at nd
          have hd : p ∈ ps.drop i := by
            refine List.mem_of_getElem? (i := 0) ?_
            rw [List.getElem?_drop]
            exact hp
          exact (List.nodup_append.mp nd).2.2 _ h _ hd rfl
        · have := (tk.ok _ h).1
          simp only at this
          omega
      have q1 := (b.rw _ _ e1).2
      have z1 : (nv (nbr (ps.take i) p.1)).length < 100000 := by
        rw [nv_len]
        have := List.length_filterMap_le (ends p.1) (ps.take i)
        rw [List.length_take] at this
        unfold nbr
        omega
      let f1 : Nat → List Nat := fun j => if j = p.1 then nbr (ps.take i) j ++ [p.2] else nbr (ps.take i) j
      have b1 := b.app (g := f1) (v := p.2) e1 (if_pos rfl) (fun j hj => if_neg hj)
      have hD3 := b1.hD
      have q2 := (b1.rw _ _ e2).2
      have z2 : (nv (f1 p.2)).length < 100000 := by
        rw [nv_len]
        show (if p.2 = p.1 then _ else _ : List Nat).length < _
        rw [if_neg (by omega)]
        have := List.length_filterMap_le (ends p.2) (ps.take i)
        rw [List.length_take] at this
        unfold nbr
        omega
      walk_at "go"
      have b2 := b1.app (g := nbr (ps.take (i + 1))) (v := p.1) e2 (by
        show _ = (if p.2 = p.1 then _ else _ : List Nat) ++ [p.1]
        rw [if_neg (by omega), htk, nbr_snoc]
        unfold ends
        rw [if_neg (by omega), if_pos rfl]
        rfl) (fun j hj => by
        show _ = (if j = p.1 then _ else _ : List Nat)
        rw [htk, nbr_snoc]
        unfold ends
        split
        · rename_i h
          rw [if_pos h.symm]
          rfl
        · rename_i h
          rw [if_neg (fun z => hj z.symm), if_neg (fun z => h z.symm)]
          simp)
      exact ⟨_, _, _, rfl, b2⟩
    · rintro σ H2 ⟨y4, y5, y6, rfl, b⟩
      have hps : ps.take vs'.length = ps := by rw [hT.len, List.take_length]
      rw [hps] at b
      have hD2 := b.hD
      walk_at "go"
      -- the rows, in order
      intro D2 hD2n
      refine x_lwL (xs := rows.map V.ref) (fun i H3 => ∃ outs : List Addr, outs.length = i ∧ Same H2 H3 ∧ H3 D2 = some (.lst (outs.map V.ref)) ∧ ∀ (j : Nat) (a : Addr), outs[j]? = some a → H a = none ∧ a ≠ D2 ∧ H3 a = some (.lst (nv (nb n (eOf ps) j))))
        ⟨[], rfl, same_new hD2n, upd_same, fun j a e => by simp at e⟩ (fun i H3 hi ⟨outs, h1, h2, _⟩ => sq_l (h2 _ _ hD2)) ?_ ?_
      · rintro i y H3 hi ⟨outs, h1, h2, h3, h4⟩
        obtain ⟨a, rfl, ha⟩ := of_refs hi
        have hrow := h2 _ _ (b.rw _ _ ha).2
        walk_at "go"
        rw [nv_ints] at hrow
        refine x_sortedI hrow fun ns' p pm srt hp => ?_
        have e := nbr_sorted tok pm srt
        rw [e, ← nv_ints]
        walk_at "go"
        have npD : D2 ≠ p := ne_of_none h3 hp
        refine ⟨_, upd_at npD h3, sz_lt (by rw [List.length_map]; have := (List.getElem?_eq_some_iff.mp ha).1; omega), ?_⟩
        refine ⟨outs ++ [p], by simp [h1], same_mut (h2.trans (same_new hp)) hD2n, by rw [upd_same, List.map_append]; rfl, fun j c hc => ?_⟩
        by_cases hj : j < outs.length
        · rw [List.getElem?_append_left hj] at hc
          obtain ⟨q1, q2, q3⟩ := h4 j c hc
          exact ⟨q1, q2, upd_at q2 (new_at hp q3)⟩
        · rw [List.getElem?_append_right (by omega)] at hc
          have h0 : j - outs.length = 0 := by
            by_cases z : j - outs.length = 0
            · exact z
            · rw [List.getElem?_eq_none (by simp only [List.length_cons, List.length_nil]; omega)] at hc
              cases hc
          rw [h0] at hc
          cases hc
          have ej : j = i := by omega
          subst ej
          exact ⟨b.sm.free (h2.free hp), npD.symm, upd_at npD.symm upd_same⟩
      · rintro H3 ⟨outs, h1, h2, h3, h4⟩
        walk_at "go"
        have hx3 : H3 x = some (.ins C dx []) := h2 _ _ (b.sm _ _ hx)
        refine x_sfl hx3 O_Web.cl nB (by decide) ?_
        refine q _ ?_ ⟨dx, D2, outs, nw_at upd_same (.inl rfl), nw_at (upd_at (ne_of h3 hx3 (fun z => nomatch z)) h3) (.inr (b.sm.free hD2n)), by rw [h1, List.length_map, hlen]; rfl, fun i a ha => ?_⟩
        · exact keep_self (Same.toKeep (b.sm.trans h2))
        · obtain ⟨q1, q2, q3⟩ := h4 i a ha
          exact nw_at (upd_at (ne_of q3 hx3 (fun z => nomatch z)) q3) (.inr q1)
end
/-! ### orders of places -/
theorem a2_nv (l : List Nat) : A2 (fun (v : V) (k : Nat) => v = .int (k : Int)) (nv l) l := by
  induction l with
  | nil => exact .nil
  | cons x r ih => exact .cons rfl ih
theorem nv_a2 {vs : List V} {l : List Nat} (h : A2 (fun (v : V) (k : Nat) => v = .int (k : Int)) vs l) : vs = nv l := by
  induction h with
  | nil => rfl
  | cons r _ ih => subst r; rw [ih]; rfl
theorem perm_nv {vs : List V} {l : List Nat} (p : vs.Perm (nv l)) : ∃ m, m.Perm l ∧ vs = nv m := by
  obtain ⟨m, q, h⟩ := A2.perm p (a2_nv l)
  exact ⟨m, q, nv_a2 h⟩
theorem rg_nv (N : Nat) : rgV 0 (N : Int) = nv (List.range N) := by
  unfold rgV nv
  rw [show ((N : Int) - 0).toNat = N by omega]
  refine List.map_congr_left fun i _ => ?_
  rw [Int.zero_add]
/-! ### ties as data -/
def dT (p : Tie) : PyData := .tuple [.int (p.1 : Int), .int (p.2 : Int)]
section
variable {K : PySem.W.Frag} {H : Hp}
theorem dp_tie {v : V} {p : Tie} (h : TieV H v p) : Dp K H v (dT p) := by
  obtain ⟨t, rfl, h⟩ := h
  exact .tup (sq_t h) (.cons (.int _) (.cons (.int _) .nil))
theorem dp_ties {vs : List V} {ps : List Tie} (h : TieL H vs ps) : DpAll K H vs (ps.map dT) := by
  induction h with
  | nil => exact .nil
  | cons r _ ih => exact .cons (dp_tie r) ih
theorem dp_tieL {a : Addr} {vs : List V} {ps : List Tie} (ha : H a = some (.lst vs)) (h : TieL H vs ps) : Dp K H (.ref a) (.list (ps.map dT)) := .lst (sq_l ha) (dp_ties h)
end
theorem eqv_tie (p q : Tie) : PyData.eqv (dT p) (dT q) = decide (p = q) := by
  obtain ⟨a, b⟩ := p
  obtain ⟨c, d⟩ := q
  unfold dT
  simp only [PyData.eqv, PyData.eqvAll, Bool.and_true]
  rw [Bool.eq_iff_iff, Bool.and_eq_true, beq_iff_eq, beq_iff_eq, decide_eq_true_eq, Prod.mk.injEq]
  omega
theorem eqv_ties : ∀ ps qs : List Tie, PyData.eqvAll (ps.map dT) (qs.map dT) = decide (ps = qs)
  | [], [] => rfl
  | [], _ :: _ => rfl
  | _ :: _, [] => rfl
  | p :: ps, q :: qs => by
    show (PyData.eqv (dT p) (dT q) && PyData.eqvAll (ps.map dT) (qs.map dT)) = _
    rw [eqv_tie, eqv_ties ps qs, Bool.eq_iff_iff, Bool.and_eq_true, decide_eq_true_eq, decide_eq_true_eq, decide_eq_true_eq, List.cons.injEq]
theorem eqv_tieL (ps qs : List Tie) : PyData.eqv (.list (ps.map dT)) (.list (qs.map dT)) = decide (ps = qs) := by
  simp only [PyData.eqv]
  exact eqv_ties ps qs
theorem lay_ties : ∀ ps : List Tie, PyData.canLayAll0 (ps.map dT) = true
  | [] => rfl
  | p :: ps => by
    show (PyData.canLay0 (dT p) && PyData.canLayAll0 (ps.map dT)) = true
    rw [lay_ties ps]
    rfl
theorem depth_ties : ∀ ps : List Tie, PyData.depthAll (ps.map dT) ≤ 1
  | [] => by simp [PyData.depthAll]
  | p :: ps => by
    have ih := depth_ties ps
    show max (PyData.depth (dT p)) (PyData.depthAll (ps.map dT)) ≤ 1
    have e : PyData.depth (dT p) = 1 := rfl
    omega
theorem shaped_tie (p : Tie) : SeqAt.shaped (dT p) = true := rfl
theorem shaped_ties (ps : List Tie) : SeqAt.shaped (.list (ps.map dT)) = true := by
  unfold SeqAt.shaped
  rw [Bool.and_eq_true, decide_eq_true_eq]
  refine ⟨?_, ?_⟩
  · show PyData.canLayAll0 (ps.map dT) = true
    exact lay_ties ps
  · show PyData.depthAll (ps.map dT) + 1 ≤ 64
    have := depth_ties ps
    omega
theorem any_tie (p : Tie) (ps : List Tie) : ((ps.map dT).any fun z => PyData.eqv z (dT p)) = decide (p ∈ ps) := by
  rw [List.any_map, Bool.eq_iff_iff, List.any_eq_true, decide_eq_true_eq]
  constructor
  · rintro ⟨q, hq, e⟩
    have e2 : PyData.eqv (dT q) (dT p) = true := e
    rw [eqv_tie, decide_eq_true_eq] at e2
    exact e2 ▸ hq
  · intro h
    exact ⟨p, h, by show PyData.eqv (dT p) (dT p) = true; rw [eqv_tie, decide_eq_true rfl]⟩
section
variable {K : PySem.W.Frag} {H : Hp} {Q : VK}
/-- tie not in ties -/
theorem x_ninT {v : V} {p : Tie} {a : Addr} {vs : List V} {ps : List Tie} (hv : TieV H v p) (ha : H a = some (.lst vs)) (h : TieL H vs ps) (k : Q (.bl (!decide (p ∈ ps))) H) : rNotInD K v (.ref a) H Q := by
  refine ⟨dT p, ps.map dT, dp_tie hv, dp_tieL ha h, shaped_tie p, shaped_ties ps, ?_⟩
  rw [any_tie]
  exact k
theorem x_inT {v : V} {p : Tie} {a : Addr} {vs : List V} {ps : List Tie} (hv : TieV H v p) (ha : H a = some (.lst vs)) (h : TieL H vs ps) (k : Q (.bl (decide (p ∈ ps))) H) : rInD K v (.ref a) H Q := by
  refine ⟨dT p, ps.map dT, dp_tie hv, dp_tieL ha h, shaped_tie p, shaped_ties ps, ?_⟩
  rw [any_tie]
  exact k
/-- two lists of ties -/
theorem x_neT {a b : Addr} {vs ws : List V} {ps qs : List Tie} (ha : H a = some (.lst vs)) (h : TieL H vs ps) (hb : H b = some (.lst ws)) (h' : TieL H ws qs) (k : Q (.bl (!decide (ps = qs))) H) : rNeD K (.ref a) (.ref b) H Q := by
  refine ⟨_, _, dp_tieL ha h, dp_tieL hb h', shaped_ties ps, shaped_ties qs, ?_⟩
  rw [eqv_tieL]
  exact k
theorem x_eqT {a b : Addr} {vs ws : List V} {ps qs : List Tie} (ha : H a = some (.lst vs)) (h : TieL H vs ps) (hb : H b = some (.lst ws)) (h' : TieL H ws qs) (k : Q (.bl (decide (ps = qs))) H) : rEqD K (.ref a) (.ref b) H Q := by
  refine ⟨_, _, dp_tieL ha h, dp_tieL hb h', shaped_ties ps, shaped_ties qs, ?_⟩
  rw [eqv_tieL]
  exact k
/-- sorted(ties), all different -/
def keyT (H : Hp) (x : V) : Int × Int := match x with
  | .ref t => match H t with
    | some (.tup [.int a, .int b]) => (a, b)
    | _ => (0, 0)
  | _ => (0, 0)
theorem keyT_of {v : V} {p : Tie} (h : TieV H v p) : keyT H v = ((p.1 : Int), (p.2 : Int)) := by
  obtain ⟨t, rfl, h⟩ := h
  unfold keyT
  simp only [h]
theorem TieL.sorted {ys : List V} {qs : List Tie} (h : TieL H ys qs) (s : SrtO.Srtd (ltP (keyT H)) ys) (nd : qs.Nodup) : qs.Pairwise ltT := by
  induction h with
  | nil => exact List.Pairwise.nil
  | @cons v p vs ps r t ih =>
    refine List.pairwise_cons.mpr ⟨fun q hq => ?_, ih (List.pairwise_cons.mp s).2 (List.nodup_cons.mp nd).2⟩
    obtain ⟨i, e⟩ := List.mem_iff_getElem?.mp hq
    have hi : i < vs.length := by rw [t.len]; exact (List.getElem?_eq_some_iff.mp e).1
    obtain ⟨q', e', r'⟩ := t.get (List.getElem?_eq_getElem hi)
    rw [e] at e'
    cases e'
    have h1 := (List.pairwise_cons.mp s).1 _ (List.getElem_mem hi)
    have h2 := SrtO.lexB_no.mp h1
    rw [keyT_of r, keyT_of r'] at h2
    simp only at h2
    have h3 : p ≠ q := fun z => (List.nodup_cons.mp nd).1 (z ▸ hq)
    unfold ltT
    obtain ⟨a, b⟩ := p
    obtain ⟨c, d⟩ := q
    simp only at h2 h3 ⊢
    have h4 : ¬ (a = c ∧ b = d) := fun ⟨x, y⟩ => h3 (by rw [x, y])
    omega
theorem x_sortedT {a : Addr} {vs : List V} {ps : List Tie} (ha : H a = some (.lst vs)) (h : TieL H vs ps) (nd : ps.Nodup) (k : ∀ ys qs p, qs.Perm ps → TieL H ys qs → qs.Pairwise ltT → H p = none → Q (.ref p) (upd H p (.lst ys))) : rSortedPO K [.ref a] H Q := by
  refine ⟨a, vs, keyT H, rfl, sq_l ha, fun x hx => ?_, fun ys p s st hp => ?_⟩
  · obtain ⟨i, e⟩ := List.mem_iff_getElem?.mp hx
    obtain ⟨q, _, r⟩ := h.get e
    have e2 := keyT_of r
    obtain ⟨t, rfl, r⟩ := r
    exact ⟨t, rfl, by rw [e2]; exact r⟩
  · obtain ⟨qs, pm, h2⟩ := A2.perm st.perm h
    exact k ys qs p pm h2 (TieL.sorted h2 s (pm.nodup_iff.mpr nd)) hp
end
/-! ### lists of lists of places -/
def RowV (H : Hp) (v : V) (r : List Nat) : Prop := ∃ a, v = .ref a ∧ H a = some (.lst (nv r))
abbrev RowL (H : Hp) (vs : List V) (rss : List (List Nat)) : Prop := A2 (RowV H) vs rss
theorem RowV.same {H H' : Hp} {v : V} {r : List Nat} (k : Same H H') (h : RowV H v r) : RowV H' v r := by
  obtain ⟨a, e, h⟩ := h
  exact ⟨a, e, k _ _ h⟩
theorem RowL.same {H H' : Hp} {vs : List V} {rss : List (List Nat)} (k : Same H H') (h : RowL H vs rss) : RowL H' vs rss := h.imp fun _ _ => RowV.same k
/-- rows that are new behind H, each one of its own, in a list at D -/
structure LL (H H1 : Hp) (D : Addr) (rows : List Addr) (rss : List (List Nat)) : Prop where
  sm : Same H H1
  nD : H D = none
  hD : H1 D = some (.lst (rows.map V.ref))
  nd : rows.Nodup
  out : D ∉ rows
  len : rows.length = rss.length
  rw : ∀ (i : Nat) (a : Addr) (r : List Nat), rows[i]? = some a → rss[i]? = some r → H a = none ∧ H1 a = some (.lst (nv r))
section
variable {H H1 H2 : Hp} {D p a : Addr} {rows : List Addr} {rss : List (List Nat)} {l r : List Nat} {i : Nat}
theorem LL.nil (hD : H D = none) : LL H (upd H D (.lst [])) D [] [] := ⟨same_new hD, hD, upd_same, List.nodup_nil, by simp, rfl, fun i a r e => by simp at e⟩
theorem LL.same (b : LL H H1 D rows rss) (s : Same H1 H2) : LL H H2 D rows rss := ⟨b.sm.trans s, b.nD, s _ _ b.hD, b.nd, b.out, b.len, fun i a r h1 h2 => ⟨(b.rw i a r h1 h2).1, s _ _ (b.rw i a r h1 h2).2⟩⟩
theorem LL.get (b : LL H H1 D rows rss) (h : rows[i]? = some a) : ∃ r, rss[i]? = some r ∧ H a = none ∧ H1 a = some (.lst (nv r)) := by
  have hi : i < rss.length := by rw [← b.len]; exact (List.getElem?_eq_some_iff.mp h).1
  exact ⟨_, List.getElem?_eq_getElem hi, b.rw i a _ h (List.getElem?_eq_getElem hi)⟩
theorem LL.mem (b : LL H H1 D rows rss) (h : a ∈ rows) : H a = none ∧ ∃ r, H1 a = some (.lst (nv r)) := by
  obtain ⟨i, e⟩ := List.mem_iff_getElem?.mp h
  obtain ⟨r, _, q1, q2⟩ := b.get e
  exact ⟨q1, r, q2⟩
/-- a new row, put at the end -/
theorem LL.push (b : LL H H1 D rows rss) (h0 : H p = none) (hp : p ≠ D) (np : p ∉ rows) (h1 : H1 p = some (.lst (nv l))) : LL H (upd H1 D (.lst (rows.map V.ref ++ [V.ref p]))) D (rows ++ [p]) (rss ++ [l]) := by
  refine ⟨same_mut b.sm b.nD, b.nD, ?_, ?_, ?_, by rw [List.length_append, List.length_append, b.len]; rfl, fun i a r e e2 => ?_⟩
  · rw [upd_same, List.map_append]
    rfl
  · exact List.nodup_append.mpr ⟨b.nd, by simp, fun x hx y hy => by rw [List.mem_singleton.mp hy]; exact fun z => np (z ▸ hx)⟩
  · intro h
    rcases List.mem_append.mp h with h | h
    · exact b.out h
    · exact hp (List.mem_singleton.mp h).symm
  · by_cases hi : i < rows.length
    · rw [List.getElem?_append_left hi] at e
      rw [List.getElem?_append_left (by rw [← b.len]; exact hi)] at e2
      have q := b.rw i a r e e2
      have nDa : a ≠ D := fun z => b.out (z ▸ List.mem_of_getElem? e)
      exact ⟨q.1, upd_at nDa q.2⟩
    · rw [List.getElem?_append_right (by omega)] at e
      rw [List.getElem?_append_right (by rw [← b.len]; omega), ← b.len] at e2
      have h0' : i - rows.length = 0 := by
        by_cases z : i - rows.length = 0
        · exact z
        · rw [List.getElem?_eq_none (by simp only [List.length_cons, List.length_nil]; omega)] at e
          cases e
      rw [h0'] at e e2
      cases e
      cases e2
      exact ⟨h0, upd_at hp h1⟩
/-- a row that is made at once -/
theorem LL.new (b : LL H H1 D rows rss) (hp : H1 p = none) : LL H (upd (upd H1 p (.lst (nv l))) D (.lst (rows.map V.ref ++ [V.ref p]))) D (rows ++ [p]) (rss ++ [l]) := by
  have nDp : D ≠ p := ne_of_none b.hD hp
  refine (b.same (same_new hp)).push (b.sm.free hp) nDp.symm (fun h => ?_) upd_same
  obtain ⟨_, r, e⟩ := b.mem h
  rw [hp] at e
  cases e
/-- a row is changed -/
theorem LL.set (b : LL H H1 D rows rss) (e : rows[i]? = some a) : LL H (upd H1 a (.lst (nv l))) D rows (rss.set i l) := by
  obtain ⟨r, er, q1, q2⟩ := b.get e
  have nDa : D ≠ a := fun z => b.out (z ▸ List.mem_of_getElem? e)
  refine ⟨same_mut b.sm q1, b.nD, upd_at nDa b.hD, b.nd, b.out, by rw [List.length_set, b.len], fun j c r' hc hr => ?_⟩
  by_cases hj : j = i
  · subst hj
    rw [e] at hc
    cases hc
    rw [List.getElem?_set_self (by rw [← b.len]; exact (List.getElem?_eq_some_iff.mp e).1)] at hr
    cases hr
    exact ⟨q1, upd_same⟩
  · rw [List.getElem?_set_ne (fun z => hj z.symm)] at hr
    have q' := b.rw j c r' hc hr
    have nca : c ≠ a := fun z => by
      subst z
      exact hj (nd_ix b.nd hc e)
    exact ⟨q'.1, upd_at nca q'.2⟩
theorem LL.mut (b : LL H H1 D rows rss) {o : HO} (hp : H1 p = some o) (h : p ≠ D) (np : p ∉ rows) {x : HO} (h0 : H p = none) : LL H (upd H1 p x) D rows rss :=
  ⟨same_mut b.sm h0, b.nD, upd_at h.symm b.hD, b.nd, b.out, b.len, fun i a r h1 h2 => ⟨(b.rw i a r h1 h2).1, upd_at (fun z => np (z ▸ List.mem_of_getElem? h1)) (b.rw i a r h1 h2).2⟩⟩
theorem a2_of_get {α β : Type} {R : α → β → Prop} : ∀ {as : List α} {bs : List β}, as.length = bs.length → (∀ (i : Nat) (a : α) (b : β), as[i]? = some a → bs[i]? = some b → R a b) → A2 R as bs
  | [], [], _, _ => .nil
  | [], _ :: _, h, _ => by simp at h
  | _ :: _, [], h, _ => by simp at h
  | a :: as, b :: bs, h, f => .cons (f 0 a b rfl rfl) (a2_of_get (by simpa using h) fun i x y h1 h2 => f (i + 1) x y (by simpa using h1) (by simpa using h2))
theorem LL.rowL (b : LL H H1 D rows rss) : RowL H1 (rows.map V.ref) rss := a2_of_get (by rw [List.length_map, b.len]) fun i v r h1 h2 => by
  obtain ⟨a, rfl, ha⟩ := of_refs h1
  exact ⟨a, rfl, (b.rw i a r ha h2).2⟩
end
/-! ### as data -/
def dN (l : List Nat) : PyData := .list (l.map fun (v : Nat) => .int (v : Int))
section
variable {K : PySem.W.Frag} {H : Hp} {Q : VK}
theorem dp_all (l : List Nat) : DpAll K H (nv l) (l.map fun (v : Nat) => .int (v : Int)) := by
  induction l with
  | nil => exact .nil
  | cons x r ih => exact .cons (.int _) ih
theorem dp_nv {a : Addr} {l : List Nat} (h : H a = some (.lst (nv l))) : Dp K H (.ref a) (dN l) := .lst (sq_l h) (dp_all l)
theorem dp_rows {vs : List V} {rss : List (List Nat)} (h : RowL H vs rss) : DpAll K H vs (rss.map dN) := by
  induction h with
  | nil => exact .nil
  | cons r _ ih =>
    obtain ⟨a, rfl, h⟩ := r
    exact .cons (dp_nv h) ih
theorem dp_ll {a : Addr} {vs : List V} {rss : List (List Nat)} (ha : H a = some (.lst vs)) (h : RowL H vs rss) : Dp K H (.ref a) (.list (rss.map dN)) := .lst (sq_l ha) (dp_rows h)
end
theorem eqv_ints : ∀ l m : List Nat, PyData.eqvAll (l.map fun (v : Nat) => .int (v : Int)) (m.map fun (v : Nat) => .int (v : Int)) = decide (l = m)
  | [], [] => rfl
  | [], _ :: _ => rfl
  | _ :: _, [] => rfl
  | x :: l, y :: m => by
    show (PyData.eqv (.int (x : Int)) (.int (y : Int)) && PyData.eqvAll (l.map fun (v : Nat) => .int (v : Int)) (m.map fun (v : Nat) => .int (v : Int))) = _
    rw [eqv_ints l m]
    simp only [PyData.eqv]
    rw [Bool.eq_iff_iff, Bool.and_eq_true, beq_iff_eq, decide_eq_true_eq, decide_eq_true_eq, List.cons.injEq]
    exact ⟨fun ⟨h1, h2⟩ => ⟨by omega, h2⟩, fun ⟨h1, h2⟩ => ⟨by omega, h2⟩⟩
theorem eqv_dN (l m : List Nat) : PyData.eqv (dN l) (dN m) = decide (l = m) := by
  unfold dN
  simp only [PyData.eqv]
  exact eqv_ints l m
theorem eqv_dNs : ∀ l m : List (List Nat), PyData.eqvAll (l.map dN) (m.map dN) = decide (l = m)
  | [], [] => rfl
  | [], _ :: _ => rfl
  | _ :: _, [] => rfl
  | x :: l, y :: m => by
    show (PyData.eqv (dN x) (dN y) && PyData.eqvAll (l.map dN) (m.map dN)) = _
    rw [eqv_dNs l m, eqv_dN, Bool.eq_iff_iff, Bool.and_eq_true, decide_eq_true_eq, decide_eq_true_eq, decide_eq_true_eq, List.cons.injEq]
theorem lay_ints : ∀ l : List Nat, PyData.canLayAll0 (l.map fun (v : Nat) => .int (v : Int)) = true
  | [] => rfl
  | x :: l => by
    show (PyData.canLay0 (.int (x : Int)) && PyData.canLayAll0 (l.map fun (v : Nat) => .int (v : Int))) = true
    rw [lay_ints l]
    rfl
theorem dep_ints : ∀ l : List Nat, PyData.depthAll (l.map fun (v : Nat) => .int (v : Int)) = 0
  | [] => rfl
  | x :: l => by
    show max (PyData.depth (.int (x : Int))) (PyData.depthAll (l.map fun (v : Nat) => .int (v : Int))) = 0
    rw [dep_ints l]
    rfl
theorem dep_dN (l : List Nat) : PyData.depth (dN l) = 1 := by
  show PyData.depthAll (l.map fun (v : Nat) => .int (v : Int)) + 1 = 1
  rw [dep_ints]
theorem shaped_dN (l : List Nat) : SeqAt.shaped (dN l) = true := by
  unfold SeqAt.shaped
  rw [Bool.and_eq_true, decide_eq_true_eq, dep_dN]
  exact ⟨lay_ints l, by decide⟩
theorem lay_dNs : ∀ l : List (List Nat), PyData.canLayAll0 (l.map dN) = true
  | [] => rfl
  | x :: l => by
    show (PyData.canLay0 (dN x) && PyData.canLayAll0 (l.map dN)) = true
    rw [lay_dNs l, show PyData.canLay0 (dN x) = true from lay_ints x]
    rfl
theorem dep_dNs : ∀ l : List (List Nat), PyData.depthAll (l.map dN) ≤ 1
  | [] => by simp [PyData.depthAll]
  | x :: l => by
    have ih := dep_dNs l
    have e := dep_dN x
    show max (PyData.depth (dN x)) (PyData.depthAll (l.map dN)) ≤ 1
    omega
theorem shaped_dNs (l : List (List Nat)) : SeqAt.shaped (.list (l.map dN)) = true := by
  unfold SeqAt.shaped
  rw [Bool.and_eq_true, decide_eq_true_eq]
  refine ⟨lay_dNs l, ?_⟩
  have := dep_dNs l
  show PyData.depthAll (l.map dN) + 1 ≤ 64
  omega
section
variable {K : PySem.W.Frag} {H : Hp} {Q : VK} {a b : Addr}
theorem x_eqN {l m : List Nat} (ha : H a = some (.lst (nv l))) (hb : H b = some (.lst (nv m))) (k : Q (.bl (decide (l = m))) H) : rEqD K (.ref a) (.ref b) H Q := by
  refine ⟨_, _, dp_nv ha, dp_nv hb, shaped_dN l, shaped_dN m, ?_⟩
  rw [eqv_dN]
  exact k
theorem x_neN {l m : List Nat} (ha : H a = some (.lst (nv l))) (hb : H b = some (.lst (nv m))) (k : Q (.bl (!decide (l = m))) H) : rNeD K (.ref a) (.ref b) H Q := by
  refine ⟨_, _, dp_nv ha, dp_nv hb, shaped_dN l, shaped_dN m, ?_⟩
  rw [eqv_dN]
  exact k
theorem x_eqLL {vs ws : List V} {l m : List (List Nat)} (ha : H a = some (.lst vs)) (h : RowL H vs l) (hb : H b = some (.lst ws)) (h' : RowL H ws m) (k : Q (.bl (decide (l = m))) H) : rEqD K (.ref a) (.ref b) H Q := by
  refine ⟨_, _, dp_ll ha h, dp_ll hb h', shaped_dNs l, shaped_dNs m, ?_⟩
  show Q (.bl (PyData.eqv (.list (l.map dN)) (.list (m.map dN)))) H
  simp only [PyData.eqv]
  rw [eqv_dNs]
  exact k
theorem x_neLL {vs ws : List V} {l m : List (List Nat)} (ha : H a = some (.lst vs)) (h : RowL H vs l) (hb : H b = some (.lst ws)) (h' : RowL H ws m) (k : Q (.bl (!decide (l = m))) H) : rNeD K (.ref a) (.ref b) H Q := by
  refine ⟨_, _, dp_ll ha h, dp_ll hb h', shaped_dNs l, shaped_dNs m, ?_⟩
  show Q (.bl (!PyData.eqv (.list (l.map dN)) (.list (m.map dN)))) H
  simp only [PyData.eqv]
  rw [eqv_dNs]
  exact k
theorem x_sortedN {p : Addr} {l : List Nat} (h : H p = some (.lst (nv l))) (nd : l.Nodup) (k : ∀ (m : List Nat) (q : Addr), m.Perm l → m.Pairwise (· < ·) → H q = none → Q (.ref q) (upd H q (.lst (nv m)))) : rSortedI K [.ref p] H Q := by
  rw [nv_ints] at h
  refine x_sortedI h fun ns q pm srt hq => ?_
  obtain ⟨m, pm2, e⟩ := perm_nv (vs := ns.map V.int) (l := l) (by rw [nv_ints]; exact pm.map _)
  rw [e]
  refine k m q pm2 ?_ hq
  have nd2 : m.Nodup := pm2.nodup_iff.mpr nd
  have e2 : ns = m.map fun (v : Nat) => (v : Int) := by
    rw [nv_ints] at e
    exact (List.map_inj_right (fun a b h => V.int.inj h)).mp e
  rw [e2] at srt
  refine ((List.pairwise_map.mp srt).and nd2).imp fun h => ?_
  omega
end
/-! ### more steps -/
theorem k_revL {X : Cx} (K : PySem.W.Frag) {e : Expr} {te : TE} {k : Nat} {p1 p2 p3 pos : Pos} (he : PE X e te) (hK : X.K = K := by rfl) : PE X (.Subscript e (.Slice none none (some (.UnaryOp .USub (.Constant (.int 1) k p1) p2)) p3) pos) (tRevL K te) := by subst hK; exact pe_revL he
section
variable {X : Cx} {CX : CXT} {k j : Nat} {C : Addr} {m : Str} {sp : Sp} {E : XK} {o e : Expr} {es : List Expr} {ta : TE} {t : TA} {pos apos : Pos}
theorem pe_mth {x : Str} {pl : Sem Bool} (c : Met X.prog X.w X.K X.mg X.base CX k C m sp) (O : Own X.K X.mg x C) (hr : Room j X.A) (hk : k ≤ j) (hx : Passes CX X E) (he : PE X o ta) (ha : PA X (e :: es) t)
    (hst : starEach (e :: es) X.env = (false, eval e X.env) :: starEach es X.env := by rfl) (hpl : (backTo pos (starEach es X.env)).any (·.1) = false := by rfl)
    (ht : eval (.Call (.Attribute o m apos) (e :: es) [] pos) X.env = (do
      let ov ← eval o X.env
      standAt apos.atName
      let (f, first) ← holding [ov] (getMethod ov m pl)
      callWith pos f first (backTo pos (starEach (e :: es) X.env)) (backToKw pos (keywordEach [] X.env))) := by rfl) :
    PE X (.Call (.Attribute o m apos) (e :: es) [] pos) (tMeth C m sp [] E ta t) := by
  obtain ⟨f, fd, ps, F, m1, m2, m3, b⟩ := c.ex
  exact pe_meth (pl := pl) he O.cl ⟨m1, m2, m3⟩ F (hr.mono hk) b .nil hx ha hst hpl ht
theorem pe_mth0 {x : Str} {pl : Sem Bool} (c : Met X.prog X.w X.K X.mg X.base CX k C m sp) (O : Own X.K X.mg x C) (hr : Room j X.A) (hk : k ≤ j) (hx : Passes CX X E) (he : PE X o ta)
    (ht : eval (.Call (.Attribute o m apos) [] [] pos) X.env = (do
      let ov ← eval o X.env
      standAt apos.atName
      let (f, first) ← holding [ov] (getMethod ov m pl)
      callWith pos f first (backTo pos (starEach [] X.env)) (backToKw pos (keywordEach [] X.env))) := by rfl) :
    PE X (.Call (.Attribute o m apos) [] [] pos) (tMeth C m sp [] E ta tNil) := by
  obtain ⟨f, fd, ps, F, m1, m2, m3, b⟩ := c.ex
  exact pe_meth0 (pl := pl) he O.cl ⟨m1, m2, m3⟩ F (hr.mono hk) b .nil hx ht
end
section
variable {H : Hp} {σ : St} {Q : VK} {l b : Addr} {xs zs : List V}
theorem x_clear (s : H l = some (.lst xs)) (h : Q .non (upd H l (.lst []))) : rClear (.ref l) [] H Q := ⟨l, xs, rfl, rfl, s, h⟩
theorem x_cat (s : H l = some (.lst xs)) (s2 : H b = some (.lst zs)) (z : xs.length + zs.length ≤ 100000) (h : ∀ p, H p = none → Q (.ref p) (upd H p (.lst (xs ++ zs)))) : rCat (.ref l) (.ref b) H Q :=
  ⟨l, b, xs, zs, rfl, rfl, s, s2, Nat.le_trans z (by decide), h⟩
theorem x_revT {K : PySem.W.Frag} {te : TE} (h : te σ H fun x H1 => ∃ a xs, x = .ref a ∧ SqL K H1 a xs ∧ ∀ p, H1 p = none → Q (.ref p) (upd H1 p (.lst xs.reverse))) : tRevL K te σ H Q := h
end
section
variable {σ : St} {H : Hp} {Q : VK}
theorem x_chain {r r' : R2} {ta tb tc : TE} (h : ta σ H fun x H1 => tb σ H1 fun y H2 => r x y H2 fun z H3 => ∃ k, z = .bl k ∧ (if k = true then tc σ H3 fun w' H4 => r' y w' H4 Q else Q (.bl false) H3)) : tChain r r' ta tb tc σ H Q := h
theorem x_sl {r : V → Option Int → Option Int → Hp → VK → Prop} {te : TE} {tl th : TO} (h : te σ H fun x H1 => tl σ H1 fun l H2 => th σ H2 fun u H3 => r x l u H3 Q) : tSl r te tl th σ H Q := h
theorem x_part {t : TE} {R : Option Int → Hp → Prop} (h : t σ H fun x H1 => ∃ i, x = .int i ∧ R (some i) H1) : tPart t σ H R := h
end
section
variable {K : PySem.W.Frag} {σ : St} {H : Hp} {Q : VK}
theorem x_noPart {R : Option Int → Hp → Prop} (h : R none H) : tNoPart σ H R := h
/-- the first k items -/
theorem x_slTake {a : Addr} {xs : List V} {k : Nat} (s : H a = some (.lst xs)) (hk : k ≤ xs.length) (h : ∀ p, H p = none → Q (.ref p) (upd H p (.lst (xs.take k)))) : rSlL K (.ref a) none (some (k : Int)) H Q := by
  refine ⟨a, xs, rfl, sq_l s, fun p hp => ?_⟩
  have e : cutV xs none (some (k : Int)) = xs.take k := by
    have h0 : HT.sIx xs.length 0 none = 0 := rfl
    unfold cutV
    rw [h0, HT.sIx_nat, List.drop_zero, Nat.min_eq_left hk, Nat.sub_zero]
  rw [e]
  exact h p hp
theorem x_slN {a : Addr} {l : List Nat} {k : Nat} (s : H a = some (.lst (nv l))) (hk : k ≤ l.length) (h : ∀ p, H p = none → Q (.ref p) (upd H p (.lst (nv (l.take k))))) : rSlL K (.ref a) none (some (k : Int)) H Q := by
  refine x_slTake s (by rw [nv_len]; exact hk) fun p hp => ?_
  have e : (nv l).take k = nv (l.take k) := by
    unfold nv
    rw [List.map_take]
  rw [e]
  exact h p hp
end
/-! ### own errors -/
/-- what the top has written of the error class x at C -/
structure Exq (K : PySem.W.Frag) (mg : Str → Option Value) (x : Str) (C : Addr) : Prop where
  gC : mg x = some (.ref C)
  xc : PySem.W.excIn K C [.type "ValueError", .type "Exception", .type "BaseException", .type "object"] "ValueError.__new__" = true
  kp : PySem.W.keepIn K (.ref C) = true
  sb : PySem.W.subIn K (.ref C) (.type "BaseException") = some true
  ty : PySem.W.typeIn K (.ref C) = some (.type "type")
  is : PySem.W.isClsIn K C = true
  sf : PySem.W.subIn K (.ref C) (.ref C) = some true
/-- an error of the class at D met by the class at C -/
theorem exm_sub {K : PySem.W.Frag} {mg : Str → Option Value} {x : Str} {C : Addr} {D : Value} {b : Bool} (X : Exq K mg x C) (h : PySem.W.subIn K D (.ref C) = some b) : PySem.W.exmOne K D (.ref C) = some b := by
  have e1 : (PySem.W.subIn K (.ref C) (.type "BaseException") == some true) = true := by rw [X.sb] <;> rfl
  have e2 : ((PySem.W.clsIn K C).isSome && PySem.W.typeIn K (.ref C) == some (.type "type")) = true := by
    have h2' : (PySem.W.clsIn K C).isSome = true := X.is
    rw [h2', X.ty] <;> rfl
  show (if (PySem.W.subIn K (.ref C) (.type "BaseException") == some true) = true then (if ((PySem.W.clsIn K C).isSome && PySem.W.typeIn K (.ref C) == some (.type "type")) = true then PySem.W.subIn K D (.ref C) else none) else none) = some b
  rw [if_pos e1, if_pos e2]
  exact h
theorem passN {X : Cx} : Passes (L2.CX X.prog X.w) X (fun _ _ _ => False) := passes_call L2.takes0 (fun _ _ _ _ h => h)
section
variable {P : Program} {w : World} {K : PySem.W.Frag} {mg : Str → Option Value} {base : Heap}
abbrev BdyX (P : Program) (w : World) (K : PySem.W.Frag) (mg : Str → Option Value) (base : Heap) (N : List Str) (qual : Str) (st : Stmt) (k : Nat) (sp : Sp) : Prop :=
  ∀ (f : Addr) (cdv : Value) (A : Around) (outer : List Env) (s : Shared) (H : Hp) (vs : List V) (Q : VK) (E : XK), Room k (A.deeper (envOfC qual (defScope st) s.heap.objs.size f cdv)) → sp vs H Q E →
      ∃ t, PSs (cxOf (L2.CX P w) P w K mg base N qual (defScope st) f cdv A outer s H E) (defBody st) t ∧ t { nx := fun _ H' => Q .non H', rt := Q } (start N vs) H
/-- the promise of a def that may let an error out -/
theorem DefAt.calX {x : Str} {st : Stmt} {N ps : List Str} {k : Nat} {sp : Sp} (F : DefAt K mg x st ps) (S : FnScope N ps (defScope st)) (len : ∀ vs H Q E, sp vs H Q E → vs.length = ps.length)
    (hbody : BdyX P w K mg base N x st k sp) : Cal P w K mg base (L2.CX P w) (k + 1) x sp := by
  obtain ⟨f, fd, F, m, b⟩ := F.ex
  exact ⟨f, fd, ps, F.okX S len (fun cdv A outer s H vs Q E hr h => hbody f cdv A outer s H vs Q E hr h), m, F.kp, b⟩
theorem MetAt.metX {C : Addr} {m qual : Str} {st : Stmt} {N ps : List Str} {k : Nat} {sp : Sp} (F : MetAt K C m qual st ps) (S : FnScope N ps (defScope st)) (len : ∀ vs H Q E, sp vs H Q E → vs.length = ps.length)
    (hbody : BdyX P w K mg base N qual st k sp) : Met P w K mg base (L2.CX P w) (k + 1) C m sp := by
  obtain ⟨f, fd, F, m1, m2, b⟩ := F.ex
  exact ⟨f, fd, ps, F.okX S len (fun cdv A outer s H vs Q E hr h => hbody f cdv A outer s H vs Q E hr h), m1, m2, F.kp, b⟩
end
section
variable {X : Cx} {k j : Nat} {x : Str} {sp : Sp} {E : St → XK} {e : Expr} {es : List Expr} {t : TA} {p pos : Pos}
theorem pe_calS {CX : CXT} (c : Cal X.prog X.w X.K X.mg X.base CX k x sp) (hr : Room j X.A) (hk : k ≤ j) (hg : Gl X x) (hx : ∀ σ, PassesAt CX X σ (E σ)) (ha : PA X (e :: es) t)
    (hdb : (x == ("__debug__" : Str)) = false := by decide) (he : starEach (e :: es) X.env = (false, eval e X.env) :: starEach es X.env := by rfl) (hpl : (backTo pos (starEach es X.env)).any (·.1) = false := by rfl) :
    PE X (.Call (.Name x p) (e :: es) [] pos) (tCallS sp E t) := by
  obtain ⟨f, fd, ps, F, hm, kp, b⟩ := c.ex
  exact pe_callS F (hr.mono hk) hg hm kp b hx ha hdb he hpl
end
section
variable {K : PySem.W.Frag} {σ : St} {H : Hp} {Q : VK} {ta : TA}
theorem x_callS {sp : Sp} {E : St → XK} (h : ta σ H fun vs H1 => sp vs H1 Q (E σ)) : tCallS sp E ta σ H Q := h
end
/-! ### zip of two lists -/
theorem k_zip {X : Cx} (K : PySem.W.Frag) {e e2 : Expr} {ta : TA} {p pos tpos : Pos} {elts : List Expr} {kk : Nat} (hg : Gl X "zip") (hm : X.mg "zip" = none) (ha : PA X [e, e2] ta) (hK : X.K = K := by rfl)
    (hs : starEach [e, e2] X.env = (false, eval e X.env) :: starEach [e2] X.env := by rfl) (hpl : (backTo pos (starEach [e2] X.env)).any (·.1) = false := by rfl) :
    PI X (.Tuple elts kk tpos) (.Call (.Name "zip" p) [e, e2] [] pos) (iZip K ta) := by
  subst hK
  exact pi_zip hg hm ha hs hpl
def Zz (K : PySem.W.Frag) (vs : List V) (H : Hp) (R : It → Hp → Prop) : Prop := ∃ a b xs ys, vs = [.ref a, .ref b] ∧ SqL K H a xs ∧ SqL K H b ys ∧ R (Itz K a b) H
section
variable {K : PySem.W.Frag} {σ : St} {H : Hp} {Q : VK} {ta : TA} {te : TE} {tt : TT} {g : TG} {tb : TS} {vs : List Nat} {R : It → Hp → Prop} {a b : Addr} {xs ys : List V}
theorem x_zip (h : ta σ H fun vs H1 => Zz K vs H1 R) : iZip K ta σ H R := h
theorem x_zz (s1 : H a = some (.lst xs)) (s2 : H b = some (.lst ys)) (h : R (Itz K a b) H) : Zz K [.ref a, .ref b] H R := ⟨a, b, xs, ys, rfl, sq_l s1, sq_l s2, h⟩
theorem itz_at {T : Addr} {x' y' : V} {i : Nat} (qx : SqL K H a xs) (qy : SqL K H b ys) (hi : i < min xs.length ys.length) (f1 : ∀ xs, SqL K H a xs → xs[i]? = some x') (f2 : ∀ ys, SqL K H b ys → ys[i]? = some y') : xs[i]? = some x' ∧ ys[i]? = some y' := ⟨f1 xs qx, f2 ys qy⟩
theorem x_fwZ {nx : St → Hp → Prop} {rt : VK} {bk ct : St → Hp → Prop} (Pv : Nat → St → Hp → Prop) (h0 : Pv 0 σ H) (hl : ∀ i σ H, Pv i σ H → SqL K H a xs ∧ SqL K H b ys)
    (hs : ∀ i x y T σ H, xs[i]? = some x → ys[i]? = some y → Pv i σ H → H T = none → g (.ref T) σ (upd H T (.tup [x, y])) fun σ2 H2 => tb ⟨Pv (i + 1), rt, nx, Pv (i + 1)⟩ σ2 H2) (hd : ∀ σ H, Pv (min xs.length ys.length) σ H → nx σ H) : FW (Itz K a b) g tb ⟨nx, rt, bk, ct⟩ σ H := by
  refine ⟨fun i m σ H => m = min xs.length ys.length - i ∧ i ≤ min xs.length ys.length ∧ Pv i σ H, ⟨_, rfl, Nat.zero_le _, h0⟩, ?_⟩
  rintro i m σ H ⟨rfl, hi, p⟩
  obtain ⟨qx, qy⟩ := hl i σ H p
  by_cases hlt : i < min xs.length ys.length
  · have hx : xs[i]? = some (xs[i]'(by omega)) := List.getElem?_eq_getElem (by omega)
    have hy : ys[i]? = some (ys[i]'(by omega)) := List.getElem?_eq_getElem (by omega)
    refine .inr ⟨⟨xs, ys, _, _, qx, qy, hx, hy⟩, Pv (i + 1), fun σ' H' p' => ⟨min xs.length ys.length - (i + 1), by omega, rfl, hlt, p'⟩, fun v H' y => ?_⟩
    obtain ⟨T, x', y', rfl, hT, rfl, f1, f2⟩ := y
    exact hs i x' y' T σ H (f1 xs qx) (f2 ys qy) p hT
  · have e : i = min xs.length ys.length := by omega
    rw [e] at p
    exact .inl ⟨⟨xs, ys, qx, qy, by omega⟩, hd σ H p⟩
theorem x_lwZ {D : Addr} (Pv : Nat → Hp → Prop) (h0 : Pv 0 (upd H D (.lst []))) (hl : ∀ i H, Pv i H → SqL K H a xs ∧ SqL K H b ys)
    (hs : ∀ i x y T H, xs[i]? = some x → ys[i]? = some y → Pv i H → H T = none → g (.ref T) (wipe σ vs) (upd H T (.tup [x, y])) fun σ2 H2 => wipe σ2 vs = wipe σ vs ∧ tt σ2 H2 fun b H3 =>
      if b = true then te σ2 H3 fun y H4 => ∃ acc, H4 D = some (.lst acc) ∧ acc.length < sizeLine ∧ Pv (i + 1) (upd H4 D (.lst (acc ++ [y]))) else Pv (i + 1) H3) (hd : ∀ H, Pv (min xs.length ys.length) H → Q (.ref D) H) : LW (Itz K a b) D g tt te vs σ H Q := by
  refine ⟨fun i m H => m = min xs.length ys.length - i ∧ i ≤ min xs.length ys.length ∧ Pv i H, ⟨_, rfl, Nat.zero_le _, h0⟩, ?_⟩
  rintro i m H ⟨rfl, hi, p⟩
  obtain ⟨qx, qy⟩ := hl i H p
  by_cases hlt : i < min xs.length ys.length
  · have hx : xs[i]? = some (xs[i]'(by omega)) := List.getElem?_eq_getElem (by omega)
    have hy : ys[i]? = some (ys[i]'(by omega)) := List.getElem?_eq_getElem (by omega)
    refine .inr ⟨⟨xs, ys, _, _, qx, qy, hx, hy⟩, Pv (i + 1), fun H' p' => ⟨min xs.length ys.length - (i + 1), by omega, rfl, hlt, p'⟩, fun v H' y => ?_⟩
    obtain ⟨T, x', y', rfl, hT, rfl, f1, f2⟩ := y
    exact hs i x' y' T H (f1 xs qx) (f2 ys qy) p hT
  · have e : i = min xs.length ys.length := by omega
    rw [e] at p
    exact .inl ⟨⟨xs, ys, qx, qy, by omega⟩, hd H p⟩
end
/-! ### for .. else over a list -/
def FWE (J : It) (g : TG) (tb u : TS) (D : Ends) (σ : St) (H1 : Hp) : Prop := ∃ W : Nat → Nat → St → Hp → Prop, (∃ m, W 0 m σ H1) ∧ ∀ i m σ H, W i m σ H →
  (J.stop i H ∧ u D σ H) ∨ (J.go i H ∧ ∃ N : St → Hp → Prop, (∀ σ' H', N σ' H' → ∃ m', m' < m ∧ W (i + 1) m' σ' H') ∧ ∀ x H', J.yld i H x H' → g x σ H' fun σ2 H2 => tb { D with nx := N, ct := N, bk := D.nx } σ2 H2)
section
variable {K : PySem.W.Frag} {σ : St} {H : Hp} {wi : TI} {g : TG} {tb u : TS} {a : Addr} {xs : List V}
theorem x_forE {n : St → Hp → Prop} {rt : VK} {bk ct : St → Hp → Prop} (h : wi σ H fun J H1 => FWE J g tb u ⟨n, rt, bk, ct⟩ σ H1) : tForE wi g tb u ⟨n, rt, bk, ct⟩ σ H := h
theorem x_feL {nx : St → Hp → Prop} {rt : VK} {bk ct : St → Hp → Prop} (Pv : Nat → St → Hp → Prop) (h0 : Pv 0 σ H) (hl : ∀ i σ H, Pv i σ H → SqL K H a xs)
    (hs : ∀ i x σ H, xs[i]? = some x → Pv i σ H → g x σ H fun σ2 H2 => tb ⟨Pv (i + 1), rt, nx, Pv (i + 1)⟩ σ2 H2) (hd : ∀ σ H, Pv xs.length σ H → u ⟨nx, rt, bk, ct⟩ σ H) : FWE (Itl K a) g tb u ⟨nx, rt, bk, ct⟩ σ H := by
  refine ⟨fun i m σ H => m = xs.length - i ∧ i ≤ xs.length ∧ Pv i σ H, ⟨_, rfl, Nat.zero_le _, h0⟩, ?_⟩
  rintro i m σ H ⟨rfl, hi, p⟩
  have q := hl i σ H p
  by_cases hlt : i < xs.length
  · have hx : xs[i]? = some xs[i] := List.getElem?_eq_getElem hlt
    refine .inr ⟨⟨xs, xs[i], q, hx⟩, Pv (i + 1), fun σ' H' p' => ⟨xs.length - (i + 1), by omega, rfl, hlt, p'⟩, fun v H' y => ?_⟩
    obtain ⟨rfl, f⟩ := y
    exact hs i v σ H' (f xs q) p
  · have e : i = xs.length := by omega
    rw [e] at p
    exact .inl ⟨⟨xs, q, by omega⟩, hd σ H p⟩
end
/-- a dict of places, each True -/
def sT (S : List Nat) : List (Key × V) := S.map fun (v : Nat) => (Sum.inl (v : Int), V.bl true)
theorem sT_len (S : List Nat) : (sT S).length = S.length := by unfold sT; rw [List.length_map]
theorem sT_some {S : List Nat} {v : Nat} : (valV (sT S) (Sum.inl (v : Int) : Key)).isSome = decide (v ∈ S) := by
  induction S with
  | nil => rfl
  | cons x r ih =>
    show (valV ((Sum.inl (x : Int), V.bl true) :: sT r) (Sum.inl (v : Int) : Key)).isSome = _
    by_cases h : v = x
    · subst h
      rw [valV_pos rfl]
      simp
    · rw [valV_neg (fun z => h (by have := Sum.inl.inj z; omega)), ih]
      simp [h]
theorem sT_put {S : List Nat} {v : Nat} (h : v ∉ S) : putK (sT S) (Sum.inl (v : Int) : Key) (.bl true) = sT (S ++ [v]) := by
  have e : valV (sT S) (Sum.inl (v : Int) : Key) = none := by
    have := sT_some (S := S) (v := v)
    rw [decide_eq_false h] at this
    cases q : valV (sT S) (Sum.inl (v : Int) : Key) with
    | none => rfl
    | some y => rw [q] at this; cases this
  rw [putK_new _ e]
  unfold sT
  rw [List.map_append]
  rfl
/-! ### mirrors: what a value stands for, in a heap F that stays -/
structure Rep (α : Type) where
  r : Hp → V → α → Prop
  mono : ∀ {F F' : Hp} {v : V} {a : α}, Same F F' → r F v a → r F' v a
section
variable {α β γ : Type}
def rZ : Rep Int := ⟨fun _ v i => v = .int i, fun _ h => h⟩
def rN : Rep Nat := ⟨fun _ v n => v = .int (n : Int), fun _ h => h⟩
def rB : Rep Bool := ⟨fun _ v b => v = .bl b, fun _ h => h⟩
def rSt : Rep Str := ⟨fun _ v z => v = .str z, fun _ h => h⟩
def rNo : Rep Unit := ⟨fun _ v _ => v = .non, fun _ h => h⟩
def rV : Rep V := ⟨fun _ v a => v = a, fun _ h => h⟩
def rL (R : Rep α) : Rep (List α) := ⟨fun F v l => ∃ a vs, v = .ref a ∧ F a = some (.lst vs) ∧ A2 (R.r F) vs l, fun s ⟨a, vs, e, h, q⟩ => ⟨a, vs, e, s _ _ h, q.imp fun _ _ => R.mono s⟩⟩
def rT2 (R : Rep α) (S : Rep β) : Rep (α × β) := ⟨fun F v p => ∃ t x y, v = .ref t ∧ F t = some (.tup [x, y]) ∧ R.r F x p.1 ∧ S.r F y p.2, fun s ⟨t, x, y, e, h, q1, q2⟩ => ⟨t, x, y, e, s _ _ h, R.mono s q1, S.mono s q2⟩⟩
def rT3 (R : Rep α) (S : Rep β) (T : Rep γ) : Rep (α × β × γ) := ⟨fun F v p => ∃ t x y z, v = .ref t ∧ F t = some (.tup [x, y, z]) ∧ R.r F x p.1 ∧ S.r F y p.2.1 ∧ T.r F z p.2.2,
  fun s ⟨t, x, y, z, e, h, q1, q2, q3⟩ => ⟨t, x, y, z, e, s _ _ h, R.mono s q1, S.mono s q2, T.mono s q3⟩⟩
def rO (R : Rep α) : Rep (Option α) := ⟨fun F v o => match o with | none => v = .non | some a => R.r F v a, fun {F F' v a} s h => by
  cases a with
  | none => exact h
  | some x => exact R.mono s h⟩
structure Sa where
  p : Hp → Option V → Prop
  mono : ∀ {F F' : Hp} {v : Option V}, Same F F' → p F v → p F' v
def Rep.at (R : Rep α) (a : α) : Sa := ⟨fun F ov => ∃ v, ov = some v ∧ R.r F v a, fun s ⟨v, e, h⟩ => ⟨v, e, R.mono s h⟩⟩
def sRef (c : Addr) : Sa := ⟨fun _ ov => ov = some (.ref c), fun _ h => h⟩
def sAny : Sa := ⟨fun _ _ => True, fun _ h => h⟩
/-- no table, no other thing -/
def Pl (o : HO) : Prop := (∀ ps, o ≠ .tbl ps) ∧ ∀ φ, o ≠ .ext φ
structure Ca where
  p : Hp → HO → Prop
  mono : ∀ {F F' : Hp} {o : HO}, Same F F' → p F o → p F' o
  nt : ∀ {F : Hp} {o : HO}, p F o → Pl o
def cL (R : Rep α) (l : List α) : Ca := ⟨fun F o => ∃ vs, o = .lst vs ∧ A2 (R.r F) vs l, fun s ⟨vs, e, h⟩ => ⟨vs, e, h.imp fun _ _ => R.mono s⟩, fun ⟨vs, e, _⟩ => by subst e; exact ⟨(fun _ z => by cases z), (fun _ z => by cases z)⟩⟩
end
/-- without tables -/
def NoT (F : Hp) : Prop := ∀ a ps, F a ≠ some (.tbl ps)
theorem NoT.upd {F : Hp} (n : NoT F) {p : Addr} {o : HO} (hn : ∀ ps, o ≠ .tbl ps) : NoT (upd F p o) := fun a ps z => by
  by_cases c : a = p
  · rw [c, upd_same] at z
    exact hn ps (Option.some.inj z)
  · rw [upd_ne c] at z
    exact n a ps z
/-- all but the tables -/
def cutT (H : Hp) : Hp := fun a => match H a with | some (.tbl _) => none | o => o
theorem cutT_at {H : Hp} {a : Addr} {o : HO} (e : H a = some o) (n : ∀ ps, o ≠ .tbl ps) : cutT H a = some o := by
  unfold cutT
  split
  · rename_i z
    rw [e] at z
    exact absurd (Option.some.inj z) (n _)
  · exact e
theorem same_cutT (H : Hp) : Same (cutT H) H := fun a o e => by
  unfold cutT at e
  split at e
  · cases e
  · exact e
theorem noT_cutT (H : Hp) : NoT (cutT H) := fun a ps e => by
  unfold cutT at e
  split at e
  · cases e
  · rename_i n
    exact n ps e
theorem sql_cutT {K : PySem.W.Frag} {H : Hp} {a : Addr} {xs : List V} (h : SqL K H a xs) : SqL K (cutT H) a xs := by
  rcases h with h | h
  · rcases h with h | ⟨o, h⟩
    · exact .inl (.inl (cutT_at h (fun _ z => by cases z)))
    · exact .inl (.inr ⟨o, cutT_at h (fun _ z => by cases z)⟩)
  · exact .inr h
/-- what is no table stays -/
def SameN (H H' : Hp) : Prop := ∀ a o, H a = some o → (∀ ps, o ≠ .tbl ps) → H' a = some o
theorem Same.toN {H H' : Hp} (s : Same H H') : SameN H H' := fun a o e _ => s a o e
theorem tabs_upd {T : List (Addr × Str)} {H : Hp} {c : Addr} {oc o : HO} (t : LamX.Tabs T H) (e : H c = some oc) (n : Pl oc) : LamX.Tabs T (upd H c o) := fun p hp => by
  obtain ⟨ps, h1, h2, h3⟩ := t p hp
  refine ⟨ps, ?_, h2, fun pos cv hc => ?_⟩
  · rw [upd_ne (fun z => ?_)]
    · exact h1
    · rw [z, e] at h1
      exact n.1 ps (Option.some.inj h1)
  · obtain ⟨c', e1, e2⟩ := h3 pos cv hc
    refine ⟨c', e1, ?_⟩
    rw [upd_ne (fun z => ?_)]
    · exact e2
    · rw [z, e] at e2
      exact n.2 _ (Option.some.inj e2)
theorem tabs_keep {T : List (Addr × Str)} {H H' : Hp} {c : Addr} {oc : HO} (t : LamX.Tabs T H) (e : H c = some oc) (n : Pl oc) (k : ∀ p o, H p = some o → p ≠ c → H' p = some o) : LamX.Tabs T H' := fun p hp => by
  obtain ⟨ps, h1, h2, h3⟩ := t p hp
  refine ⟨ps, k _ _ h1 (fun z => ?_), h2, fun pos cv hc => ?_⟩
  · rw [z, e] at h1
    exact n.1 ps (Option.some.inj h1)
  · obtain ⟨c', e1, e2⟩ := h3 pos cv hc
    refine ⟨c', e1, k _ _ e2 (fun z => ?_)⟩
    rw [z, e] at e2
    exact n.2 _ (Option.some.inj e2)
/-- what may be changed; the tables of the lambdas -/
structure Mx where
  ad : List Addr
  tl : List (Addr × Str)
/-- what a run leaves: F grows by what is new, all but M is as it was -/
structure Ext (M : Mx) (F0 H0 F H : Hp) : Prop where
  ff : Same F0 F
  fh : Same F H
  hh : ∀ a o, a ∉ M.ad → H0 a = some o → (∀ ps, o ≠ .tbl ps) → H a = some o
  ap : ∀ a, F0 a = none → H0 a ≠ none → F a = none
  dm : ∀ a, H0 a ≠ none → H a ≠ none
  nt : NoT F
  tb : LamX.Tabs M.tl H0 → LamX.Tabs M.tl H
theorem Ext.refl {M : Mx} {F H : Hp} (s : Same F H) (n : NoT F) : Ext M F H F H := ⟨Same.refl F, s, fun _ _ _ h _ => h, fun _ h _ => h, fun _ h => h, n, fun t => t⟩
theorem Ext.trans {M : Mx} {F0 H0 F H F' H' : Hp} (x : Ext M F0 H0 F H) (y : Ext M F H F' H') : Ext M F0 H0 F' H' :=
  ⟨x.ff.trans y.ff, y.fh, fun a o n h q => y.hh a o n (x.hh a o n h q) q, fun a h n => y.ap a (x.ap a h n) (x.dm a n), fun a n => y.dm a (x.dm a n), y.nt, fun t => y.tb (x.tb t)⟩
theorem Ext.same {T : List (Addr × Str)} {F0 H0 F H : Hp} (x : Ext ⟨[], T⟩ F0 H0 F H) : SameN H0 H := fun a o h q => x.hh a o (by simp) h q
theorem ext_new {T : List (Addr × Str)} {F H : Hp} {p : Addr} {o : HO} (s : Same F H) (n : NoT F) (hp : H p = none) (hn : ∀ ps, o ≠ .tbl ps := by intro ps z; cases z) : Ext ⟨[], T⟩ F H (upd F p o) (upd H p o) := by
  have fp := s.free hp
  refine ⟨same_new fp, fun b x e => ?_, fun a x _ h _ => new_at hp h, fun a h n => ?_, fun a n e => ?_, n.upd hn, fun t => t.ext fun b o e => new_at hp e⟩
  · by_cases c : b = p
    · subst c
      rw [upd_same] at e ⊢
      exact e
    · rw [upd_ne c] at e ⊢
      exact s b x e
  · rw [upd_ne (fun c => n (by rw [c]; exact hp))]
    exact h
  · rw [upd_ne (fun c => n (by rw [c]; exact hp))] at e
    exact n e
/-- where a run stands: slots, cells of its own -/
structure Wst (M : Mx) (F0 H0 : Hp) (ss : List Sa) (cs : List (Addr × Ca)) (σ : St) (F H : Hp) : Prop where
  ex : Ext M F0 H0 F H
  sl : A2 (fun (s : Sa) ov => s.p F ov) ss σ
  cl : ∀ p ∈ cs, (∃ o, H p.1 = some o ∧ p.2.p F o) ∧ F p.1 = none ∧ (p.1 ∈ M.ad ∨ H0 p.1 = none)
  nd : (cs.map (·.1)).Nodup
theorem A2.setL {α β : Type} {R : α → β → Prop} {as : List α} {bs : List β} (h : A2 R as bs) : ∀ {i : Nat} {b : β} {a : α}, bs[i]? = some b → R a b → A2 R (as.set i a) bs := by
  induction h with
  | nil => intro i b a _ _; exact .nil
  | cons q t ih =>
    intro i b a e r
    cases i with
    | zero => cases e; exact .cons r t
    | succ i => exact .cons q (ih (by simpa using e) r)
theorem A2.setB {α β : Type} {R : α → β → Prop} {as : List α} {bs : List β} (h : A2 R as bs) {a : α} {b : β} (r : R a b) : ∀ i : Nat, A2 R (as.set i a) (bs.set i b) := by
  induction h with
  | nil => intro i; exact .nil
  | cons q t ih =>
    intro i
    cases i with
    | zero => exact .cons r t
    | succ i => exact .cons q (ih i)
section
variable {M : Mx} {F0 H0 F H F' H' : Hp} {ss ss' : List Sa} {cs cs' : List (Addr × Ca)} {σ : St} {c p : Addr} {A A' : Ca} {k i : Nat} {o : HO} {α β : Type} {R : Rep α} {a : α} {l : List α}
theorem Wst.fh (h : Wst M F0 H0 ss cs σ F H) : Same F H := h.ex.fh
theorem Wst.nt (h : Wst M F0 H0 ss cs σ F H) : NoT F := h.ex.nt
theorem Wst.tb (h : Wst M F0 H0 ss cs σ F H) (t : LamX.Tabs M.tl H0) : LamX.Tabs M.tl H := h.ex.tb t
theorem Wst.grow (h : Wst M F0 H0 ss cs σ F H) (e : Ext ⟨[], M.tl⟩ F H F' H') : Wst M F0 H0 ss cs σ F' H' := by
  refine ⟨⟨h.ex.ff.trans e.ff, e.fh, fun a o n q z => e.same a o (h.ex.hh a o n q z) z, fun a q n => e.ap a (h.ex.ap a q n) (h.ex.dm a n), fun a n => e.dm a (h.ex.dm a n), e.nt, fun t => e.tb (h.ex.tb t)⟩, h.sl.imp fun s _ => s.mono e.ff, fun p hp => ?_, h.nd⟩
  obtain ⟨⟨o, h1, h2⟩, h3, h4⟩ := h.cl p hp
  exact ⟨⟨o, e.same _ _ h1 (p.2.nt h2).1, p.2.mono e.ff h2⟩, e.ap _ h3 (by rw [h1]; exact nofun), h4⟩
theorem Wst.newC (h : Wst M F0 H0 ss cs σ F H) (hp : H p = none) (q : A.p F o) : Wst M F0 H0 ss ((p, A) :: cs) σ F (upd H p o) := by
  have fp := h.fh.free hp
  have h0 : H0 p = none := by
    cases e : H0 p with
    | none => rfl
    | some x => exact absurd hp (h.ex.dm p (by rw [e]; exact nofun))
  refine ⟨⟨h.ex.ff, same_mut h.fh fp, fun a x n e z => new_at hp (h.ex.hh a x n e z), h.ex.ap, fun a n e => ?_, h.ex.nt, fun t => (h.ex.tb t).ext fun b o e => new_at hp e⟩, h.sl, fun x hx => ?_, ?_⟩
  · rw [upd_ne (fun z => n (by rw [z]; exact h0))] at e
    exact h.ex.dm a n e
  · rcases List.mem_cons.mp hx with rfl | hx
    · exact ⟨⟨o, upd_same, q⟩, fp, .inr h0⟩
    · obtain ⟨⟨o', h1, h2⟩, h3⟩ := h.cl x hx
      exact ⟨⟨o', new_at hp h1, h2⟩, h3⟩
  · rw [List.map_cons, List.nodup_cons]
    refine ⟨fun z => ?_, h.nd⟩
    obtain ⟨x, hx, e⟩ := List.mem_map.mp z
    obtain ⟨⟨o', h1, _⟩, _⟩ := h.cl x hx
    rw [e, hp] at h1
    cases h1
theorem Wst.own (h : Wst M F0 H0 ss cs σ F H) (hp : H p = none) : H0 p = none := by
  cases e : H0 p with
  | none => rfl
  | some x => exact absurd hp (h.ex.dm p (by rw [e]; exact nofun))
theorem Wst.cell (h : Wst M F0 H0 ss cs σ F H) (e : cs[k]? = some (c, A)) : ∃ o, H c = some o ∧ A.p F o := (h.cl _ (List.mem_of_getElem? e)).1
theorem Wst.apart (h : Wst M F0 H0 ss cs σ F H) (e : cs[k]? = some (c, A)) : F c = none := (h.cl _ (List.mem_of_getElem? e)).2.1
theorem Wst.where (h : Wst M F0 H0 ss cs σ F H) (e : cs[k]? = some (c, A)) : c ∈ M.ad ∨ H0 c = none := (h.cl _ (List.mem_of_getElem? e)).2.2
theorem cells_set (e : cs[k]? = some (c, A)) : (cs.set k (c, A')).map (·.1) = cs.map (·.1) := by
  rw [List.map_set]
  refine List.ext_getElem? fun j => ?_
  rw [List.getElem?_set]
  split
  · rename_i z
    subst z
    rw [List.getElem?_map, e]
    have := (List.getElem?_eq_some_iff.mp e).1
    simp [this]
  · rfl
theorem cells_mem (nd : (cs.map (·.1)).Nodup) (e : cs[k]? = some (c, A)) {x : Addr × Ca} (hx : x ∈ cs.set k (c, A')) : x = (c, A') ∨ (x ∈ cs ∧ x.1 ≠ c) := by
  obtain ⟨j, hj⟩ := List.mem_iff_getElem?.mp hx
  rw [List.getElem?_set] at hj
  split at hj
  · rename_i z
    split at hj
    · exact .inl (Option.some.inj hj).symm
    · cases hj
  · rename_i z
    refine .inr ⟨List.mem_of_getElem? hj, fun q => ?_⟩
    have e1 : (cs.map (·.1))[j]? = some c := by rw [List.getElem?_map, hj]; exact congrArg some q
    have e2 : (cs.map (·.1))[k]? = some c := by rw [List.getElem?_map, e]; rfl
    exact z (nd_ix nd e2 e1)
theorem Wst.call1 (h : Wst M F0 H0 ss cs σ F H) (e : cs[k]? = some (c, A)) (x : Ext ⟨[c], M.tl⟩ F H F' H') (q : ∃ o, H' c = some o ∧ A'.p F' o) : Wst M F0 H0 ss (cs.set k (c, A')) σ F' H' := by
  have cw := h.where e
  obtain ⟨oc, hc, _⟩ := h.cell e
  have ca := h.apart e
  refine ⟨⟨h.ex.ff.trans x.ff, x.fh, fun a o n q zz => ?_, fun a q n => x.ap a (h.ex.ap a q n) (h.ex.dm a n), fun a n => x.dm a (h.ex.dm a n), x.nt, fun t => x.tb (h.ex.tb t)⟩, h.sl.imp fun s _ => s.mono x.ff, fun p hp => ?_, ?_⟩
  · refine x.hh a o (fun z => ?_) (h.ex.hh a o n q zz) zz
    rw [List.mem_singleton.mp z] at n q
    rcases cw with w | w
    · exact n w
    · rw [w] at q; cases q
  · rcases cells_mem h.nd e hp with rfl | ⟨hp, ne⟩
    · exact ⟨q, x.ap _ ca (by rw [hc]; exact nofun), cw⟩
    · obtain ⟨⟨o, h1, h2⟩, h3, h4⟩ := h.cl p hp
      exact ⟨⟨o, x.hh _ _ (fun z => ne (List.mem_singleton.mp z)) h1 (p.2.nt h2).1, p.2.mono x.ff h2⟩, x.ap _ h3 (by rw [h1]; exact nofun), h4⟩
  · rw [cells_set e]
    exact h.nd
theorem Wst.mut (h : Wst M F0 H0 ss cs σ F H) (e : cs[k]? = some (c, A)) (q : A'.p F o) : Wst M F0 H0 ss (cs.set k (c, A')) σ F (upd H c o) := by
  obtain ⟨oc, hc, hq⟩ := h.cell e
  refine h.call1 e (F' := F) ⟨Same.refl F, same_mut h.fh (h.apart e), fun a x n q _ => ?_, fun a q _ => q, fun a n z => ?_, h.ex.nt, fun t => tabs_upd t hc (A.nt hq)⟩ ⟨o, upd_same, q⟩
  · rw [upd_ne (fun z => n (List.mem_singleton.mpr z))]
    exact q
  · by_cases y : a = c
    · subst y
      rw [upd_same] at z
      cases z
    · rw [upd_ne y] at z
      exact n z
theorem Wst.dropC (h : Wst M F0 H0 ss cs σ F H) (j : Nat) : Wst M F0 H0 ss (cs.eraseIdx j) σ F H :=
  ⟨h.ex, h.sl, fun p hp => h.cl p (List.mem_of_mem_eraseIdx hp), h.nd.sublist ((List.eraseIdx_sublist _ _).map _)⟩
theorem Wst.setS {s : Sa} {ov : Option V} (h : Wst M F0 H0 ss cs σ F H) (q : s.p F ov) (i : Nat) : Wst M F0 H0 (ss.set i s) cs (σ.set i ov) F H := ⟨h.ex, h.sl.setB q i, h.cl, h.nd⟩
theorem Wst.retype {s s' : Sa} (h : Wst M F0 H0 ss cs σ F H) (e : ss[i]? = some s) (q : ∀ ov, s.p F ov → s'.p F ov) : Wst M F0 H0 (ss.set i s') cs σ F H := by
  obtain ⟨ov, h1, h2⟩ := A2.get h.sl e
  exact ⟨h.ex, h.sl.setL h1 (q _ h2), h.cl, h.nd⟩
theorem Wst.toAny (h : Wst M F0 H0 ss cs σ F H) (i : Nat) : Wst M F0 H0 (ss.set i sAny) cs σ F H := by
  cases e : ss[i]? with
  | none =>
    rw [List.set_eq_of_length_le (List.getElem?_eq_none_iff.mp e)]
    exact h
  | some s => exact h.retype e fun _ _ => trivial
/-- a list of one's own that is not changed any more -/
theorem Wst.freeze (h : Wst M F0 H0 ss cs σ F H) (e : cs[k]? = some (c, cL R l)) (h0 : H0 c = none) : ∃ F', Same F F' ∧ Wst M F0 H0 ss (cs.eraseIdx k) σ F' H ∧ (rL R).r F' (.ref c) l := by
  obtain ⟨o, hc, vs, rfl, hv⟩ := h.cell e
  have fc := h.apart e
  have sf : Same F (upd F c (.lst vs)) := same_new fc
  refine ⟨upd F c (.lst vs), sf, ⟨⟨h.ex.ff.trans sf, fun b x q => ?_, h.ex.hh, fun a q n => ?_, h.ex.dm, h.ex.nt.upd (fun _ z => by cases z), h.ex.tb⟩, h.sl.imp fun s _ => s.mono sf, fun p hp => ?_, (h.dropC k).nd⟩, ⟨c, vs, rfl, upd_same, hv.imp fun _ _ => R.mono sf⟩⟩
  · by_cases z : b = c
    · subst z
      rw [upd_same] at q
      rw [← q]
      exact hc
    · rw [upd_ne z] at q
      exact h.fh b x q
  · rw [upd_ne (fun z => n (by rw [z]; exact h0))]
    exact h.ex.ap a q n
  · obtain ⟨⟨o, h1, h2⟩, h3, h4⟩ := h.cl p (List.mem_of_mem_eraseIdx hp)
    refine ⟨⟨o, h1, p.2.mono sf h2⟩, ?_, h4⟩
    have ne : p.1 ≠ c := fun z => by
      have n2 := (h.dropC k).nd
      obtain ⟨j, hj⟩ := List.mem_iff_getElem?.mp hp
      rw [List.getElem?_eraseIdx] at hj
      have e2 : (cs.map (·.1))[k]? = some c := by rw [List.getElem?_map, e]; rfl
      have fin : ∀ j', j' ≠ k → cs[j']? = some p → False := fun j' nj hj' => by
        have e1 : (cs.map (·.1))[j']? = some c := by rw [List.getElem?_map, hj']; exact congrArg some z
        exact nj (nd_ix h.nd e1 e2)
      split at hj
      · exact fin j (by omega) hj
      · exact fin (j + 1) (by omega) hj
    rw [upd_ne ne]
    exact h3
theorem Wst.toAt (h : Wst M F0 H0 ss cs σ F H) (e : ss[i]? = some (sRef c)) (r : R.r F (.ref c) a) : Wst M F0 H0 (ss.set i (R.at a)) cs σ F H := h.retype e fun ov q => ⟨.ref c, q, r⟩
def wipeS (ss : List Sa) : List Nat → List Sa
  | [] => ss
  | v :: vs => (wipeS ss vs).set v sAny
theorem Wst.wipe (h : Wst M F0 H0 ss cs σ F H) : ∀ vs : List Nat, Wst M F0 H0 (wipeS ss vs) cs (L2.wipe σ vs) F H
  | [] => h
  | v :: vs => (h.wipe vs).setS (s := sAny) trivial v
theorem Wst.as (h : Wst M F0 H0 ss cs σ F H) (e : ss = ss') (e2 : cs = cs') : Wst M F0 H0 ss' cs' σ F H := by subst e; subst e2; exact h
theorem Wst.start {vs : List V} {n : Nat} (s : Same F H) (nt : NoT F) (cl : ∀ p ∈ cs, (∃ o, H p.1 = some o ∧ p.2.p F o) ∧ F p.1 = none ∧ p.1 ∈ M.ad) (nd : (cs.map (·.1)).Nodup) (q : A2 (fun (s : Sa) v => s.p F (some v)) ss vs) :
    Wst M F H (ss ++ List.replicate n sAny) cs (vs.map some ++ List.replicate n none) F H := by
  refine ⟨Ext.refl s nt, ?_, fun p hp => ⟨(cl p hp).1, (cl p hp).2.1, .inl (cl p hp).2.2⟩, nd⟩
  refine A2.app ?_ ?_
  · clear cl nd
    induction q with
    | nil => exact .nil
    | cons r _ ih => exact .cons r ih
  · induction n with
    | zero => exact .nil
    | succ n ih => exact .cons trivial ih
end
/-! ### partial answers -/
section
variable {α β S T : Type}
def gd (p : Prop) [Decidable p] : Option Unit := if p then some () else none
theorem gd_ok {p : Prop} [Decidable p] {u : Unit} (h : gd p = some u) : p := by
  unfold gd at h
  split at h
  · assumption
  · cases h
theorem gd_true {p : Prop} [Decidable p] (h : p) : gd p = some () := if_pos h
theorem bnd {m : Option α} {k : α → Option β} {r : β} (h : m.bind k = some r) : ∃ a, m = some a ∧ k a = some r := Option.bind_eq_some_iff.mp h
theorem ite_t {c : Bool} {a b r : α} (h : (if c = true then a else b) = r) (hc : c = true) : a = r := by rw [if_pos hc] at h; exact h
theorem ite_f {c : Bool} {a b r : α} (h : (if c = true then a else b) = r) (hc : c = false) : b = r := by rw [hc] at h; exact h
def foldO (body : S → α → Option S) : List α → S → Option S
  | [], s => some s
  | x :: xs, s => (body s x).bind (foldO body xs)
inductive Stp (S T : Type) where
  | nx (s : S)
  | bk (s : S)
  | rt (t : T)
def loopO (body : S → α → Option (Stp S T)) : List α → S → Option (Stp S T)
  | [], s => some (.nx s)
  | x :: xs, s => (body s x).bind fun
    | .nx s' => loopO body xs s'
    | .bk s' => some (.bk s')
    | .rt t => some (.rt t)
def compO (f : α → Option (Option β)) : List α → Option (List β)
  | [] => some []
  | x :: xs => (f x).bind fun o => (compO f xs).bind fun l => some (o.toList ++ l)
def whileO (c : S → Option Bool) (body : S → Option (Stp S T)) : Nat → S → Option (Stp S T)
  | 0, _ => none
  | n + 1, s => (c s).bind fun b => if b = true then (body s).bind fun
    | .nx s' => whileO c body n s'
    | .bk s' => some (.bk s')
    | .rt t => some (.rt t) else some (.nx s)
def whlO (c : S → Option Bool) (body : S → Option S) : Nat → S → Option S
  | 0, _ => none
  | n + 1, s => (c s).bind fun b => if b = true then (body s).bind (whlO c body n) else some s
/-- a loop by an invariant -/
theorem foldO_ok {body : S → α → Option S} (I : Nat → S → Prop) {xs : List α} {s0 : S} (h0 : I 0 s0) (hs : ∀ i x s, xs[i]? = some x → I i s → ∃ s', body s x = some s' ∧ I (i + 1) s') : ∃ s, foldO body xs s0 = some s ∧ I xs.length s := by
  induction xs generalizing s0 I with
  | nil => exact ⟨s0, rfl, h0⟩
  | cons x xs ih =>
    obtain ⟨s1, e1, h1⟩ := hs 0 x s0 rfl h0
    obtain ⟨s2, e2, h2⟩ := ih (fun i => I (i + 1)) h1 fun i x s hx hi => hs (i + 1) x s (by simpa using hx) hi
    refine ⟨s2, ?_, h2⟩
    show (body s0 x).bind (foldO body xs) = _
    rw [e1]
    exact e2
theorem foldO_map {body : S → α → Option S} {g : S → α → S} {xs : List α} {s0 : S} (h : ∀ s x, x ∈ xs → body s x = some (g s x)) : foldO body xs s0 = some (xs.foldl g s0) := by
  induction xs generalizing s0 with
  | nil => rfl
  | cons x xs ih =>
    show (body s0 x).bind (foldO body xs) = _
    rw [h s0 x (List.mem_cons_self ..)]
    exact ih fun s y hy => h s y (List.mem_cons_of_mem _ hy)
theorem compO_map {f : α → Option (Option β)} {g : α → Option β} {xs : List α} (h : ∀ x ∈ xs, f x = some (g x)) : compO f xs = some (xs.filterMap g) := by
  induction xs with
  | nil => rfl
  | cons x xs ih =>
    show (f x).bind (fun o => (compO f xs).bind fun l => some (o.toList ++ l)) = _
    rw [h x (List.mem_cons_self ..), ih fun y hy => h y (List.mem_cons_of_mem _ hy)]
    simp only [Option.bind_some, List.filterMap_cons]
    cases g x <;> rfl
theorem compO_all {f : α → Option (Option β)} {g : α → β} {xs : List α} (h : ∀ x ∈ xs, f x = some (some (g x))) : compO f xs = some (xs.map g) := by
  rw [compO_map (g := fun x => some (g x)) h]
  congr 1
  clear h
  induction xs with
  | nil => rfl
  | cons x xs ih => rw [List.filterMap_cons, List.map_cons, ih]
theorem compO_filter {f : α → Option (Option α)} {g : α → Bool} {xs : List α} (h : ∀ x ∈ xs, f x = some (if g x = true then some x else none)) : compO f xs = some (xs.filter g) := by
  rw [compO_map h]
  congr 1
  induction xs with
  | nil => rfl
  | cons x xs ih =>
    have ih := ih fun y hy => h y (List.mem_cons_of_mem _ hy)
    rw [List.filterMap_cons, List.filter_cons, ih]
    cases g x <;> rfl
end
/-! ### mirrors: steps -/
section
variable {M : Mx} {F0 H0 F H F' H' : Hp} {ss ss' : List Sa} {cs cs' : List (Addr × Ca)} {σ : St} {c : Addr} {A A' : Ca} {k i : Nat} {α β γ : Type} {R : Rep α} {S : Rep β} {T : Rep γ} {a : α} {b : β} {l l' : List α} {Q : VK} {Qs : St → Hp → Prop} {K : PySem.W.Frag} {v x y z : V}
theorem w_var (h : Wst M F0 H0 ss cs σ F H) (e : ss[i]? = some (R.at a)) (q : ∀ v, R.r F v a → Q v H) : tVar i σ H Q := by
  obtain ⟨ov, h1, v, rfl, r⟩ := A2.get h.sl e
  exact ⟨v, h1, q v r⟩
theorem w_vN {n : Nat} (h : Wst M F0 H0 ss cs σ F H) (e : ss[i]? = some (rN.at n)) (q : Q (.int (n : Int)) H) : tVar i σ H Q := w_var h e fun v r => by rw [show v = _ from r]; exact q
theorem w_vI {n : Int} (h : Wst M F0 H0 ss cs σ F H) (e : ss[i]? = some (rZ.at n)) (q : Q (.int n) H) : tVar i σ H Q := w_var h e fun v r => by rw [show v = _ from r]; exact q
theorem w_vB {n : Bool} (h : Wst M F0 H0 ss cs σ F H) (e : ss[i]? = some (rB.at n)) (q : Q (.bl n) H) : tVar i σ H Q := w_var h e fun v r => by rw [show v = _ from r]; exact q
theorem w_vS {n : Str} (h : Wst M F0 H0 ss cs σ F H) (e : ss[i]? = some (rSt.at n)) (q : Q (.str n) H) : tVar i σ H Q := w_var h e fun v r => by rw [show v = _ from r]; exact q
theorem w_ref (h : Wst M F0 H0 ss cs σ F H) (e : ss[i]? = some (sRef c)) (q : Q (.ref c) H) : tVar i σ H Q := by
  obtain ⟨ov, h1, h2⟩ := A2.get h.sl e
  rw [show ov = _ from h2] at h1
  exact ⟨_, h1, q⟩
theorem w_cN (n : Nat) (q : Q (.int (n : Int)) H) : tC (.int (n : Int)) σ H Q := q
theorem w_name (h : Wst M F0 H0 ss cs σ F H) (e : ss.set i (R.at a) = ss') (r : R.r F v a) (q : ∀ σ', Wst M F0 H0 ss' cs σ' F H → Qs σ' H) : gName i v σ H Qs := by
  subst e
  exact x_name rfl (q _ (h.setS (s := R.at a) ⟨v, rfl, r⟩ i))
theorem w_nameC (h : Wst M F0 H0 ss cs σ F H) (e : ss.set i (sRef c) = ss') (q : ∀ σ', Wst M F0 H0 ss' cs σ' F H → Qs σ' H) : gName i (.ref c) σ H Qs := by
  subst e
  exact x_name rfl (q _ (h.setS (s := sRef c) rfl i))
theorem w_nameA (h : Wst M F0 H0 ss cs σ F H) (e : ss.set i sAny = ss') (q : ∀ σ', Wst M F0 H0 ss' cs σ' F H → Qs σ' H) : gName i v σ H Qs := by
  subst e
  exact x_name rfl (q _ (h.setS (s := sAny) trivial i))
/-- a list that can be read -/
def LV (R : Rep α) (F H : Hp) (v : V) (l : List α) : Prop := ∃ a vs, v = .ref a ∧ H a = some (.lst vs) ∧ A2 (R.r F) vs l
theorem lv_f (s : Same F H) (r : (rL R).r F v l) : LV R F H v l := by
  obtain ⟨a, vs, e, h, q⟩ := r
  exact ⟨a, vs, e, s _ _ h, q⟩
theorem lv_c (h : Wst M F0 H0 ss cs σ F H) (e : cs[k]? = some (c, cL R l)) : LV R F H (.ref c) l := by
  obtain ⟨o, h1, vs, rfl, q⟩ := h.cell e
  exact ⟨c, vs, rfl, h1, q⟩
theorem A2.getB {α β : Type} {R : α → β → Prop} {as : List α} {bs : List β} (h : A2 R as bs) : ∀ {i : Nat} {b : β}, bs[i]? = some b → ∃ a, as[i]? = some a ∧ R a b := by
  induction h with
  | nil => intro i b e; simp at e
  | cons r _ ih =>
    intro i b e
    cases i with
    | zero => cases e; exact ⟨_, rfl, r⟩
    | succ i => exact ih (by simpa using e)
theorem w_ix {n : Nat} (r : LV R F H v l) (e : l[n]? = some a) (q : ∀ x, R.r F x a → Q x H) : rIxL K v (.int (n : Int)) H Q := by
  obtain ⟨p, vs, rfl, hp, hv⟩ := r
  obtain ⟨x, hx, rx⟩ := hv.getB e
  exact x_ixL hp (atI_nat hx) (q x rx)
/-- an item by an int, from the end, too -/
def ixO (l : List α) (j : Int) : Option α := if 0 ≤ j then l[j.toNat]? else if -j ≤ (l.length : Int) then l[(l.length + j).toNat]? else none
theorem atI_ixO {R : Hp → V → α → Prop} {vs : List V} {j : Int} (hv : A2 (R F) vs l) (e : ixO l j = some a) : ∃ x, atI vs j = some x ∧ R F x a := by
  have zl := hv.len
  unfold ixO at e
  split at e
  · obtain ⟨x, hx, rx⟩ := hv.getB e
    refine ⟨x, ?_, rx⟩
    have := atI_nat (xs := vs) hx
    rwa [show ((j.toNat : Nat) : Int) = j by omega] at this
  · split at e
    · obtain ⟨x, hx, rx⟩ := hv.getB e
      refine ⟨x, ?_, rx⟩
      unfold atI ixN
      rw [if_neg (by omega), if_pos (by omega)]
      show vs[(j + (vs.length : Int)).toNat]? = some x
      rw [← hx]
      congr 1
      omega
    · cases e
theorem w_ixI {j : Int} (r : LV R F H v l) (e : ixO l j = some a) (q : ∀ x, R.r F x a → Q x H) : rIxL K v (.int j) H Q := by
  obtain ⟨p, vs, rfl, hp, hv⟩ := r
  obtain ⟨x, hx, rx⟩ := atI_ixO (R := R.r) hv e
  exact x_ixL hp hx (q x rx)
theorem w_len (r : LV R F H v l) (q : Q (.int (l.length : Int)) H) : rLen K [v] H Q := by
  obtain ⟨p, vs, rfl, hp, hv⟩ := r
  refine x_len hp ?_
  rw [hv.len]
  exact q
theorem a2_nvN {vs : List V} {l : List Nat} (h : A2 (rN.r F) vs l) : vs = nv l := by
  induction h with
  | nil => rfl
  | cons r _ ih => rw [ih, show _ = _ from r]; rfl
theorem a2_bl {vs : List V} {l : List Bool} (h : A2 (rB.r F) vs l) : vs = l.map V.bl := by
  induction h with
  | nil => rfl
  | cons r _ ih => rw [ih, show _ = _ from r]; rfl
theorem a2_iv {vs : List V} {l : List Int} (h : A2 (rZ.r F) vs l) : vs = l.map V.int := by
  induction h with
  | nil => rfl
  | cons r _ ih => rw [ih, show _ = _ from r]; rfl
theorem nvN_a2 (l : List Nat) : A2 (rN.r F) (nv l) l := by
  induction l with
  | nil => exact .nil
  | cons x r ih => exact .cons rfl ih
theorem w_inN {n : Nat} {l : List Nat} (r : LV rN F H v l) (q : Q (.bl (decide (n ∈ l))) H) : rIn K false (.int (n : Int)) v H Q := by
  obtain ⟨p, vs, rfl, hp, hv⟩ := r
  rw [a2_nvN hv] at hp
  exact x_inN hp q
theorem w_ninN {n : Nat} {l : List Nat} (r : LV rN F H v l) (q : Q (.bl (!decide (n ∈ l))) H) : rIn K true (.int (n : Int)) v H Q := by
  obtain ⟨p, vs, rfl, hp, hv⟩ := r
  rw [a2_nvN hv] at hp
  exact x_ninN hp q
/-! new lists -/
def NewL (xs : List V) (H : Hp) (Q : VK) : Prop := xs.length ≤ sizeLine ∧ ∀ p, H p = none → Q (.ref p) (upd H p (.lst xs))
def NewT (xs : List V) (H : Hp) (Q : VK) : Prop := xs.length ≤ sizeLine ∧ ∀ p, H p = none → Q (.ref p) (upd H p (.tup xs))
def NewR (a b : Int) (H : Hp) (Q : VK) : Prop := RgOk a b ∧ ∀ q, H q = none → Q (.ref q) (upd H q (.lst (rgV a b)))
def NewV (K : PySem.W.Frag) (x : V) (H : Hp) (Q : VK) : Prop := ∃ a xs, x = .ref a ∧ SqL K H a xs ∧ ∀ p, H p = none → Q (.ref p) (upd H p (.lst xs.reverse))
theorem m_lst {tr : TA} (h : tr σ H fun xs H1 => NewL xs H1 Q) : tLst tr σ H Q := h
theorem m_tup {tr : TA} (h : tr σ H fun xs H1 => NewT xs H1 Q) : tTup tr σ H Q := h
theorem m_lstRg {te : St → Hp → (Int → Int → Hp → Prop) → Prop} (h : te σ H fun a b H1 => NewR a b H1 Q) : tLstRg te σ H Q := h
theorem m_revT {te : TE} (h : te σ H fun x H1 => NewV K x H1 Q) : tRevL K te σ H Q := h
theorem w_newF {vs : List V} (h : Wst M F0 H0 ss cs σ F H) (r : A2 (R.r F) vs l) (q : ∀ v F' H', Same F F' → Wst M F0 H0 ss cs σ F' H' → (rL R).r F' v l → Q v H') : ∀ p, H p = none → Q (.ref p) (upd H p (.lst vs)) := fun p hp => by
  have e := ext_new (T := M.tl) (o := .lst vs) h.fh h.nt hp
  exact q _ _ _ e.ff (h.grow e) ⟨p, vs, rfl, upd_same, r.imp fun _ _ => R.mono e.ff⟩
theorem w_newC {vs : List V} (h : Wst M F0 H0 ss cs σ F H) (r : A2 (R.r F) vs l) (q : ∀ p H', H0 p = none → Wst M F0 H0 ss ((p, cL R l) :: cs) σ F H' → Q (.ref p) H') : ∀ p, H p = none → Q (.ref p) (upd H p (.lst vs)) := fun p hp =>
  q p _ (h.own hp) (h.newC hp ⟨vs, rfl, r⟩)
theorem w_sz {n : Nat} {P : Prop} (z : n ≤ 100000) (h : P) : n ≤ sizeLine ∧ P := ⟨sz_ok z, h⟩
theorem w_tup2 (h : Wst M F0 H0 ss cs σ F H) (r1 : R.r F x a) (r2 : S.r F y b) (q : ∀ v F' H', Same F F' → Wst M F0 H0 ss cs σ F' H' → (rT2 R S).r F' v (a, b) → Q v H') : NewT [x, y] H Q :=
  ⟨sz_ok (by show 2 ≤ 100000; decide), fun p hp => by
    have e := ext_new (T := M.tl) (o := .tup [x, y]) h.fh h.nt hp
    exact q _ _ _ e.ff (h.grow e) ⟨p, x, y, rfl, upd_same, R.mono e.ff r1, S.mono e.ff r2⟩⟩
theorem w_tup3 {g : γ} (h : Wst M F0 H0 ss cs σ F H) (r1 : R.r F x a) (r2 : S.r F y b) (r3 : T.r F z g) (q : ∀ v F' H', Same F F' → Wst M F0 H0 ss cs σ F' H' → (rT3 R S T).r F' v (a, b, g) → Q v H') : NewT [x, y, z] H Q :=
  ⟨sz_ok (by show 3 ≤ 100000; decide), fun p hp => by
    have e := ext_new (T := M.tl) (o := .tup [x, y, z]) h.fh h.nt hp
    exact q _ _ _ e.ff (h.grow e) ⟨p, x, y, z, rfl, upd_same, R.mono e.ff r1, S.mono e.ff r2, T.mono e.ff r3⟩⟩
theorem w_gT2 {g : TGs} {p : α × β} (s : Same F H) (r : (rT2 R S).r F v p) (q : ∀ x y, R.r F x p.1 → S.r F y p.2 → g [x, y] σ H Qs) : gTup K 2 g v σ H Qs := by
  obtain ⟨t, x, y, rfl, ht, r1, r2⟩ := r
  exact x_gTup (s _ _ ht) rfl (q x y r1 r2)
theorem w_gT3 {g : TGs} {p : α × β × γ} (s : Same F H) (r : (rT3 R S T).r F v p) (q : ∀ x y z, R.r F x p.1 → S.r F y p.2.1 → T.r F z p.2.2 → g [x, y, z] σ H Qs) : gTup K 3 g v σ H Qs := by
  obtain ⟨t, x, y, z, rfl, ht, r1, r2, r3⟩ := r
  exact x_gTup (s _ _ ht) rfl (q x y z r1 r2 r3)
theorem w_ixT20 {p : α × β} (s : Same F H) (r : (rT2 R S).r F v p) (q : ∀ x, R.r F x p.1 → Q x H) : rIxT K v (.int 0) H Q := by
  obtain ⟨t, x, y, rfl, ht, r1, r2⟩ := r
  exact x_ixT (s _ _ ht) rfl (q x r1)
theorem w_ixT21 {p : α × β} (s : Same F H) (r : (rT2 R S).r F v p) (q : ∀ x, S.r F x p.2 → Q x H) : rIxT K v (.int 1) H Q := by
  obtain ⟨t, x, y, rfl, ht, r1, r2⟩ := r
  exact x_ixT (s _ _ ht) rfl (q y r2)
theorem w_ixT30 {p : α × β × γ} (s : Same F H) (r : (rT3 R S T).r F v p) (q : ∀ x, R.r F x p.1 → Q x H) : rIxT K v (.int 0) H Q := by
  obtain ⟨t, x, y, z, rfl, ht, r1, r2, r3⟩ := r
  exact x_ixT (s _ _ ht) rfl (q x r1)
theorem w_ixT31 {p : α × β × γ} (s : Same F H) (r : (rT3 R S T).r F v p) (q : ∀ x, S.r F x p.2.1 → Q x H) : rIxT K v (.int 1) H Q := by
  obtain ⟨t, x, y, z, rfl, ht, r1, r2, r3⟩ := r
  exact x_ixT (s _ _ ht) rfl (q y r2)
theorem w_ixT32 {p : α × β × γ} (s : Same F H) (r : (rT3 R S T).r F v p) (q : ∀ x, T.r F x p.2.2 → Q x H) : rIxT K v (.int 2) H Q := by
  obtain ⟨t, x, y, z, rfl, ht, r1, r2, r3⟩ := r
  exact x_ixT (s _ _ ht) rfl (q z r3)
/-! changes of a list of one's own -/
theorem A2.eraseT {α β : Type} {R : α → β → Prop} {as : List α} {bs : List β} (h : A2 R as bs) : ∀ n, A2 R (as.eraseIdx n) (bs.eraseIdx n) := by
  induction h with
  | nil => intro n; simp; exact .nil
  | cons r t ih =>
    intro n
    cases n with
    | zero => exact t
    | succ n => exact .cons r (ih n)
theorem w_tyC {P : Prop} (h : Wst M F0 H0 ss cs σ F H) (e : cs[k]? = some (c, cL R l)) (q : P) : tyV K "list" (.ref c) H ∧ P := by
  obtain ⟨o, h1, vs, rfl, _⟩ := h.cell e
  exact x_tyL h1 q
theorem w_app (h : Wst M F0 H0 ss cs σ F H) (e : cs[k]? = some (c, cL R l)) (z : l.length < 100000) (r : R.r F v a) (e2 : cs.set k (c, cL R (l ++ [a])) = cs') (q : ∀ H', Wst M F0 H0 ss cs' σ F H' → Q .non H') : rAppend (.ref c) [v] H Q := by
  subst e2
  obtain ⟨o, h1, vs, rfl, hv⟩ := h.cell e
  exact x_append h1 (sz_lt (by rw [hv.len]; exact z)) (q _ (h.mut e ⟨_, rfl, hv.snoc r⟩))
theorem w_ext (h : Wst M F0 H0 ss cs σ F H) (e : cs[k]? = some (c, cL R l)) (r : LV R F H v l') (z : l.length + l'.length ≤ 100000) (e2 : cs.set k (c, cL R (l ++ l')) = cs') (q : ∀ H', Wst M F0 H0 ss cs' σ F H' → Q .non H') : rExtend (.ref c) [v] H Q := by
  subst e2
  obtain ⟨o, h1, vs, rfl, hv⟩ := h.cell e
  obtain ⟨p, ws, rfl, hp, hw⟩ := r
  exact x_ext h1 hp (by rw [hv.len, hw.len]; exact z) (q _ (h.mut e ⟨_, rfl, hv.app hw⟩))
theorem w_set {n : Nat} {Qh : Hp → Prop} (h : Wst M F0 H0 ss cs σ F H) (e : cs[k]? = some (c, cL R l)) (z : n < l.length) (r : R.r F v a) (e2 : cs.set k (c, cL R (l.set n a)) = cs') (q : ∀ H', Wst M F0 H0 ss cs' σ F H' → Qh H') : rSetL (.ref c) (.int (n : Int)) v H Qh := by
  subst e2
  obtain ⟨o, h1, vs, rfl, hv⟩ := h.cell e
  have zl := hv.len
  refine x_setL h1 (by omega) (by omega) (q _ (h.mut e ⟨_, rfl, ?_⟩))
  exact hv.setB r n
theorem w_pop {n : Nat} (h : Wst M F0 H0 ss cs σ F H) (e : cs[k]? = some (c, cL R l)) (z : l.length ≤ 100000) (e1 : l[n]? = some a) (e2 : cs.set k (c, cL R (l.eraseIdx n)) = cs') (q : ∀ x H', R.r F x a → Wst M F0 H0 ss cs' σ F H' → Q x H') : rPopAt (.ref c) [.int (n : Int)] H Q := by
  subst e2
  obtain ⟨o, h1, vs, rfl, hv⟩ := h.cell e
  obtain ⟨x, hx, rx⟩ := hv.getB e1
  have zl := hv.len
  refine x_popAt h1 (by omega) (by omega) (by rw [Int.toNat_natCast]; exact hx) (q x _ rx (h.mut e ⟨_, rfl, ?_⟩))
  rw [Int.toNat_natCast]
  exact hv.eraseT n
/-! reading lists -/
theorem w_listF (h : Wst M F0 H0 ss cs σ F H) (r : LV R F H v l) (q : ∀ v F' H', Same F F' → Wst M F0 H0 ss cs σ F' H' → (rL R).r F' v l → Q v H') : rListOf K [v] H Q := by
  obtain ⟨p, vs, rfl, hp, hv⟩ := r
  exact x_listOf hp (w_newF h hv q)
theorem w_listC (h : Wst M F0 H0 ss cs σ F H) (r : LV R F H v l) (q : ∀ p H', H0 p = none → Wst M F0 H0 ss ((p, cL R l) :: cs) σ F H' → Q (.ref p) H') : rListOf K [v] H Q := by
  obtain ⟨p, vs, rfl, hp, hv⟩ := r
  exact x_listOf hp (w_newC h hv q)
theorem w_lstF {vs : List V} (h : Wst M F0 H0 ss cs σ F H) (z : vs.length ≤ 100000) (hv : A2 (R.r F) vs l) (q : ∀ v F' H', Same F F' → Wst M F0 H0 ss cs σ F' H' → (rL R).r F' v l → Q v H') : NewL vs H Q := ⟨sz_ok z, w_newF h hv q⟩
theorem w_lstC {vs : List V} (h : Wst M F0 H0 ss cs σ F H) (z : vs.length ≤ 100000) (hv : A2 (R.r F) vs l) (q : ∀ p H', H0 p = none → Wst M F0 H0 ss ((p, cL R l) :: cs) σ F H' → Q (.ref p) H') : NewL vs H Q := ⟨sz_ok z, w_newC h hv q⟩
/-- a slice by two numbers -/
def cutL (l : List α) (lo hi : Option Int) : List α := (l.drop (HT.sIx l.length 0 lo)).take (HT.sIx l.length l.length hi - HT.sIx l.length 0 lo)
theorem A2.dropT {α β : Type} {R : α → β → Prop} {as : List α} {bs : List β} (h : A2 R as bs) : ∀ n, A2 R (as.drop n) (bs.drop n) := by
  induction h with
  | nil => intro n; rw [List.drop_nil, List.drop_nil]; exact .nil
  | cons r t ih =>
    intro n
    cases n with
    | zero => exact .cons r t
    | succ n => exact ih n
theorem A2.takeT {α β : Type} {R : α → β → Prop} {as : List α} {bs : List β} (h : A2 R as bs) : ∀ n, A2 R (as.take n) (bs.take n) := by
  induction h with
  | nil => intro n; rw [List.take_nil, List.take_nil]; exact .nil
  | cons r t ih =>
    intro n
    cases n with
    | zero => exact .nil
    | succ n => exact .cons r (ih n)
theorem a2_cut {vs : List V} {lo hi : Option Int} (h : A2 (R.r F) vs l) : A2 (R.r F) (cutV vs lo hi) (cutL l lo hi) := by
  unfold cutV cutL
  rw [h.len]
  exact (h.dropT _).takeT _
theorem w_slF {lo hi : Option Int} (h : Wst M F0 H0 ss cs σ F H) (r : LV R F H v l) (q : ∀ v F' H', Same F F' → Wst M F0 H0 ss cs σ F' H' → (rL R).r F' v (cutL l lo hi) → Q v H') : rSlL K v lo hi H Q := by
  obtain ⟨p, vs, rfl, hp, hv⟩ := r
  exact ⟨p, vs, rfl, sq_l hp, w_newF h (a2_cut hv) q⟩
theorem w_slC {lo hi : Option Int} (h : Wst M F0 H0 ss cs σ F H) (r : LV R F H v l) (q : ∀ p H', H0 p = none → Wst M F0 H0 ss ((p, cL R (cutL l lo hi)) :: cs) σ F H' → Q (.ref p) H') : rSlL K v lo hi H Q := by
  obtain ⟨p, vs, rfl, hp, hv⟩ := r
  exact ⟨p, vs, rfl, sq_l hp, w_newC h (a2_cut hv) q⟩
theorem cut_take {n : Nat} : cutL l none (some (n : Int)) = l.take n := by
  have h0 : HT.sIx l.length 0 none = 0 := rfl
  unfold cutL
  rw [h0, HT.sIx_nat, List.drop_zero, Nat.sub_zero]
  by_cases c : n ≤ l.length
  · rw [Nat.min_eq_left c]
  · rw [Nat.min_eq_right (by omega), List.take_length, List.take_of_length_le (by omega)]
theorem cut_drop {n : Nat} : cutL l (some (n : Int)) none = l.drop n := by
  have h0 : HT.sIx l.length l.length none = l.length := rfl
  unfold cutL
  rw [h0, HT.sIx_nat]
  by_cases c : n ≤ l.length
  · rw [Nat.min_eq_left c, List.take_of_length_le (by rw [List.length_drop]; exact Nat.le_refl _)]
  · rw [Nat.min_eq_right (by omega), List.drop_length, List.drop_of_length_le (by omega), List.take_nil]
/-- a list put in order -/
def srtN (l : List Nat) : List Nat := l.mergeSort fun a b => decide (a ≤ b)
theorem srtN_perm (l : List Nat) : (srtN l).Perm l := List.mergeSort_perm ..
theorem srtN_le (l : List Nat) : (srtN l).Pairwise (· ≤ ·) := by
  have := List.pairwise_mergeSort (le := fun (a b : Nat) => decide (a ≤ b)) (by simp; omega) (by simp; omega) l
  exact this.imp fun h => of_decide_eq_true h
theorem srtN_eq {l m : List Nat} (p : m.Perm l) (s : m.Pairwise (· ≤ ·)) : m = srtN l := List.Perm.eq_of_pairwise (fun a b _ _ h1 h2 => Nat.le_antisymm h1 h2) s (srtN_le l) (p.trans (srtN_perm l).symm)
theorem srt_of {l : List Nat} (r : LV rN F H v l) (q : ∀ p, H p = none → Q (.ref p) (upd H p (.lst (nv (srtN l))))) : rSortedI K [v] H Q := by
  obtain ⟨p, vs, rfl, hp, hv⟩ := r
  rw [a2_nvN hv, nv_ints] at hp
  refine x_sortedI hp fun ns q' pm srt hq => ?_
  obtain ⟨m, pm2, e⟩ := perm_nv (vs := ns.map V.int) (l := l) (by rw [nv_ints]; exact pm.map _)
  rw [e]
  have e2 : ns = m.map fun (v : Nat) => (v : Int) := by
    rw [nv_ints] at e
    exact (List.map_inj_right (fun a b h => V.int.inj h)).mp e
  rw [e2] at srt
  have sm : m.Pairwise (· ≤ ·) := (List.pairwise_map.mp srt).imp fun h => by omega
  rw [srtN_eq pm2 sm]
  exact q q' hq
theorem w_srtF {l : List Nat} (h : Wst M F0 H0 ss cs σ F H) (r : LV rN F H v l) (q : ∀ v F' H', Same F F' → Wst M F0 H0 ss cs σ F' H' → (rL rN).r F' v (srtN l) → Q v H') : rSortedI K [v] H Q := srt_of r (w_newF h (nvN_a2 _) q)
theorem w_srtC {l : List Nat} (h : Wst M F0 H0 ss cs σ F H) (r : LV rN F H v l) (q : ∀ p H', H0 p = none → Wst M F0 H0 ss ((p, cL rN (srtN l)) :: cs) σ F H' → Q (.ref p) H') : rSortedI K [v] H Q := srt_of r (w_newC h (nvN_a2 _) q)
theorem w_all {l : List Bool} (r : LV rB F H v l) (q : Q (.bl (l.all id)) H) : rAll K [v] H Q := by
  obtain ⟨p, vs, rfl, hp, hv⟩ := r
  rw [a2_bl hv] at hp
  exact ⟨p, _, rfl, sq_l hp, q⟩
theorem w_any {l : List Bool} (r : LV rB F H v l) (q : Q (.bl (l.any id)) H) : rAny K [v] H Q := by
  obtain ⟨p, vs, rfl, hp, hv⟩ := r
  rw [a2_bl hv] at hp
  exact ⟨p, _, rfl, sq_l hp, q⟩
theorem A2.rev {α β : Type} {R : α → β → Prop} {as : List α} {bs : List β} (h : A2 R as bs) : A2 R as.reverse bs.reverse := by
  induction h with
  | nil => exact .nil
  | cons r _ ih =>
    rw [List.reverse_cons, List.reverse_cons]
    exact ih.snoc r
theorem w_revF (h : Wst M F0 H0 ss cs σ F H) (r : LV R F H v l) (q : ∀ v F' H', Same F F' → Wst M F0 H0 ss cs σ F' H' → (rL R).r F' v l.reverse → Q v H') : NewV K v H Q := by
  obtain ⟨p, vs, rfl, hp, hv⟩ := r
  exact ⟨p, vs, rfl, sq_l hp, w_newF h hv.rev q⟩
theorem w_revC (h : Wst M F0 H0 ss cs σ F H) (r : LV R F H v l) (q : ∀ p H', H0 p = none → Wst M F0 H0 ss ((p, cL R l.reverse) :: cs) σ F H' → Q (.ref p) H') : NewV K v H Q := by
  obtain ⟨p, vs, rfl, hp, hv⟩ := r
  exact ⟨p, vs, rfl, sq_l hp, w_newC h hv.rev q⟩
end
section
variable {H : Hp} {Q : VK} {a b : Nat}
theorem w_addN (q : Q (.int ((a + b : Nat) : Int)) H) : rI0 (fun i j => .int (i + j)) (.int (a : Int)) (.int (b : Int)) H Q := x_I0 (by rw [← Int.natCast_add]; exact q)
theorem w_subN (z : b ≤ a) (q : Q (.int ((a - b : Nat) : Int)) H) : rI0 (fun i j => .int (i - j)) (.int (a : Int)) (.int (b : Int)) H Q := x_I0 (by rw [← Int.natCast_sub z]; exact q)
theorem w_mulN (z : a < 2 ^ 64 ∨ b < 2 ^ 64) (q : Q (.int ((a * b : Nat) : Int)) H) : rI CMul (fun i j => .int (i * j)) (.int (a : Int)) (.int (b : Int)) H Q := by
  rcases z with z | z
  · exact x_mull (by omega) (by omega) (by rw [← Int.natCast_mul]; exact q)
  · exact x_mulr (by omega) (by omega) (by rw [← Int.natCast_mul]; exact q)
theorem w_modN (z : 0 < b) (q : Q (.int ((a % b : Nat) : Int)) H) : rI (fun _ j => 0 < j) (fun i j => .int (i % j)) (.int (a : Int)) (.int (b : Int)) H Q := x_mod (by omega) (by rw [← Int.natCast_emod]; exact q)
theorem w_divN (z : 0 < b ∧ b < 1073741824) (q : Q (.int ((a / b : Nat) : Int)) H) : rI CDiv (fun i j => .int (i / j)) (.int (a : Int)) (.int (b : Int)) H Q := x_div (by omega) (by omega) (by rw [← Int.natCast_ediv]; exact q)
theorem w_powN (z : b ≤ 1000000 ∧ a < 2 ^ 64) (q : Q (.int ((a ^ b : Nat) : Int)) H) : rI CPow (fun i j => .int (i ^ j.toNat)) (.int (a : Int)) (.int (b : Int)) H Q := x_pow (by omega) (by omega) (by omega) (by rw [Int.toNat_natCast, ← Int.natCast_pow]; exact q)
theorem dec_cast {p q : Prop} {dp : Decidable p} {dq : Decidable q} (h : p ↔ q) : decide p = decide q := by rw [Bool.eq_iff_iff, decide_eq_true_eq, decide_eq_true_eq]; exact h
theorem w_ltN (q : Q (.bl (decide (a < b))) H) : rI0 (fun i j => .bl (decide (i < j))) (.int (a : Int)) (.int (b : Int)) H Q := x_I0 (by rw [dec_cast (p := (a : Int) < (b : Int)) (q := a < b) (by omega)]; exact q)
theorem w_leN (q : Q (.bl (decide (a ≤ b))) H) : rI0 (fun i j => .bl (decide (i ≤ j))) (.int (a : Int)) (.int (b : Int)) H Q := x_I0 (by rw [dec_cast (p := (a : Int) ≤ (b : Int)) (q := a ≤ b) (by omega)]; exact q)
theorem w_gtN (q : Q (.bl (decide (b < a))) H) : rI0 (fun i j => .bl (decide (j < i))) (.int (a : Int)) (.int (b : Int)) H Q := x_I0 (by rw [dec_cast (p := (b : Int) < (a : Int)) (q := b < a) (by omega)]; exact q)
theorem w_geN (q : Q (.bl (decide (b ≤ a))) H) : rI0 (fun i j => .bl (decide (j ≤ i))) (.int (a : Int)) (.int (b : Int)) H Q := x_I0 (by rw [dec_cast (p := (b : Int) ≤ (a : Int)) (q := b ≤ a) (by omega)]; exact q)
theorem w_eqN (q : Q (.bl (decide (a = b))) H) : rEq (.int (a : Int)) (.int (b : Int)) H Q := x_eqI (by rw [dec_cast (p := (a : Int) = (b : Int)) (q := a = b) (by omega)]; exact q)
theorem w_neN (q : Q (.bl (!decide (a = b))) H) : rNe (.int (a : Int)) (.int (b : Int)) H Q := x_neI (by rw [dec_cast (p := (a : Int) = (b : Int)) (q := a = b) (by omega)]; exact q)
theorem w_max2N (q : Q (.int ((max a b : Nat) : Int)) H) : rMax2 [.int (a : Int), .int (b : Int)] H Q := x_max2 (by
  have e : (if (b : Int) > (a : Int) then (b : Int) else (a : Int)) = ((max a b : Nat) : Int) := by split <;> omega
  rw [e]; exact q)
theorem w_min2N (q : Q (.int ((min a b : Nat) : Int)) H) : rMin2 [.int (a : Int), .int (b : Int)] H Q := x_min2 (by
  have e : (if (b : Int) < (a : Int) then (b : Int) else (a : Int)) = ((min a b : Nat) : Int) := by split <;> omega
  rw [e]; exact q)
end
/-! ### mirrors: loops -/
theorem wipe_set {σ : St} {i : Nat} {o : Option V} : ∀ {vs : List Nat}, i ∈ vs → L2.wipe (σ.set i o) vs = L2.wipe σ vs
  | [], h => by cases h
  | v :: vs, h => by
    unfold L2.wipe
    by_cases e : v = i
    · subst e
      by_cases m : v ∈ vs
      · rw [wipe_set m]
      · have : ∀ {vs : List Nat}, v ∉ vs → L2.wipe (σ.set v o) vs = (L2.wipe σ vs).set v o := fun {vs} => by
          induction vs with
          | nil => intro _; rfl
          | cons u us ih =>
            intro hn
            have h1 : u ≠ v := fun z => hn (by rw [z]; exact List.mem_cons_self)
            have h2 : v ∉ us := fun z => hn (List.mem_cons_of_mem _ z)
            show (L2.wipe (σ.set v o) us).set u none = ((L2.wipe σ us).set u none).set v o
            rw [ih h2, List.set_comm _ _ h1.symm]
        rw [this m, List.set_set]
    · rcases List.mem_cons.mp h with z | z
      · exact absurd z.symm e
      · rw [wipe_set z]
theorem wipe_none {σ : St} {v : Nat} : ∀ {vs : List Nat}, v ∈ vs → (L2.wipe σ vs).set v none = L2.wipe σ vs
  | [], h => by cases h
  | u :: us, h => by
    unfold L2.wipe
    by_cases e : u = v
    · subst e
      rw [List.set_set]
    · rcases List.mem_cons.mp h with z | z
      · exact absurd z.symm e
      · rw [List.set_comm _ _ e, wipe_none z]
theorem wipe_wipe {σ : St} {ws : List Nat} : ∀ {vs : List Nat}, (∀ v ∈ vs, v ∈ ws) → L2.wipe (L2.wipe σ ws) vs = L2.wipe σ ws
  | [], _ => rfl
  | v :: vs, h => by
    show (L2.wipe (L2.wipe σ ws) vs).set v none = _
    rw [wipe_wipe fun x hx => h x (List.mem_cons_of_mem _ hx), wipe_none (h v List.mem_cons_self)]
section
variable {M : Mx} {F0 H0 F H : Hp} {α β S T : Type} {R : Rep α} {B : Rep β} {K : PySem.W.Frag} {σ : St} {xs : List α} {v : V} {g : TG} {tb : TS} {tt : TT} {te : TE} {nx : St → Hp → Prop} {rt : VK} {bk ct : St → Hp → Prop} {Q : VK}
/-- at the end of a turn -/
def NX (M : Mx) (F0 H0 : Hp) (n : Nat) (ss : S → (Nat → Addr) → List Sa) (cs : S → (Nat → Addr) → List (Addr × Ca)) (F : Hp) (s : S) : St → Hp → Prop := fun σ H => ∃ ad F', (∀ i, i < n → H0 (ad i) = none) ∧ Same F F' ∧ Wst M F0 H0 (ss s ad) (cs s ad) σ F' H
/-- a walk along the items xs -/
def JOk (J : It) (R : Rep α) (xs : List α) (F H : Hp) : Prop := ∀ i, (i < xs.length → J.go i H ∧ ∀ x H'', J.yld i H x H'' → ∃ F'', (∀ T, Ext ⟨[], T⟩ F H F'' H'') ∧ ∀ a, xs[i]? = some a → R.r F'' x a) ∧ (xs.length ≤ i → J.stop i H)
theorem jok_l {a : Addr} (s : Same F H) (nt : NoT F) (lv : LV R F H (.ref a) xs) : JOk (Itl K a) R xs F H := by
  obtain ⟨p, vs, e, hp, hv⟩ := lv
  cases e
  have zl := hv.len
  intro i
  refine ⟨fun hi => ?_, fun hi => ⟨vs, sq_l hp, by omega⟩⟩
  have ev : vs[i]? = some (vs[i]'(by omega)) := List.getElem?_eq_getElem (by omega)
  refine ⟨⟨vs, _, sq_l hp, ev⟩, fun x H'' y => ?_⟩
  obtain ⟨rfl, f⟩ := y
  refine ⟨F, fun T => Ext.refl s nt, fun a ha => ?_⟩
  obtain ⟨b, hb, r⟩ := hv.get (f vs (sq_l hp))
  rw [hb] at ha
  cases ha
  exact r
theorem jok_r0 {n : Nat} (s : Same F H) (nt : NoT F) : JOk (Itr 0 n) rN (List.range n) F H := by
  intro i
  refine ⟨fun hi => ?_, fun hi => by rw [List.length_range] at hi; exact hi⟩
  rw [List.length_range] at hi
  refine ⟨hi, fun x H'' y => ?_⟩
  obtain ⟨rfl, rfl⟩ := y
  refine ⟨F, fun T => Ext.refl s nt, fun a ha => ?_⟩
  rw [List.getElem?_range hi] at ha
  cases ha
  show V.int (0 + (i : Int)) = _
  rw [Int.zero_add]
theorem jok_r {lo n : Nat} (s : Same F H) (nt : NoT F) : JOk (Itr (lo : Int) n) rN ((List.range n).map fun k => lo + k) F H := by
  intro i
  rw [List.length_map, List.length_range]
  refine ⟨fun hi => ⟨hi, fun x H'' y => ?_⟩, fun hi => hi⟩
  obtain ⟨rfl, rfl⟩ := y
  refine ⟨F, fun T => Ext.refl s nt, fun a ha => ?_⟩
  rw [List.getElem?_map, List.getElem?_range hi] at ha
  cases ha
  show V.int ((lo : Int) + (i : Int)) = V.int ((lo + i : Nat) : Int)
  rw [Int.natCast_add]
theorem jok_z {a b : Addr} {ys : List β} (s : Same F H) (nt : NoT F) (l1 : LV R F H (.ref a) xs) (l2 : LV B F H (.ref b) ys) : JOk (Itz K a b) (rT2 R B) (xs.zip ys) F H := by
  obtain ⟨p, vs, e, hp, hv⟩ := l1
  cases e
  obtain ⟨p, ws, e, hw, hx⟩ := l2
  cases e
  have z1 := hv.len
  have z2 := hx.len
  intro i
  rw [List.length_zip]
  refine ⟨fun hi => ?_, fun hi => ⟨vs, ws, sq_l hp, sq_l hw, by omega⟩⟩
  have e1 : vs[i]? = some (vs[i]'(by omega)) := List.getElem?_eq_getElem (by omega)
  have e2 : ws[i]? = some (ws[i]'(by omega)) := List.getElem?_eq_getElem (by omega)
  refine ⟨⟨vs, ws, _, _, sq_l hp, sq_l hw, e1, e2⟩, fun x H'' y => ?_⟩
  obtain ⟨t, x', y', rfl, ht, rfl, f1, f2⟩ := y
  have x0 : ∀ T, Ext ⟨[], T⟩ F H (upd F t (.tup [x', y'])) (upd H t (.tup [x', y'])) := fun T => ext_new (o := .tup [x', y']) s nt ht
  have x1 := x0 []
  refine ⟨_, x0, fun a ha => ?_⟩
  obtain ⟨c, hc, r1⟩ := hv.get (f1 vs (sq_l hp))
  obtain ⟨d, hd, r2⟩ := hx.get (f2 ws (sq_l hw))
  rw [List.getElem?_zip_eq_some] at ha
  rw [hc, hd] at ha
  obtain ⟨q1, q2⟩ := ha
  have q1 := Option.some.inj q1
  have q2 := Option.some.inj q2
  refine ⟨t, x', y', rfl, upd_same, R.mono x1.ff ?_, B.mono x1.ff ?_⟩
  · rw [← q1]; exact r1
  · rw [← q2]; exact r2
theorem w_for {J : It} {body : S → α → Option S} {s0 e : S} (na : Nat) (ss : S → (Nat → Addr) → List Sa) (cs : S → (Nat → Addr) → List (Addr × Ca)) (hf : foldO body xs s0 = some e) (ad0 : Nat → Addr) (had : ∀ i, i < na → H0 (ad0 i) = none) (hE : Wst M F0 H0 (ss s0 ad0) (cs s0 ad0) σ F H)
    (hJ : ∀ s ad σ' F' H', Same F F' → Wst M F0 H0 (ss s ad) (cs s ad) σ' F' H' → JOk J R xs F' H')
    (hs : ∀ s ad x v s' σ' F' H', (∀ i, i < na → H0 (ad i) = none) → Same F F' → R.r F' v x → Wst M F0 H0 (ss s ad) (cs s ad) σ' F' H' → body s x = some s' → g v σ' H' fun σ2 H2 => tb ⟨NX M F0 H0 na ss cs F s', rt, nx, NX M F0 H0 na ss cs F s'⟩ σ2 H2)
    (hd : ∀ ad σ' F' H', (∀ i, i < na → H0 (ad i) = none) → Same F F' → Wst M F0 H0 (ss e ad) (cs e ad) σ' F' H' → nx σ' H') : FW J g tb ⟨nx, rt, bk, ct⟩ σ H := by
  refine ⟨fun i m σ H => m = xs.length - i ∧ i ≤ xs.length ∧ ∃ s ad F', (∀ i, i < na → H0 (ad i) = none) ∧ Same F F' ∧ Wst M F0 H0 (ss s ad) (cs s ad) σ F' H ∧ foldO body (xs.drop i) s = some e, ⟨_, rfl, Nat.zero_le _, s0, ad0, F, had, Same.refl F, hE, hf⟩, ?_⟩
  rintro i m σ1 H1 ⟨rfl, hi, s, ad, F1, ha, sm, w, q⟩
  obtain ⟨j1, j2⟩ := hJ s ad σ1 F1 H1 sm w i
  by_cases hlt : i < xs.length
  · obtain ⟨go, yl⟩ := j1 hlt
    have ex : xs[i]? = some (xs[i]'hlt) := List.getElem?_eq_getElem hlt
    rw [List.drop_eq_getElem_cons hlt] at q
    obtain ⟨s', hb, q⟩ := bnd q
    refine .inr ⟨go, NX M F0 H0 na ss cs F s', fun σ' H' ⟨ad2, F2, ha2, sm2, w2⟩ => ⟨_, by omega, rfl, hlt, s', ad2, F2, ha2, sm2, w2, q⟩, fun x H'' y => ?_⟩
    obtain ⟨F2, x2, r2⟩ := yl x H'' y
    exact hs s ad _ x s' σ1 F2 H'' ha (sm.trans (x2 M.tl).ff) (r2 _ ex) (w.grow (x2 M.tl)) hb
  · have e1 : i = xs.length := by omega
    rw [e1, List.drop_length] at q
    have q2 : s = e := Option.some.inj q
    rw [q2] at w
    exact .inl ⟨j2 (by omega), hd ad σ1 F1 H1 ha sm w⟩
/-- with break, return -/
theorem w_forS {J : It} {body : S → α → Option (Stp S T)} {s0 : S} {e : Stp S T} (na : Nat) (ss : S → (Nat → Addr) → List Sa) (cs : S → (Nat → Addr) → List (Addr × Ca)) (hf : loopO body xs s0 = some e) (ad0 : Nat → Addr) (had : ∀ i, i < na → H0 (ad0 i) = none) (hE : Wst M F0 H0 (ss s0 ad0) (cs s0 ad0) σ F H)
    (hJ : ∀ s ad σ' F' H', Same F F' → Wst M F0 H0 (ss s ad) (cs s ad) σ' F' H' → JOk J R xs F' H')
    (hs : ∀ s ad x v o σ' F' H', (∀ i, i < na → H0 (ad i) = none) → Same F F' → R.r F' v x → Wst M F0 H0 (ss s ad) (cs s ad) σ' F' H' → body s x = some o → (∀ t, o = .rt t → e = .rt t) → (∀ t, o = .bk t → e = .bk t) →
      g v σ' H' fun σ2 H2 => tb ⟨fun σ3 H3 => ∃ s', o = .nx s' ∧ NX M F0 H0 na ss cs F s' σ3 H3, rt, nx, fun σ3 H3 => ∃ s', o = .nx s' ∧ NX M F0 H0 na ss cs F s' σ3 H3⟩ σ2 H2)
    (hd : ∀ s ad σ' F' H', e = .nx s → (∀ i, i < na → H0 (ad i) = none) → Same F F' → Wst M F0 H0 (ss s ad) (cs s ad) σ' F' H' → nx σ' H') : FW J g tb ⟨nx, rt, bk, ct⟩ σ H := by
  refine ⟨fun i m σ H => m = xs.length - i ∧ i ≤ xs.length ∧ ∃ s ad F', (∀ i, i < na → H0 (ad i) = none) ∧ Same F F' ∧ Wst M F0 H0 (ss s ad) (cs s ad) σ F' H ∧ loopO body (xs.drop i) s = some e, ⟨_, rfl, Nat.zero_le _, s0, ad0, F, had, Same.refl F, hE, hf⟩, ?_⟩
  rintro i m σ1 H1 ⟨rfl, hi, s, ad, F1, ha, sm, w, q⟩
  obtain ⟨j1, j2⟩ := hJ s ad σ1 F1 H1 sm w i
  by_cases hlt : i < xs.length
  · obtain ⟨go, yl⟩ := j1 hlt
    have ex : xs[i]? = some (xs[i]'hlt) := List.getElem?_eq_getElem hlt
    rw [List.drop_eq_getElem_cons hlt] at q
    obtain ⟨o, hb, q⟩ := bnd q
    refine .inr ⟨go, fun σ3 H3 => ∃ s', o = .nx s' ∧ NX M F0 H0 na ss cs F s' σ3 H3, fun σ' H' ⟨s', eo, ad2, F2, ha2, sm2, w2⟩ => ⟨_, by omega, rfl, hlt, s', ad2, F2, ha2, sm2, w2, by subst eo; exact q⟩, fun x H'' y => ?_⟩
    obtain ⟨F2, x2, r2⟩ := yl x H'' y
    exact hs s ad _ x o σ1 F2 H'' ha (sm.trans (x2 M.tl).ff) (r2 _ ex) (w.grow (x2 M.tl)) hb (fun t et => by subst et; exact (Option.some.inj q).symm) (fun t et => by subst et; exact (Option.some.inj q).symm)
  · have e1 : i = xs.length := by omega
    rw [e1, List.drop_length] at q
    exact .inl ⟨j2 (by omega), hd s ad σ1 F1 H1 (Option.some.inj q).symm ha sm w⟩
theorem w_il {Rr : It → Hp → Prop} (lv : LV R F H v xs) (q : ∀ a, v = .ref a → Rr (Itl K a) H) : Il K v H Rr := by
  obtain ⟨a, vs, rfl, hp, _⟩ := lv
  exact x_ill hp (q a rfl)
theorem w_zz {w : V} {ys : List β} {Rr : It → Hp → Prop} (l1 : LV R F H v xs) (l2 : LV B F H w ys) (q : ∀ a b, v = .ref a → w = .ref b → Rr (Itz K a b) H) : Zz K [v, w] H Rr := by
  obtain ⟨a, vs, rfl, hp, _⟩ := l1
  obtain ⟨b, ws, rfl, hp2, _⟩ := l2
  exact x_zz hp hp2 (q a b rfl rfl)
theorem w_r1 {n : Nat} {Rr : It → Hp → Prop} (z : n < 2 ^ 62) (q : Rr (Itr 0 n) H) : Rg1 [.int (n : Int)] H Rr := x_r1 (by omega) (by omega) (by rw [Int.toNat_natCast]; exact q)
theorem w_r1I {n : Int} {Rr : It → Hp → Prop} (z : -(2 ^ 62) ≤ n ∧ n < 2 ^ 62) (q : Rr (Itr 0 n.toNat) H) : Rg1 [.int n] H Rr := x_r1 z.1 z.2 q
theorem w_r2 {m n : Nat} {Rr : It → Hp → Prop} (z : m < 2 ^ 62 ∧ n < 2 ^ 62) (q : Rr (Itr (m : Int) (n - m)) H) : Rg2 [.int (m : Int), .int (n : Int)] H Rr := x_r2 (by omega) (by omega) (by omega) (by omega) (by rw [show ((n : Int) - (m : Int)).toNat = n - m by omega]; exact q)
/-- a comprehension; what its turns change -/
def compS (f : S → α → Option (Option β × S)) : List α → S → Option (List β × S)
  | [], s => some ([], s)
  | x :: xs, s => (f s x).bind fun p => (compS f xs p.2).bind fun q => some (p.1.toList ++ q.1, q.2)
def CN (M : Mx) (F0 H0 : Hp) (ss : List Sa) (cs : S → List (Addr × Ca)) (F : Hp) (σw : St) (D : Addr) (B : Rep β) (acc : List β) (s : S) : Hp → Prop := fun H => ∃ F', Same F F' ∧ Wst M F0 H0 ss ((D, cL B acc) :: cs s) σw F' H
theorem w_lcS {J : It} {D : Addr} {vs : List Nat} {ss : List Sa} {f : S → α → Option (Option β × S)} {s0 : S} {lr : List β × S} (cs : S → List (Addr × Ca)) (hf : compS f xs s0 = some lr) (z : lr.1.length ≤ 100000) (hE : Wst M F0 H0 ss (cs s0) σ F H) (hD : H D = none)
    (hJ : ∀ s acc F' H', Same F F' → Wst M F0 H0 (wipeS ss vs) ((D, cL B acc) :: cs s) (L2.wipe σ vs) F' H' → JOk J R xs F' H')
    (hs : ∀ s x v o acc F' H', Same F F' → R.r F' v x → Wst M F0 H0 (wipeS ss vs) ((D, cL B acc) :: cs s) (L2.wipe σ vs) F' H' → f s x = some o → acc.length + o.1.toList.length ≤ 100000 → L2.wipe (L2.wipe σ vs) vs = L2.wipe σ vs →
      g v (L2.wipe σ vs) H' fun σ2 H2 => L2.wipe σ2 vs = L2.wipe σ vs ∧ tt σ2 H2 fun b H3 => if b = true then te σ2 H3 fun y H4 => ∃ ac, H4 D = some (.lst ac) ∧ ac.length < sizeLine ∧ CN M F0 H0 (wipeS ss vs) cs F (L2.wipe σ vs) D B (acc ++ o.1.toList) o.2 (upd H4 D (.lst (ac ++ [y]))) else CN M F0 H0 (wipeS ss vs) cs F (L2.wipe σ vs) D B (acc ++ o.1.toList) o.2 H3)
    (hd : ∀ F' H', H0 D = none → Same F F' → Wst M F0 H0 ss ((D, cL B lr.1) :: cs lr.2) σ F' H' → Q (.ref D) H') : LW J D g tt te vs σ H Q := by
  have hD0 := hE.own hD
  refine ⟨fun i m H => m = xs.length - i ∧ i ≤ xs.length ∧ ∃ s acc F' l', Same F F' ∧ Wst M F0 H0 (wipeS ss vs) ((D, cL B acc) :: cs s) (L2.wipe σ vs) F' H ∧ compS f (xs.drop i) s = some (l', lr.2) ∧ acc ++ l' = lr.1,
    ⟨_, rfl, Nat.zero_le _, s0, [], F, lr.1, Same.refl F, (hE.wipe vs).newC hD ⟨[], rfl, .nil⟩, hf, rfl⟩, ?_⟩
  rintro i m H1 ⟨rfl, hi, s, acc, F1, l', sm, w, q, el⟩
  obtain ⟨j1, j2⟩ := hJ s acc F1 H1 sm w i
  by_cases hlt : i < xs.length
  · obtain ⟨go, yl⟩ := j1 hlt
    have ex : xs[i]? = some (xs[i]'hlt) := List.getElem?_eq_getElem hlt
    rw [List.drop_eq_getElem_cons hlt] at q
    obtain ⟨o, hb, q⟩ := bnd q
    obtain ⟨p, hp, q⟩ := bnd q
    have q := Option.some.inj q
    have e1 : o.1.toList ++ p.1 = l' := (Prod.mk.inj q).1
    have e2 : p.2 = lr.2 := (Prod.mk.inj q).2
    refine .inr ⟨go, CN M F0 H0 (wipeS ss vs) cs F (L2.wipe σ vs) D B (acc ++ o.1.toList) o.2, fun H' ⟨F2, sm2, w2⟩ => ⟨_, by omega, rfl, hlt, o.2, acc ++ o.1.toList, F2, p.1, sm2, w2, ?_, ?_⟩, fun x H'' y => ?_⟩
    · rw [hp, ← e2]
    · rw [List.append_assoc, e1]; exact el
    · obtain ⟨F2, x2, r2⟩ := yl x H'' y
      refine hs s _ x o acc F2 H'' (sm.trans (x2 M.tl).ff) (r2 _ ex) (w.grow (x2 M.tl)) hb ?_ (wipe_wipe fun _ h => h)
      rw [← el, ← e1, List.length_append, List.length_append] at z
      omega
  · have e1 : i = xs.length := by omega
    rw [e1, List.drop_length] at q
    have q := Option.some.inj q
    have e2 : ([] : List β) = l' := (Prod.mk.inj q).1
    have e3 : s = lr.2 := (Prod.mk.inj q).2
    rw [← e2, List.append_nil] at el
    rw [el, e3] at w
    exact .inl ⟨j2 (by omega), hd F1 H1 hD0 sm ⟨w.ex, hE.sl.imp fun s _ => s.mono sm, w.cl, w.nd⟩⟩
theorem compS_pure {f : α → Option (Option β)} {xs : List α} {l : List β} (h : compO f xs = some l) : compS (fun (_ : Unit) x => (f x).bind fun o => some (o, ())) xs () = some (l, ()) := by
  induction xs generalizing l with
  | nil => cases h; rfl
  | cons x xs ih =>
    obtain ⟨o, ho, h⟩ := bnd (m := f x) h
    obtain ⟨l', hl, h⟩ := bnd h
    cases h
    show ((f x).bind fun o => some (o, ())).bind _ = _
    rw [ho]
    show (compS _ xs ()).bind _ = _
    rw [ih hl]
    rfl
theorem w_lc {J : It} {D : Addr} {vs : List Nat} {ss : List Sa} {cs : List (Addr × Ca)} {f : α → Option (Option β)} {lr : List β} (hf : compO f xs = some lr) (z : lr.length ≤ 100000) (hE : Wst M F0 H0 ss cs σ F H) (hD : H D = none)
    (hJ : ∀ acc F' H', Same F F' → Wst M F0 H0 (wipeS ss vs) ((D, cL B acc) :: cs) (L2.wipe σ vs) F' H' → JOk J R xs F' H')
    (hs : ∀ x v o acc F' H', Same F F' → R.r F' v x → Wst M F0 H0 (wipeS ss vs) ((D, cL B acc) :: cs) (L2.wipe σ vs) F' H' → f x = some o → acc.length + o.toList.length ≤ 100000 → L2.wipe (L2.wipe σ vs) vs = L2.wipe σ vs →
      g v (L2.wipe σ vs) H' fun σ2 H2 => L2.wipe σ2 vs = L2.wipe σ vs ∧ tt σ2 H2 fun b H3 => if b = true then te σ2 H3 fun y H4 => ∃ ac, H4 D = some (.lst ac) ∧ ac.length < sizeLine ∧ CN M F0 H0 (wipeS ss vs) (fun (_ : Unit) => cs) F (L2.wipe σ vs) D B (acc ++ o.toList) () (upd H4 D (.lst (ac ++ [y]))) else CN M F0 H0 (wipeS ss vs) (fun (_ : Unit) => cs) F (L2.wipe σ vs) D B (acc ++ o.toList) () H3)
    (hd : ∀ F' H', H0 D = none → Same F F' → Wst M F0 H0 ss ((D, cL B lr) :: cs) σ F' H' → Q (.ref D) H') : LW J D g tt te vs σ H Q := by
  refine w_lcS (fun _ => cs) (compS_pure hf) z hE hD (fun _ => hJ) (fun s x v o acc F' H' sm r w ho zl ww => ?_) hd
  obtain ⟨o', h1, h2⟩ := bnd ho
  cases h2
  exact hs x v o' acc F' H' sm r w h1 zl ww
/-- an element is put at the end -/
theorem w_acc {D : Addr} {ss ss2 : List Sa} {cs : S → List (Addr × Ca)} {F' : Hp} {σ2 σw : St} {vs : List Nat} {acc : List β} {y : V} {b : β} {s : S} (h : Wst M F0 H0 ss2 ((D, cL B acc) :: cs s) σ2 F' H) (sm : Same F F') (r : B.r F' y b) (z : acc.length + 1 ≤ 100000) (eσ : L2.wipe σ2 vs = σw) (eS : wipeS ss2 vs = ss) :
    ∃ ac, H D = some (.lst ac) ∧ ac.length < sizeLine ∧ CN M F0 H0 ss cs F σw D B (acc ++ [b]) s (upd H D (.lst (ac ++ [y]))) := by
  obtain ⟨o, h1, ws, rfl, hv⟩ := h.cell (k := 0) rfl
  refine ⟨ws, h1, sz_lt (by rw [hv.len]; omega), F', sm, ?_⟩
  have w := (h.mut (k := 0) (A' := cL B (acc ++ [b])) rfl ⟨_, rfl, hv.snoc r⟩).wipe vs
  rw [eσ, eS] at w
  exact w
theorem w_skip {D : Addr} {ss ss2 : List Sa} {cs : S → List (Addr × Ca)} {F' : Hp} {σ2 σw : St} {vs : List Nat} {acc : List β} {s : S} (h : Wst M F0 H0 ss2 ((D, cL B acc) :: cs s) σ2 F' H) (sm : Same F F') (eσ : L2.wipe σ2 vs = σw) (eS : wipeS ss2 vs = ss) : CN M F0 H0 ss cs F σw D B (acc ++ []) s H := by
  have w := h.wipe vs
  rw [eσ, eS] at w
  rw [List.append_nil]
  exact ⟨F', sm, w⟩
theorem w_nameW {ss ss' : List Sa} {cs : List (Addr × Ca)} {i : Nat} {a : α} {Qs : St → Hp → Prop} {vs : List Nat} {w : St} (h : Wst M F0 H0 ss cs σ F H) (e : ss.set i (R.at a) = ss') (r : R.r F v a) (m : i ∈ vs) (e0 : L2.wipe σ vs = w) (q : ∀ σ', L2.wipe σ' vs = w → Wst M F0 H0 ss' cs σ' F H → Qs σ' H) : gName i v σ H Qs := by
  subst e
  exact x_name rfl (q _ (by rw [wipe_set m]; exact e0) (h.setS (s := R.at a) ⟨v, rfl, r⟩ i))
theorem w_while {tc : TT} {c : S → Option Bool} {body : S → Option S} {n : Nat} {s0 e : S} (na : Nat) (ss : S → (Nat → Addr) → List Sa) (cs : S → (Nat → Addr) → List (Addr × Ca)) (hf : whlO c body n s0 = some e) (ad0 : Nat → Addr) (had : ∀ i, i < na → H0 (ad0 i) = none) (hE : Wst M F0 H0 (ss s0 ad0) (cs s0 ad0) σ F H)
    (hc : ∀ s ad b σ' F' H', Same F F' → Wst M F0 H0 (ss s ad) (cs s ad) σ' F' H' → c s = some b → ∀ Qb : Bool → Hp → Prop, (∀ F2 H2, Same F' F2 → Wst M F0 H0 (ss s ad) (cs s ad) σ' F2 H2 → Qb b H2) → tc σ' H' Qb)
    (hb : ∀ s ad s' σ' F' H', (∀ i, i < na → H0 (ad i) = none) → Same F F' → Wst M F0 H0 (ss s ad) (cs s ad) σ' F' H' → c s = some true → body s = some s' → tb ⟨NX M F0 H0 na ss cs F s', rt, nx, NX M F0 H0 na ss cs F s'⟩ σ' H')
    (hd : ∀ ad σ' F' H', (∀ i, i < na → H0 (ad i) = none) → Same F F' → Wst M F0 H0 (ss e ad) (cs e ad) σ' F' H' → nx σ' H') : tWhile tc tb ⟨nx, rt, bk, ct⟩ σ H := by
  refine x_while (fun m σ H => ∃ s ad F', (∀ i, i < na → H0 (ad i) = none) ∧ Same F F' ∧ Wst M F0 H0 (ss s ad) (cs s ad) σ F' H ∧ whlO c body m s = some e) n ⟨s0, ad0, F, had, Same.refl F, hE, hf⟩ ?_
  rintro m σ1 H1 ⟨s, ad, F1, ha, sm, w, q⟩
  cases m with
  | zero => cases q
  | succ m =>
    obtain ⟨b, hb1, q⟩ := bnd q
    refine hc s ad b σ1 F1 H1 sm w hb1 _ fun F2 H2 sm2 w2 => ?_
    cases b with
    | true =>
      have q := ite_t q rfl
      obtain ⟨s', hs', q⟩ := bnd q
      rw [if_pos rfl]
      exact ⟨NX M F0 H0 na ss cs F s', fun σ' H' ⟨ad3, F3, ha3, sm3, w3⟩ => ⟨m, Nat.lt_succ_self m, s', ad3, F3, ha3, sm3, w3, q⟩, hb s ad s' σ1 F2 H2 ha (sm.trans sm2) w2 hb1 hs'⟩
    | false =>
      have q := ite_f q rfl
      have q2 : s = e := Option.some.inj q
      rw [q2] at w2
      rw [if_neg (by decide)]
      exact hd ad σ1 F2 H2 ha (sm.trans sm2) w2
theorem w_whileS {tc : TT} {c : S → Option Bool} {body : S → Option (Stp S T)} {n : Nat} {s0 : S} {e : Stp S T} (na : Nat) (ss : S → (Nat → Addr) → List Sa) (cs : S → (Nat → Addr) → List (Addr × Ca)) (hf : whileO c body n s0 = some e) (ad0 : Nat → Addr) (had : ∀ i, i < na → H0 (ad0 i) = none) (hE : Wst M F0 H0 (ss s0 ad0) (cs s0 ad0) σ F H)
    (hc : ∀ s ad b σ' F' H', Same F F' → Wst M F0 H0 (ss s ad) (cs s ad) σ' F' H' → c s = some b → ∀ Qb : Bool → Hp → Prop, (∀ F2 H2, Same F' F2 → Wst M F0 H0 (ss s ad) (cs s ad) σ' F2 H2 → Qb b H2) → tc σ' H' Qb)
    (hb : ∀ s ad o σ' F' H', (∀ i, i < na → H0 (ad i) = none) → Same F F' → Wst M F0 H0 (ss s ad) (cs s ad) σ' F' H' → c s = some true → body s = some o → (∀ t, o = .rt t → e = .rt t) → (∀ t, o = .bk t → e = .bk t) →
      tb ⟨fun σ3 H3 => ∃ s', o = .nx s' ∧ NX M F0 H0 na ss cs F s' σ3 H3, rt, nx, fun σ3 H3 => ∃ s', o = .nx s' ∧ NX M F0 H0 na ss cs F s' σ3 H3⟩ σ' H')
    (hd : ∀ s ad σ' F' H', e = .nx s → (∀ i, i < na → H0 (ad i) = none) → Same F F' → Wst M F0 H0 (ss s ad) (cs s ad) σ' F' H' → nx σ' H') : tWhile tc tb ⟨nx, rt, bk, ct⟩ σ H := by
  refine x_while (fun m σ H => ∃ s ad F', (∀ i, i < na → H0 (ad i) = none) ∧ Same F F' ∧ Wst M F0 H0 (ss s ad) (cs s ad) σ F' H ∧ whileO c body m s = some e) n ⟨s0, ad0, F, had, Same.refl F, hE, hf⟩ ?_
  rintro m σ1 H1 ⟨s, ad, F1, ha, sm, w, q⟩
  cases m with
  | zero => cases q
  | succ m =>
    obtain ⟨b, hb1, q⟩ := bnd q
    refine hc s ad b σ1 F1 H1 sm w hb1 _ fun F2 H2 sm2 w2 => ?_
    cases b with
    | true =>
      have q := ite_t q rfl
      obtain ⟨o, ho, q⟩ := bnd q
      rw [if_pos rfl]
      refine ⟨fun σ3 H3 => ∃ s', o = .nx s' ∧ NX M F0 H0 na ss cs F s' σ3 H3, fun σ' H' ⟨s', eo, ad3, F3, ha3, sm3, w3⟩ => ⟨m, Nat.lt_succ_self m, s', ad3, F3, ha3, sm3, w3, by subst eo; exact q⟩,
        hb s ad o σ1 F2 H2 ha (sm.trans sm2) w2 hb1 ho (fun t et => by subst et; exact (Option.some.inj q).symm) (fun t et => by subst et; exact (Option.some.inj q).symm)⟩
    | false =>
      have q := ite_f q rfl
      rw [if_neg (by decide)]
      exact hd s ad σ1 F2 H2 (Option.some.inj q).symm ha (sm.trans sm2) w2
end
/-! ### mirrors: tests, data, more steps -/
section
variable {M : Mx} {F0 H0 F H F' H' : Hp} {ss ss' : List Sa} {cs cs' : List (Addr × Ca)} {σ : St} {c : Addr} {A A' : Ca} {k i : Nat} {α β γ : Type} {R : Rep α} {S : Rep β} {T : Rep γ} {a b : α} {l l' : List α} {Q : VK} {Qb : Bool → Hp → Prop} {K : PySem.W.Frag} {v x y z : V} {t u : TT} {ta tb : TE} {ca cb r : Bool} {mb : Option Bool} {n : Nat}
theorem w_andP (h : Wst M F0 H0 ss cs' σ F H) (h1 : ∀ Q' : Bool → Hp → Prop, (∀ F' H', Same F F' → Wst M F0 H0 ss cs σ F' H' → Q' ca H') → t σ H Q') (h2 : ∀ F' H', Same F F' → Wst M F0 H0 ss cs σ F' H' → ca = true → ∀ Q' : Bool → Hp → Prop, (∀ F2 H2, Same F' F2 → Wst M F0 H0 ss cs σ F2 H2 → Q' cb H2) → u σ H' Q')
    (q : ∀ F' H', Same F F' → Wst M F0 H0 ss cs σ F' H' → Qb (ca && cb) H') : tAnd t u σ H Qb := by
  refine x_and (h1 _ fun F' H' s w => ?_)
  cases ca with
  | true =>
    rw [if_pos rfl]
    exact h2 F' H' s w rfl _ fun F2 H2 s2 w2 => q F2 H2 (s.trans s2) w2
  | false =>
    rw [if_neg (by decide)]
    exact q F' H' s w
theorem w_orP (h : Wst M F0 H0 ss cs' σ F H) (h1 : ∀ Q' : Bool → Hp → Prop, (∀ F' H', Same F F' → Wst M F0 H0 ss cs σ F' H' → Q' ca H') → t σ H Q') (h2 : ∀ F' H', Same F F' → Wst M F0 H0 ss cs σ F' H' → ca = false → ∀ Q' : Bool → Hp → Prop, (∀ F2 H2, Same F' F2 → Wst M F0 H0 ss cs σ F2 H2 → Q' cb H2) → u σ H' Q')
    (q : ∀ F' H', Same F F' → Wst M F0 H0 ss cs σ F' H' → Qb (ca || cb) H') : tOr t u σ H Qb := by
  refine x_or (h1 _ fun F' H' s w => ?_)
  cases ca with
  | true =>
    rw [if_pos rfl]
    exact q F' H' s w
  | false =>
    rw [if_neg (by decide)]
    exact h2 F' H' s w rfl _ fun F2 H2 s2 w2 => q F2 H2 (s.trans s2) w2
theorem w_andO (h : Wst M F0 H0 ss cs' σ F H) (hm : (if ca = true then mb else some false) = some r) (h1 : ∀ Q' : Bool → Hp → Prop, (∀ F' H', Same F F' → Wst M F0 H0 ss cs σ F' H' → Q' ca H') → t σ H Q') (h2 : ∀ F' H', Same F F' → Wst M F0 H0 ss cs σ F' H' → ca = true → mb = some r → ∀ Q' : Bool → Hp → Prop, (∀ F2 H2, Same F' F2 → Wst M F0 H0 ss cs σ F2 H2 → Q' r H2) → u σ H' Q')
    (q : ∀ F' H', Same F F' → Wst M F0 H0 ss cs σ F' H' → Qb r H') : tAnd t u σ H Qb := by
  refine x_and (h1 _ fun F' H' s w => ?_)
  cases ca with
  | true =>
    rw [if_pos rfl] at hm ⊢
    exact h2 F' H' s w rfl hm _ fun F2 H2 s2 w2 => q F2 H2 (s.trans s2) w2
  | false =>
    rw [if_neg (by decide)] at hm ⊢
    cases hm
    exact q F' H' s w
theorem w_orO (h : Wst M F0 H0 ss cs' σ F H) (hm : (if ca = true then some true else mb) = some r) (h1 : ∀ Q' : Bool → Hp → Prop, (∀ F' H', Same F F' → Wst M F0 H0 ss cs σ F' H' → Q' ca H') → t σ H Q') (h2 : ∀ F' H', Same F F' → Wst M F0 H0 ss cs σ F' H' → ca = false → mb = some r → ∀ Q' : Bool → Hp → Prop, (∀ F2 H2, Same F' F2 → Wst M F0 H0 ss cs σ F2 H2 → Q' r H2) → u σ H' Q')
    (q : ∀ F' H', Same F F' → Wst M F0 H0 ss cs σ F' H' → Qb r H') : tOr t u σ H Qb := by
  refine x_or (h1 _ fun F' H' s w => ?_)
  cases ca with
  | true =>
    rw [if_pos rfl] at hm ⊢
    cases hm
    exact q F' H' s w
  | false =>
    rw [if_neg (by decide)] at hm ⊢
    exact h2 F' H' s w rfl hm _ fun F2 H2 s2 w2 => q F2 H2 (s.trans s2) w2
theorem w_andVP (h : Wst M F0 H0 ss cs' σ F H) (h1 : ∀ Q' : VK, (∀ F' H', Same F F' → Wst M F0 H0 ss cs σ F' H' → Q' (.bl ca) H') → ta σ H Q') (h2 : ∀ F' H', Same F F' → Wst M F0 H0 ss cs σ F' H' → ca = true → ∀ Q' : VK, (∀ F2 H2, Same F' F2 → Wst M F0 H0 ss cs σ F2 H2 → Q' (.bl cb) H2) → tb σ H' Q')
    (q : ∀ F' H', Same F F' → Wst M F0 H0 ss cs σ F' H' → Q (.bl (ca && cb)) H') : tAndV ta tb σ H Q := by
  refine x_andV (h1 _ fun F' H' s w => ⟨_, rfl, ?_⟩)
  cases ca with
  | true =>
    rw [if_pos rfl]
    exact h2 F' H' s w rfl _ fun F2 H2 s2 w2 => q F2 H2 (s.trans s2) w2
  | false =>
    rw [if_neg (by decide)]
    exact q F' H' s w
theorem w_orVP (h : Wst M F0 H0 ss cs' σ F H) (h1 : ∀ Q' : VK, (∀ F' H', Same F F' → Wst M F0 H0 ss cs σ F' H' → Q' (.bl ca) H') → ta σ H Q') (h2 : ∀ F' H', Same F F' → Wst M F0 H0 ss cs σ F' H' → ca = false → ∀ Q' : VK, (∀ F2 H2, Same F' F2 → Wst M F0 H0 ss cs σ F2 H2 → Q' (.bl cb) H2) → tb σ H' Q')
    (q : ∀ F' H', Same F F' → Wst M F0 H0 ss cs σ F' H' → Q (.bl (ca || cb)) H') : tOrV ta tb σ H Q := by
  refine x_orV (h1 _ fun F' H' s w => ⟨_, rfl, ?_⟩)
  cases ca with
  | true =>
    rw [if_pos rfl]
    exact q F' H' s w
  | false =>
    rw [if_neg (by decide)]
    exact h2 F' H' s w rfl _ fun F2 H2 s2 w2 => q F2 H2 (s.trans s2) w2
theorem w_andVO (h : Wst M F0 H0 ss cs' σ F H) (hm : (if ca = true then mb else some false) = some r) (h1 : ∀ Q' : VK, (∀ F' H', Same F F' → Wst M F0 H0 ss cs σ F' H' → Q' (.bl ca) H') → ta σ H Q') (h2 : ∀ F' H', Same F F' → Wst M F0 H0 ss cs σ F' H' → ca = true → mb = some r → ∀ Q' : VK, (∀ F2 H2, Same F' F2 → Wst M F0 H0 ss cs σ F2 H2 → Q' (.bl r) H2) → tb σ H' Q')
    (q : ∀ F' H', Same F F' → Wst M F0 H0 ss cs σ F' H' → Q (.bl r) H') : tAndV ta tb σ H Q := by
  refine x_andV (h1 _ fun F' H' s w => ⟨_, rfl, ?_⟩)
  cases ca with
  | true =>
    rw [if_pos rfl] at hm ⊢
    exact h2 F' H' s w rfl hm _ fun F2 H2 s2 w2 => q F2 H2 (s.trans s2) w2
  | false =>
    rw [if_neg (by decide)] at hm ⊢
    cases hm
    exact q F' H' s w
theorem w_orVO (h : Wst M F0 H0 ss cs' σ F H) (hm : (if ca = true then some true else mb) = some r) (h1 : ∀ Q' : VK, (∀ F' H', Same F F' → Wst M F0 H0 ss cs σ F' H' → Q' (.bl ca) H') → ta σ H Q') (h2 : ∀ F' H', Same F F' → Wst M F0 H0 ss cs σ F' H' → ca = false → mb = some r → ∀ Q' : VK, (∀ F2 H2, Same F' F2 → Wst M F0 H0 ss cs σ F2 H2 → Q' (.bl r) H2) → tb σ H' Q')
    (q : ∀ F' H', Same F F' → Wst M F0 H0 ss cs σ F' H' → Q (.bl r) H') : tOrV ta tb σ H Q := by
  refine x_orV (h1 _ fun F' H' s w => ⟨_, rfl, ?_⟩)
  cases ca with
  | true =>
    rw [if_pos rfl] at hm ⊢
    cases hm
    exact q F' H' s w
  | false =>
    rw [if_neg (by decide)] at hm ⊢
    exact h2 F' H' s w rfl hm _ fun F2 H2 s2 w2 => q F2 H2 (s.trans s2) w2
theorem w_aug {te : TE} {ti : TIp} {nx : St → Hp → Prop} {rt : VK} {bk ct : St → Hp → Prop} (h : Wst M F0 H0 ss cs σ F H) (e : ss[i]? = some (rN.at n)) (q : te σ H fun y H1 => ti (.int (n : Int)) y H1 fun z H2 => nx (σ.set i (some z)) H2) : tAug i te ti ⟨nx, rt, bk, ct⟩ σ H := by
  obtain ⟨ov, h1, v, rfl, r⟩ := A2.get h.sl e
  rw [show v = _ from r] at h1
  exact ⟨_, h1, q⟩
theorem w_ipA {m n : Nat} (q : Q (.int ((m + n : Nat) : Int)) H) : ipI (fun i j => i + j) (.int (m : Int)) (.int (n : Int)) H Q := ⟨_, _, rfl, rfl, by show Q (.int ((m : Int) + (n : Int))) H; rw [← Int.natCast_add]; exact q⟩
theorem w_ipS {m n : Nat} (z : n ≤ m) (q : Q (.int ((m - n : Nat) : Int)) H) : ipI (fun i j => i - j) (.int (m : Int)) (.int (n : Int)) H Q := ⟨_, _, rfl, rfl, by show Q (.int ((m : Int) - (n : Int))) H; rw [← Int.natCast_sub z]; exact q⟩
theorem w_put {nx : St → Hp → Prop} (h : Wst M F0 H0 ss cs σ F H) (e : ss.set i (R.at a) = ss') (r : R.r F v a) (q : ∀ σ', Wst M F0 H0 ss' cs σ' F H → nx σ' H) : nx (σ.set i (some v)) H := by
  subst e
  exact q _ (h.setS (s := R.at a) ⟨v, rfl, r⟩ i)
theorem w_catF (h : Wst M F0 H0 ss cs σ F H) (r1 : LV R F H v l) (r2 : LV R F H x l') (z : l.length + l'.length ≤ 100000) (q : ∀ v F' H', Same F F' → Wst M F0 H0 ss cs σ F' H' → (rL R).r F' v (l ++ l') → Q v H') : rCat v x H Q := by
  obtain ⟨p, vs, rfl, hp, hv⟩ := r1
  obtain ⟨p2, ws, rfl, hp2, hw⟩ := r2
  exact x_cat hp hp2 (by rw [hv.len, hw.len]; exact z) (w_newF h (hv.app hw) q)
theorem w_catC (h : Wst M F0 H0 ss cs σ F H) (r1 : LV R F H v l) (r2 : LV R F H x l') (z : l.length + l'.length ≤ 100000) (q : ∀ p H', H0 p = none → Wst M F0 H0 ss ((p, cL R (l ++ l')) :: cs) σ F H' → Q (.ref p) H') : rCat v x H Q := by
  obtain ⟨p, vs, rfl, hp, hv⟩ := r1
  obtain ⟨p2, ws, rfl, hp2, hw⟩ := r2
  exact x_cat hp hp2 (by rw [hv.len, hw.len]; exact z) (w_newC h (hv.app hw) q)
theorem a2_rep {R : V → α → Prop} {vs : List V} (h : A2 R vs l) : ∀ n, A2 R (List.replicate n vs).flatten (List.replicate n l).flatten
  | 0 => .nil
  | n + 1 => by
    rw [List.replicate_succ, List.replicate_succ, List.flatten_cons, List.flatten_cons]
    exact h.app (a2_rep h n)
theorem w_repF (h : Wst M F0 H0 ss cs σ F H) (r1 : LV R F H v l) (z : l.length * n ≤ 100000 ∧ n < 2 ^ 62) (q : ∀ v F' H', Same F F' → Wst M F0 H0 ss cs σ F' H' → (rL R).r F' v (List.replicate n l).flatten → Q v H') : rRep v (.int (n : Int)) H Q := by
  obtain ⟨p, vs, rfl, hp, hv⟩ := r1
  refine ⟨p, n, vs, rfl, rfl, hp, by omega, by omega, by rw [Int.toNat_natCast, hv.len]; exact sz_ok z.1, ?_⟩
  rw [Int.toNat_natCast]
  exact w_newF h (a2_rep hv n) q
theorem w_repC (h : Wst M F0 H0 ss cs σ F H) (r1 : LV R F H v l) (z : l.length * n ≤ 100000 ∧ n < 2 ^ 62) (q : ∀ p H', H0 p = none → Wst M F0 H0 ss ((p, cL R (List.replicate n l).flatten) :: cs) σ F H' → Q (.ref p) H') : rRep v (.int (n : Int)) H Q := by
  obtain ⟨p, vs, rfl, hp, hv⟩ := r1
  refine ⟨p, n, vs, rfl, rfl, hp, by omega, by omega, by rw [Int.toNat_natCast, hv.len]; exact sz_ok z.1, ?_⟩
  rw [Int.toNat_natCast]
  exact w_newC h (a2_rep hv n) q
theorem w_slTF (h : Wst M F0 H0 ss cs σ F H) (r : LV R F H v l) (q : ∀ v F' H', Same F F' → Wst M F0 H0 ss cs σ F' H' → (rL R).r F' v (l.take n) → Q v H') : rSlL K v none (some (n : Int)) H Q := w_slF h r (by rw [cut_take]; exact q)
theorem w_slTC (h : Wst M F0 H0 ss cs σ F H) (r : LV R F H v l) (q : ∀ p H', H0 p = none → Wst M F0 H0 ss ((p, cL R (l.take n)) :: cs) σ F H' → Q (.ref p) H') : rSlL K v none (some (n : Int)) H Q := w_slC h r (by rw [cut_take]; exact q)
theorem w_slDF (h : Wst M F0 H0 ss cs σ F H) (r : LV R F H v l) (q : ∀ v F' H', Same F F' → Wst M F0 H0 ss cs σ F' H' → (rL R).r F' v (l.drop n) → Q v H') : rSlL K v (some (n : Int)) none H Q := w_slF h r (by rw [cut_drop]; exact q)
theorem w_slDC (h : Wst M F0 H0 ss cs σ F H) (r : LV R F H v l) (q : ∀ p H', H0 p = none → Wst M F0 H0 ss ((p, cL R (l.drop n)) :: cs) σ F H' → Q (.ref p) H') : rSlL K v (some (n : Int)) none H Q := w_slC h r (by rw [cut_drop]; exact q)
theorem rg_nvN (n : Nat) : rgV 0 (n : Int) = nv (List.range n) := rg_nv n
theorem w_lrgF (h : Wst M F0 H0 ss cs σ F H) (z : n ≤ 100000) (q : ∀ v F' H', Same F F' → Wst M F0 H0 ss cs σ F' H' → (rL rN).r F' v (List.range n) → Q v H') : NewR 0 (n : Int) H Q :=
  show RgOk 0 (n : Int) ∧ _ from x_rgOk (by omega) (by omega) (by rw [rg_nvN]; exact w_newF h (nvN_a2 _) q)
theorem w_lrgC (h : Wst M F0 H0 ss cs σ F H) (z : n ≤ 100000) (q : ∀ p H', H0 p = none → Wst M F0 H0 ss ((p, cL rN (List.range n)) :: cs) σ F H' → Q (.ref p) H') : NewR 0 (n : Int) H Q :=
  show RgOk 0 (n : Int) ∧ _ from x_rgOk (by omega) (by omega) (by rw [rg_nvN]; exact w_newC h (nvN_a2 _) q)
theorem w_eqB {a b : Bool} (q : Q (.bl (decide (a = b))) H) : rEq (.bl a) (.bl b) H Q := x_eq rfl (by
  rw [dec_cast (p := V.bl a = V.bl b) (q := a = b) ⟨fun h => V.bl.inj h, fun h => by rw [h]⟩]; exact q)
theorem w_neB {a b : Bool} (q : Q (.bl (!decide (a = b))) H) : rNe (.bl a) (.bl b) H Q := x_ne rfl (by
  rw [dec_cast (p := V.bl a = V.bl b) (q := a = b) ⟨fun h => V.bl.inj h, fun h => by rw [h]⟩]; exact q)
theorem w_eqS {a b : Str} (q : Q (.bl (decide (a = b))) H) : rEq (.str a) (.str b) H Q := x_eq rfl (by
  rw [dec_cast (p := V.str a = V.str b) (q := a = b) ⟨fun h => V.str.inj h, fun h => by rw [h]⟩]; exact q)
theorem w_neS {a b : Str} (q : Q (.bl (!decide (a = b))) H) : rNe (.str a) (.str b) H Q := x_ne rfl (by
  rw [dec_cast (p := V.str a = V.str b) (q := a = b) ⟨fun h => V.str.inj h, fun h => by rw [h]⟩]; exact q)
theorem ro_some (r : R.r F v a) : (rO R).r F v (some a) := r
theorem roN_scal {a b : Option Nat} (ra : (rO rN).r F v a) (rb : (rO rN).r F x b) : scal v x = true ∧ (v = x ↔ a = b) := by
  cases a with
  | none =>
    rw [show v = _ from ra]
    cases b with
    | none => rw [show x = _ from rb]; exact ⟨rfl, by simp⟩
    | some b => rw [show x = _ from rb]; exact ⟨rfl, by simp⟩
  | some a =>
    rw [show v = _ from ra]
    cases b with
    | none => rw [show x = _ from rb]; exact ⟨rfl, by simp⟩
    | some b =>
      rw [show x = _ from rb]
      refine ⟨rfl, ?_, fun h => by rw [Option.some.inj h]⟩
      intro h
      have := V.int.inj h
      exact congrArg some (by omega)
theorem w_eqO {a b : Option Nat} (ra : (rO rN).r F v a) (rb : (rO rN).r F x b) (q : Q (.bl (decide (a = b))) H) : rEq v x H Q := by
  obtain ⟨h1, h2⟩ := roN_scal ra rb
  exact x_eq h1 (by rw [dec_cast h2]; exact q)
theorem w_neO {a b : Option Nat} (ra : (rO rN).r F v a) (rb : (rO rN).r F x b) (q : Q (.bl (!decide (a = b))) H) : rNe v x H Q := by
  obtain ⟨h1, h2⟩ := roN_scal ra rb
  exact x_ne h1 (by rw [dec_cast h2]; exact q)
/-- a stand that is never None -/
def NoN (R : Rep α) : Prop := ∀ F v a, R.r F v a → v ≠ .non
theorem nn_N : NoN rN := fun F v a r e => by rw [show v = _ from r] at e; cases e
theorem nn_L : NoN (rL R) := fun F v a r e => by
  obtain ⟨p, vs, rfl, _⟩ := r
  cases e
theorem nn_T2 : NoN (rT2 R S) := fun F v a r e => by
  obtain ⟨p, _, _, rfl, _⟩ := r
  cases e
theorem nn_T3 : NoN (rT3 R S T) := fun F v a r e => by
  obtain ⟨p, _, _, _, rfl, _⟩ := r
  cases e
def rIsN : R2 := fun x y H Q => y = .non ∧ Q (.bl (decide (x = .non))) H
def rNoN : R2 := fun x y H Q => y = .non ∧ Q (.bl (!decide (x = .non))) H
theorem k_isN {X : Cx} : OpR X (compareOp .Is) rIsN := op_isN
theorem k_notN {X : Cx} : OpR X (compareOp .IsNot) rNoN := op_notN
theorem rO_none {o : Option α} (nn : NoN R) (r : (rO R).r F v o) : decide (v = .non) = o.isNone := by
  cases o with
  | none => rw [show v = _ from r]; rfl
  | some a => exact decide_eq_false (nn _ _ _ r)
theorem w_isN {o : Option α} (nn : NoN R) (r : (rO R).r F v o) (q : Q (.bl o.isNone) H) : rIsN v .non H Q := ⟨rfl, by rw [rO_none nn r]; exact q⟩
theorem w_isnotN {o : Option α} (nn : NoN R) (r : (rO R).r F v o) (q : Q (.bl o.isSome) H) : rNoN v .non H Q := ⟨rfl, by
  rw [rO_none nn r]
  cases o <;> exact q⟩
theorem w_lenT2 {p : α × β} (s : Same F H) (r : (rT2 R S).r F v p) (q : Q (.int ((2 : Nat) : Int)) H) : rLen K [v] H Q := by
  obtain ⟨t, x, y, rfl, ht, _⟩ := r
  exact x_lenT (s _ _ ht) q
theorem w_lenT3 {p : α × β × γ} (s : Same F H) (r : (rT3 R S T).r F v p) (q : Q (.int ((3 : Nat) : Int)) H) : rLen K [v] H Q := by
  obtain ⟨t, x, y, z, rfl, ht, _⟩ := r
  exact x_lenT (s _ _ ht) q
theorem w_intB {b : Bool} (q : Q (.int ((b.toNat : Nat) : Int)) H) : rInt [.bl b] H Q := x_int_b (by
  cases b <;> exact q)
theorem kn_l (r : LV R F H v l) : Knd K H v "list" := by
  obtain ⟨p, vs, rfl, hp, _⟩ := r
  exact knd_lst hp
theorem kn_t2 {p : α × β} (s : Same F H) (r : (rT2 R S).r F v p) : Knd K H v "tuple" := by
  obtain ⟨t, x, y, rfl, ht, _⟩ := r
  exact knd_tup (s _ _ ht)
theorem kn_t3 {p : α × β × γ} (s : Same F H) (r : (rT3 R S T).r F v p) : Knd K H v "tuple" := by
  obtain ⟨t, x, y, z, rfl, ht, _⟩ := r
  exact knd_tup (s _ _ ht)
theorem Wst.fresh_ne {p : Addr} (h : Wst M F0 H0 ss cs σ F H) (hp : H p = none) : p ∉ cs.map (·.1) := fun z => by
  obtain ⟨x, hx, e⟩ := List.mem_map.mp z
  obtain ⟨⟨o', h1, _⟩, _⟩ := h.cl x hx
  rw [e, hp] at h1
  cases h1
theorem Wst.addC {p : Addr} (h : Wst M F0 H0 ss cs σ F H) (h0 : H0 p = none) (ap : F p = none) (ct : ∃ o, H p = some o ∧ A.p F o) (ne : p ∉ cs.map (·.1)) : Wst M F0 H0 ss ((p, A) :: cs) σ F H := by
  refine ⟨h.ex, h.sl, fun x hx => ?_, ?_⟩
  · rcases List.mem_cons.mp hx with rfl | hx
    · exact ⟨ct, ap, .inr h0⟩
    · exact h.cl x hx
  · rw [List.map_cons, List.nodup_cons]
    exact ⟨ne, h.nd⟩
end
def eqD {α : Type} [DecidableEq α] (a b : α) : Bool := decide (a = b)
def memD {α : Type} [DecidableEq α] (a : α) (l : List α) : Bool := decide (a ∈ l)
/-! ### as data, by kind -/
structure Dat {α : Type} (R : Rep α) where
  d : α → PyData
  dp : ∀ {K : PySem.W.Frag} {F H : Hp} {v : V} {a : α}, Same F H → R.r F v a → Dp K H v (d a)
  inj : ∀ a b, PyData.eqv (d a) (d b) = true ↔ a = b
  lay : ∀ a, PyData.canLay0 (d a) = true
  n : Nat
  dep : ∀ a, PyData.depth (d a) ≤ n
section
variable {α β γ : Type} {R : Rep α} {S : Rep β} {T : Rep γ}
def dtN : Dat rN where
  d n := .int (n : Int)
  dp s r := by rw [show _ = _ from r]; exact .int _
  inj a b := by
    simp only [PyData.eqv, beq_iff_eq]
    omega
  lay a := rfl
  n := 0
  dep a := Nat.le_refl _
def dtZ : Dat rZ where
  d n := .int n
  dp s r := by rw [show _ = _ from r]; exact .int _
  inj a b := by simp only [PyData.eqv, beq_iff_eq]
  lay a := rfl
  n := 0
  dep a := Nat.le_refl _
def dtB : Dat rB where
  d b := .bool b
  dp s r := by rw [show _ = _ from r]; exact .bl _
  inj a b := by simp only [PyData.eqv, beq_iff_eq]
  lay a := rfl
  n := 0
  dep a := Nat.le_refl _
theorem dt_all (D : Dat R) {K : PySem.W.Frag} {F H : Hp} {vs : List V} {l : List α} (s : Same F H) (h : A2 (R.r F) vs l) : DpAll K H vs (l.map D.d) := by
  induction h with
  | nil => exact .nil
  | cons r _ ih => exact .cons (D.dp s r) ih
theorem dt_inj (D : Dat R) : ∀ l m : List α, PyData.eqvAll (l.map D.d) (m.map D.d) = true ↔ l = m
  | [], [] => by simp [PyData.eqvAll]
  | [], _ :: _ => by simp [PyData.eqvAll]
  | _ :: _, [] => by simp [PyData.eqvAll]
  | a :: l, b :: m => by
    show (PyData.eqv (D.d a) (D.d b) && PyData.eqvAll (l.map D.d) (m.map D.d)) = true ↔ _
    rw [Bool.and_eq_true, D.inj, dt_inj D l m, List.cons.injEq]
theorem dt_lay (D : Dat R) : ∀ l : List α, PyData.canLayAll0 (l.map D.d) = true
  | [] => rfl
  | a :: l => by
    show (PyData.canLay0 (D.d a) && PyData.canLayAll0 (l.map D.d)) = true
    rw [D.lay, dt_lay D l]
    rfl
theorem dt_dep (D : Dat R) : ∀ l : List α, PyData.depthAll (l.map D.d) ≤ D.n
  | [] => Nat.zero_le _
  | a :: l => by
    have h1 := D.dep a
    have h2 := dt_dep D l
    show max (PyData.depth (D.d a)) (PyData.depthAll (l.map D.d)) ≤ D.n
    omega
def dtL (D : Dat R) : Dat (rL R) where
  d l := .list (l.map D.d)
  dp s r := by
    obtain ⟨p, vs, rfl, hp, hv⟩ := r
    exact .lst (sq_l (s _ _ hp)) (dt_all D s hv)
  inj l m := by
    simp only [PyData.eqv]
    exact dt_inj D l m
  lay l := dt_lay D l
  n := D.n + 1
  dep l := Nat.succ_le_succ (dt_dep D l)
def dtT2 (D : Dat R) (E : Dat S) : Dat (rT2 R S) where
  d p := .tuple [D.d p.1, E.d p.2]
  dp s r := by
    obtain ⟨t, x, y, rfl, ht, r1, r2⟩ := r
    exact .tup (sq_t (s _ _ ht)) (.cons (D.dp s r1) (.cons (E.dp s r2) .nil))
  inj p q := by
    simp only [PyData.eqv, PyData.eqvAll, Bool.and_true, Bool.and_eq_true, D.inj, E.inj, Prod.ext_iff]
  lay p := by
    show (PyData.canLay0 (D.d p.1) && (PyData.canLay0 (E.d p.2) && true)) = true
    rw [D.lay, E.lay]
    rfl
  n := max D.n E.n + 1
  dep p := by
    have h1 := D.dep p.1
    have h2 := E.dep p.2
    show max (PyData.depth (D.d p.1)) (max (PyData.depth (E.d p.2)) 0) + 1 ≤ max D.n E.n + 1
    omega
def dtT3 (D : Dat R) (E : Dat S) (G : Dat T) : Dat (rT3 R S T) where
  d p := .tuple [D.d p.1, E.d p.2.1, G.d p.2.2]
  dp s r := by
    obtain ⟨t, x, y, z, rfl, ht, r1, r2, r3⟩ := r
    exact .tup (sq_t (s _ _ ht)) (.cons (D.dp s r1) (.cons (E.dp s r2) (.cons (G.dp s r3) .nil)))
  inj p q := by
    simp only [PyData.eqv, PyData.eqvAll, Bool.and_true, Bool.and_eq_true, D.inj, E.inj, G.inj, Prod.ext_iff]
  lay p := by
    show (PyData.canLay0 (D.d p.1) && (PyData.canLay0 (E.d p.2.1) && (PyData.canLay0 (G.d p.2.2) && true))) = true
    rw [D.lay, E.lay, G.lay]
    rfl
  n := max D.n (max E.n G.n) + 1
  dep p := by
    have h1 := D.dep p.1
    have h2 := E.dep p.2.1
    have h3 := G.dep p.2.2
    show max (PyData.depth (D.d p.1)) (max (PyData.depth (E.d p.2.1)) (max (PyData.depth (G.d p.2.2)) 0)) + 1 ≤ max D.n (max E.n G.n) + 1
    omega
/-- a value as data where it stands -/
def DV {α : Type} {R : Rep α} (D : Dat R) (H : Hp) (v : V) (a : α) : Prop := ∀ K, Dp K H v (D.d a)
theorem dv_r (D : Dat R) {F H : Hp} {v : V} {a : α} (s : Same F H) (r : R.r F v a) : DV D H v a := fun _ => D.dp s r
theorem dv_l (D : Dat R) {F H : Hp} {v : V} {l : List α} (s : Same F H) (r : LV R F H v l) : DV (dtL D) H v l := fun _ => by
  obtain ⟨p, vs, rfl, hp, hv⟩ := r
  exact .lst (sq_l hp) (dt_all D s hv)
theorem dt_shaped (D : Dat R) (z : D.n ≤ 64) (a : α) : SeqAt.shaped (D.d a) = true := by
  unfold SeqAt.shaped
  rw [Bool.and_eq_true, decide_eq_true_eq]
  exact ⟨D.lay a, Nat.le_trans (D.dep a) z⟩
theorem dt_eq [DecidableEq α] (D : Dat R) (a b : α) : PyData.eqv (D.d a) (D.d b) = decide (a = b) := by
  rw [Bool.eq_iff_iff, D.inj, decide_eq_true_eq]
variable {K : PySem.W.Frag} {H : Hp} {Q : VK} {v x : V} {a b : α} {l : List α}
theorem w_eqD [DecidableEq α] (D : Dat R) (h1 : DV D H v a) (h2 : DV D H x b) (q : Q (.bl (eqD a b)) H) (z : D.n ≤ 64 := by decide) : rEqD K v x H Q :=
  ⟨_, _, h1 K, h2 K, dt_shaped D z a, dt_shaped D z b, by rw [dt_eq]; exact q⟩
theorem w_neD [DecidableEq α] (D : Dat R) (h1 : DV D H v a) (h2 : DV D H x b) (q : Q (.bl (!eqD a b)) H) (z : D.n ≤ 64 := by decide) : rNeD K v x H Q :=
  ⟨_, _, h1 K, h2 K, dt_shaped D z a, dt_shaped D z b, by rw [dt_eq]; exact q⟩
theorem dt_any [DecidableEq α] (D : Dat R) (a : α) (l : List α) : ((l.map D.d).any fun z => PyData.eqv z (D.d a)) = decide (a ∈ l) := by
  rw [List.any_map, Bool.eq_iff_iff, List.any_eq_true, decide_eq_true_eq]
  constructor
  · rintro ⟨b, hb, e⟩
    rw [← (D.inj b a).mp e]
    exact hb
  · intro h
    exact ⟨a, h, (D.inj a a).mpr rfl⟩
theorem w_inD [DecidableEq α] (D : Dat R) (h1 : DV D H v a) (h2 : DV (dtL D) H x l) (q : Q (.bl (memD a l)) H) (z : D.n < 64 := by decide) : rInD K v x H Q :=
  ⟨_, _, h1 K, h2 K, dt_shaped D (Nat.le_of_lt z) a, dt_shaped (dtL D) z l, by rw [dt_any]; exact q⟩
theorem w_ninD [DecidableEq α] (D : Dat R) (h1 : DV D H v a) (h2 : DV (dtL D) H x l) (q : Q (.bl (!memD a l)) H) (z : D.n < 64 := by decide) : rNotInD K v x H Q :=
  ⟨_, _, h1 K, h2 K, dt_shaped D (Nat.le_of_lt z) a, dt_shaped (dtL D) z l, by rw [dt_any]; exact q⟩
end
section
variable {M : Mx} {F0 H0 F H : Hp} {ss : List Sa} {τ : Type} {σ : St} {Qb : Bool → Hp → Prop} {t u : TT} {ca : Bool} {U : τ} {mb : Option (Bool × τ)} {r : Bool × τ} {α : Type} {R : Rep α} {Q : VK} {ta tb : TE}
theorem w_andS (cs : τ → List (Addr × Ca)) {cs' : List (Addr × Ca)} (h : Wst M F0 H0 ss cs' σ F H) (hm : (if ca = true then mb else some (false, U)) = some r) (h1 : ∀ Q' : Bool → Hp → Prop, (∀ F' H', Same F F' → Wst M F0 H0 ss (cs U) σ F' H' → Q' ca H') → t σ H Q') (h2 : ∀ F' H', Same F F' → Wst M F0 H0 ss (cs U) σ F' H' → ca = true → mb = some r → ∀ Q' : Bool → Hp → Prop, (∀ F2 H2, Same F' F2 → Wst M F0 H0 ss (cs r.2) σ F2 H2 → Q' r.1 H2) → u σ H' Q')
    (q : ∀ F' H', Same F F' → Wst M F0 H0 ss (cs r.2) σ F' H' → Qb r.1 H') : tAnd t u σ H Qb := by
  refine x_and (h1 _ fun F' H' s w => ?_)
  cases ca with
  | true =>
    rw [if_pos rfl] at hm ⊢
    exact h2 F' H' s w rfl hm _ fun F2 H2 s2 w2 => q F2 H2 (s.trans s2) w2
  | false =>
    rw [if_neg (by decide)] at hm ⊢
    cases hm
    exact q F' H' s w
theorem w_orS (cs : τ → List (Addr × Ca)) {cs' : List (Addr × Ca)} (h : Wst M F0 H0 ss cs' σ F H) (hm : (if ca = true then some (true, U) else mb) = some r) (h1 : ∀ Q' : Bool → Hp → Prop, (∀ F' H', Same F F' → Wst M F0 H0 ss (cs U) σ F' H' → Q' ca H') → t σ H Q') (h2 : ∀ F' H', Same F F' → Wst M F0 H0 ss (cs U) σ F' H' → ca = false → mb = some r → ∀ Q' : Bool → Hp → Prop, (∀ F2 H2, Same F' F2 → Wst M F0 H0 ss (cs r.2) σ F2 H2 → Q' r.1 H2) → u σ H' Q')
    (q : ∀ F' H', Same F F' → Wst M F0 H0 ss (cs r.2) σ F' H' → Qb r.1 H') : tOr t u σ H Qb := by
  refine x_or (h1 _ fun F' H' s w => ?_)
  cases ca with
  | true =>
    rw [if_pos rfl] at hm ⊢
    cases hm
    exact q F' H' s w
  | false =>
    rw [if_neg (by decide)] at hm ⊢
    exact h2 F' H' s w rfl hm _ fun F2 H2 s2 w2 => q F2 H2 (s.trans s2) w2
theorem w_ifG {cs cs' : List (Addr × Ca)} {ca : Bool} {ma mb : Option α} {r : α} (h : Wst M F0 H0 ss cs' σ F H) (hm : (if ca = true then ma else mb) = some r) (h1 : ∀ Q' : Bool → Hp → Prop, (∀ F' H', Same F F' → Wst M F0 H0 ss cs σ F' H' → Q' ca H') → t σ H Q')
    (h2 : ∀ F' H', Same F F' → Wst M F0 H0 ss cs σ F' H' → ca = true → ma = some r → ∀ Q' : VK, (∀ v F2 H2, Same F' F2 → Wst M F0 H0 ss cs σ F2 H2 → R.r F2 v r → Q' v H2) → ta σ H' Q')
    (h3 : ∀ F' H', Same F F' → Wst M F0 H0 ss cs σ F' H' → ca = false → mb = some r → ∀ Q' : VK, (∀ v F2 H2, Same F' F2 → Wst M F0 H0 ss cs σ F2 H2 → R.r F2 v r → Q' v H2) → tb σ H' Q')
    (q : ∀ v F' H', Same F F' → Wst M F0 H0 ss cs σ F' H' → R.r F' v r → Q v H') : tIf t ta tb σ H Q := by
  refine x_if (h1 _ fun F' H' s w => ?_)
  cases ca with
  | true =>
    rw [if_pos rfl] at hm ⊢
    exact h2 F' H' s w rfl hm _ fun v F2 H2 s2 w2 r2 => q v F2 H2 (s.trans s2) w2 r2
  | false =>
    rw [if_neg (by decide)] at hm ⊢
    exact h3 F' H' s w rfl hm _ fun v F2 H2 s2 w2 r2 => q v F2 H2 (s.trans s2) w2 r2
end
/-! ### mirrors: pairs in order; equality and membership as functions -/
def leP (p q : Nat × Nat) : Bool := decide (p.1 < q.1 ∨ p.1 = q.1 ∧ p.2 ≤ q.2)
def srtP (l : List (Nat × Nat)) : List (Nat × Nat) := l.mergeSort leP
theorem srtP_perm (l : List (Nat × Nat)) : (srtP l).Perm l := List.mergeSort_perm ..
theorem srtP_le (l : List (Nat × Nat)) : (srtP l).Pairwise fun p q => leP p q = true := by
  refine List.pairwise_mergeSort (le := leP) (fun a b c h1 h2 => ?_) (fun a b => ?_) l
  · unfold leP at *
    simp only [decide_eq_true_eq] at *
    omega
  · unfold leP
    simp only [Bool.or_eq_true, decide_eq_true_eq]
    omega
theorem srtP_eq {l m : List (Nat × Nat)} (p : m.Perm l) (s : m.Pairwise fun p q => leP p q = true) : m = srtP l := by
  refine List.Perm.eq_of_pairwise (fun a b _ _ h1 h2 => ?_) s (srtP_le l) (p.trans (srtP_perm l).symm)
  unfold leP at h1 h2
  simp only [decide_eq_true_eq] at h1 h2
  exact Prod.ext (by omega) (by omega)
theorem srtP_lt {l : List (Nat × Nat)} (nd : l.Nodup) : (srtP l).Pairwise ltT := by
  refine ((srtP_le l).and ((srtP_perm l).nodup_iff.mpr nd)).imp fun {a b} h => ?_
  obtain ⟨h1, h2⟩ := h
  unfold leP at h1
  simp only [decide_eq_true_eq] at h1
  unfold ltT
  have h3 : ¬ (a.1 = b.1 ∧ a.2 = b.2) := fun z => h2 (Prod.ext z.1 z.2)
  omega
theorem a2_tie {F H : Hp} {vs : List V} {l : List (Nat × Nat)} (s : Same F H) (h : A2 ((rT2 rN rN).r F) vs l) : TieL H vs l := h.imp fun v p r => by
  obtain ⟨t, x, y, rfl, ht, r1, r2⟩ := r
  refine ⟨t, rfl, ?_⟩
  rw [show x = _ from r1, show y = _ from r2] at ht
  exact s _ _ ht
theorem TieL.sortedW {H : Hp} {ys : List V} {qs : List Tie} (h : TieL H ys qs) (s : SrtO.Srtd (ltP (keyT H)) ys) : qs.Pairwise fun p q => leP p q = true := by
  induction h with
  | nil => exact List.Pairwise.nil
  | @cons v p vs ps r t ih =>
    refine List.pairwise_cons.mpr ⟨fun q hq => ?_, ih (List.pairwise_cons.mp s).2⟩
    obtain ⟨i, e⟩ := List.mem_iff_getElem?.mp hq
    have hi : i < vs.length := by rw [t.len]; exact (List.getElem?_eq_some_iff.mp e).1
    obtain ⟨q', e', r'⟩ := t.get (List.getElem?_eq_getElem hi)
    rw [e] at e'
    cases e'
    have h1 := (List.pairwise_cons.mp s).1 _ (List.getElem_mem hi)
    have h2 := SrtO.lexB_no.mp h1
    rw [keyT_of r, keyT_of r'] at h2
    simp only at h2
    unfold leP
    rw [decide_eq_true_eq]
    omega
theorem a2_permF {R : V → Nat × Nat → Prop} {as cs : List V} {bs : List (Nat × Nat)} (p : cs.Perm as) (h : A2 R as bs) : ∃ ds, ds.Perm bs ∧ A2 R cs ds := A2.perm p h
section
variable {M : Mx} {F0 H0 F H : Hp} {ss : List Sa} {cs : List (Addr × Ca)} {σ : St} {Q : VK} {K : PySem.W.Frag} {v : V} {l : List (Nat × Nat)}
theorem srtP_of (s : Same F H) (r : LV (rT2 rN rN) F H v l) (q : ∀ ys, A2 ((rT2 rN rN).r F) ys (srtP l) → ∀ p, H p = none → Q (.ref p) (upd H p (.lst ys))) : rSortedPO K [v] H Q := by
  obtain ⟨a, vs, rfl, ha, hv⟩ := r
  have h := a2_tie s hv
  refine ⟨a, vs, keyT H, rfl, sq_l ha, fun x hx => ?_, fun ys p st sb hp => ?_⟩
  · obtain ⟨i, e⟩ := List.mem_iff_getElem?.mp hx
    obtain ⟨q, _, r⟩ := h.get e
    have e2 := keyT_of r
    obtain ⟨t, rfl, r⟩ := r
    exact ⟨t, rfl, by rw [e2]; exact r⟩
  · obtain ⟨qs, pm, h2⟩ := a2_permF sb.perm hv
    have e := srtP_eq pm ((a2_tie s h2).sortedW st)
    rw [e] at h2
    exact q ys h2 p hp
theorem w_srtPF (h : Wst M F0 H0 ss cs σ F H) (r : LV (rT2 rN rN) F H v l) (q : ∀ v F' H', Same F F' → Wst M F0 H0 ss cs σ F' H' → (rL (rT2 rN rN)).r F' v (srtP l) → Q v H') : rSortedPO K [v] H Q := srtP_of h.fh r fun _ hv => w_newF h hv q
theorem w_srtPC (h : Wst M F0 H0 ss cs σ F H) (r : LV (rT2 rN rN) F H v l) (q : ∀ p H', H0 p = none → Wst M F0 H0 ss ((p, cL (rT2 rN rN) (srtP l)) :: cs) σ F H' → Q (.ref p) H') : rSortedPO K [v] H Q := srtP_of h.fh r fun _ hv => w_newC h hv q
end
theorem eqD_iff {α : Type} [DecidableEq α] {a b : α} : eqD a b = true ↔ a = b := decide_eq_true_iff
theorem memD_iff {α : Type} [DecidableEq α] {a : α} {l : List α} : memD a l = true ↔ a ∈ l := decide_eq_true_iff
theorem eqD_self {α : Type} [DecidableEq α] (a : α) : eqD a a = true := eqD_iff.mpr rfl
theorem w_cut {M : Mx} {F0 H0 F H : Hp} {ss0 : List Sa} {cs0 : List (Addr × Ca)} {σ : St} {S : Type} {ts us : TS} {n : St → Hp → Prop} {rt : VK} {bk ct : St → Hp → Prop} (na : Nat) (ss : S → (Nat → Addr) → List Sa) (cs : S → (Nat → Addr) → List (Addr × Ca)) (s : S) (hE : Wst M F0 H0 ss0 cs0 σ F H) (h : ts ⟨NX M F0 H0 na ss cs F s, rt, bk, ct⟩ σ H)
    (k : ∀ ad σ' F' H', (∀ i, i < na → H0 (ad i) = none) → Same F F' → Wst M F0 H0 (ss s ad) (cs s ad) σ' F' H' → us ⟨n, rt, bk, ct⟩ σ' H') : Evl.tCut ts us ⟨n, rt, bk, ct⟩ σ H :=
  x_cut (NX M F0 H0 na ss cs F s) h fun σ' H' ⟨ad, F', ha, s1, w⟩ => k ad σ' F' H' ha s1 w
theorem w_gU2 {α : Type} {R : Rep α} {F H : Hp} {v : V} {l : List α} {a b : α} {K : PySem.W.Frag} {g : TGs} {σ : St} {Qs : St → Hp → Prop} (r : LV R F H v l) (ea : l[0]? = some a) (eb : l[1]? = some b) (z : l.length = 2) (q : ∀ x y, R.r F x a → R.r F y b → g [x, y] σ H Qs) : gUnl K 2 g v σ H Qs := by
  match l, z, ea, eb with
  | [_, _], _, rfl, rfl =>
    obtain ⟨p, vs, rfl, hp, hv⟩ := r
    match vs, hv with
    | [x, y], .cons r1 (.cons r2 .nil) => exact ⟨p, [x, y], rfl, sq_l hp, rfl, q x y r1 r2⟩
theorem is_spInt {K : PySem.W.Frag} {H : Hp} {Q : VK} {E : XK} {v : V} {k : String} {b : Bool} (h : Knd K H v k) (e : (k == "int") = b) (q : Q (.bl b) H) : spIsInt K [v] H Q E := ⟨v, k, rfl, h, by rw [e]; exact q⟩
/-! ### mirrors: webs, by their rows -/
abbrev Wb := List (List Nat)
def nbs (n : Nat) (e : Rel) : Wb := (List.range n).map (nb n e)
theorem nbs_len (n : Nat) (e : Rel) : (nbs n e).length = n := by unfold nbs; rw [List.length_map, List.length_range]
theorem nbs_at {n : Nat} {e : Rel} {u : Nat} (h : u < n) : (nbs n e)[u]? = some (nb n e u) := by
  unfold nbs
  rw [List.getElem?_map, List.getElem?_range h]
  rfl
def rWb (C : Addr) : Rep Wb := ⟨fun F v w => ∃ x dx d, v = .ref x ∧ F x = some (.ins C dx (fB d)) ∧ (rL (rL rN)).r F (.ref d) w, fun s ⟨x, dx, d, e, h, r⟩ => ⟨x, dx, d, e, s _ _ h, (rL (rL rN)).mono s r⟩⟩
/-- F, and what is new -/
def Gw (F H H' : Hp) : Hp := fun a => if H a = none then (match H' a with | some (.tbl _) => none | o => o) else F a
theorem gw_new {F H H' : Hp} {a : Addr} {o : HO} (e : Gw F H H' a = some o) (h : H a = none) : H' a = some o ∧ ∀ ps, o ≠ .tbl ps := by
  unfold Gw at e
  rw [if_pos h] at e
  split at e
  · cases e
  · rename_i x hx
    refine ⟨e, fun ps z => ?_⟩
    rw [z] at e
    exact hx ps e
theorem gw_at {F H H' : Hp} {a : Addr} {o : HO} (h : H a = none) (e : H' a = some o) (n : ∀ ps, o ≠ .tbl ps := by intro ps z; cases z) : Gw F H H' a = some o := by
  unfold Gw
  rw [if_pos h]
  split
  · rename_i z
    rw [e] at z
    exact absurd (Option.some.inj z) (n _)
  · exact e
theorem ext_gw {T : List (Addr × Str)} {F H H' : Hp} (s : Same F H) (nt : NoT F) (k : Same H H') : Ext ⟨[], T⟩ F H (Gw F H H') H' := by
  refine ⟨fun a o e => ?_, fun a o e => ?_, fun a o _ e _ => k a o e, fun a h n => ?_, fun a n z => ?_, fun a ps e => ?_, fun t => t.ext k⟩
  · unfold Gw
    rw [if_neg (by rw [s a o e]; exact nofun)]
    exact e
  · by_cases h : H a = none
    · exact (gw_new e h).1
    · unfold Gw at e
      rw [if_neg h] at e
      exact k a o (s a o e)
  · unfold Gw
    rw [if_neg n]
    exact h
  · cases e : H a with
    | none => exact n e
    | some o => rw [k a o e] at z; cases z
  · by_cases h : H a = none
    · exact (gw_new e h).2 ps rfl
    · unfold Gw at e
      rw [if_neg h] at e
      exact nt a ps e
theorem a2_of_nvs {F : Hp} {l : List Nat} {a : Addr} (h : F a = some (.lst (nv l))) : (rL rN).r F (.ref a) l := ⟨a, nv l, rfl, h, nvN_a2 l⟩
theorem web_rWb {C x : Addr} {F : Hp} {n : Nat} {e : Rel} (w : WebAt C F x n e) : (rWb C).r F (.ref x) (nbs n e) := by
  obtain ⟨dx, d, rows, h1, h2, h3, h4⟩ := w.ex
  refine ⟨x, dx, d, rfl, h1, d, rows.map V.ref, rfl, h2, a2_of_get (by rw [List.length_map, nbs_len, h3]) fun i v r e1 e2 => ?_⟩
  obtain ⟨a, rfl, ha⟩ := of_refs e1
  have hi := (List.getElem?_eq_some_iff.mp e2).1
  rw [nbs_len] at hi
  rw [nbs_at hi] at e2
  cases e2
  exact a2_of_nvs (h4 i a ha)
theorem rows_eq {l m : List (List Nat)} (h : l.length = m.length) (q : ∀ (i : Nat) (x y : List Nat), l[i]? = some x → m[i]? = some y → x = y) : l = m := by
  refine List.ext_getElem? fun i => ?_
  by_cases c : i < l.length
  · have e1 : l[i]? = some l[i] := List.getElem?_eq_getElem c
    have e2 : m[i]? = some (m[i]'(by omega)) := List.getElem?_eq_getElem (by omega)
    rw [e1, e2, q i _ _ e1 e2]
  · rw [List.getElem?_eq_none (by omega), List.getElem?_eq_none (by omega)]
theorem rWb_web {C x : Addr} {F : Hp} {n : Nat} {e : Rel} (r : (rWb C).r F (.ref x) (nbs n e)) : WebAt C F x n e := by
  obtain ⟨x', dx, d, ex, h1, a, vs, ea, h2, hv⟩ := r
  cases ex
  cases ea
  have zl := hv.len
  rw [nbs_len] at zl
  have hrefs : ∃ rows : List Addr, vs = rows.map V.ref := by
    clear h2 zl
    generalize nbs n e = m at hv
    induction hv with
    | nil => exact ⟨[], rfl⟩
    | cons r _ ih =>
      obtain ⟨rows, rfl⟩ := ih
      obtain ⟨b, _, rfl, _⟩ := r
      exact ⟨b :: rows, rfl⟩
  obtain ⟨rows, rfl⟩ := hrefs
  rw [List.length_map] at zl
  refine ⟨dx, d, rows, h1, h2, zl, fun i a ha => ?_⟩
  have hi := (List.getElem?_eq_some_iff.mp ha).1
  obtain ⟨r, hr, b, ws, eb, hb, hw⟩ := hv.get (refs_at ha)
  cases eb
  rw [nbs_at (by omega)] at hr
  cases hr
  rw [hb, a2_nvN hw]
def mkWeb (n : Nat) (ts : List (Nat × Nat)) : Option Wb := (gd (ts.Nodup ∧ (∀ p ∈ ts, p.1 < p.2 ∧ p.2 < n) ∧ n ≤ 100 ∧ ts.length ≤ 50000)).bind fun _ => some (nbs n (eOf ts))
theorem mkWeb_ok {n : Nat} {ts : List (Nat × Nat)} (t : TOk n ts) (h : n ≤ 100) (z : ts.length ≤ 50000) : mkWeb n ts = some (nbs n (eOf ts)) := by
  unfold mkWeb
  rw [gd_true ⟨t.nd, t.ok, h, z⟩]
  rfl
def MkG (C : Addr) (sp : Sp) (E : XK) (vs : List V) (H : Hp) (Q : VK) : Prop := ∀ x dx, H x = none → H dx = none → dx ≠ x → sp (.ref x :: vs) (upd (upd H dx (.own x)) x (.ins C dx [])) (fun v H2 => v = .non ∧ Q (.ref x) H2) E
theorem m_make {C : Addr} {sp : Sp} {E : XK} {tr : TA} {σ : St} {H : Hp} {Q : VK} (h : tr σ H fun vs H1 => MkG C sp E vs H1 Q) : tMake C sp [] E tr σ H Q := x_make h
section
variable {M : Mx} {F0 H0 F H : Hp} {ss : List Sa} {cs : List (Addr × Ca)} {σ : St} {Q : VK} {K : PySem.W.Frag} {v : V} {C : Addr} {w : Wb} {E : XK} {P : Prop}
theorem _root_.OC.WebAt.sameT {C x : Addr} {H H' : Hp} {n : Nat} {e : Rel} (w : WebAt C H x n e) (k : ∀ a o, H a = some o → (∀ ps, o ≠ .tbl ps) → H' a = some o) : WebAt C H' x n e := by
  obtain ⟨dx, d, rows, h1, h2, h3, h4⟩ := w.ex
  exact ⟨dx, d, rows, k _ _ h1 (by intro ps z; cases z), k _ _ h2 (by intro ps z; cases z), h3, fun i a h => k _ _ (h4 i a h) (by intro ps z; cases z)⟩
theorem w_mkWeb {n : Nat} {ts : List (Nat × Nat)} {tv : V} (h : Wst M F0 H0 ss cs σ F H) (r : (rL (rT2 rN rN)).r F tv ts) (hw : mkWeb n ts = some w) (q : ∀ v F' H', Same F F' → Wst M F0 H0 ss cs σ F' H' → (rWb C).r F' v w → Q v H') : MkG C (spInitW C) E [.int (n : Int), tv] H Q := by
  intro x dx hx hdx ne
  unfold mkWeb at hw
  obtain ⟨_, g, hw⟩ := bnd hw
  have g := gd_ok g
  cases hw
  have s1 : Same H (upd (upd H dx (.own x)) x (.ins C dx [])) := fun b o e => by
    rw [upd_ne (ne_of_none e hx), upd_ne (ne_of_none e hdx)]
    exact e
  obtain ⟨t, vs, rfl, ht, hv⟩ := r
  refine ⟨x, dx, t, n, vs, ts, rfl, upd_same, s1 _ _ (h.fh _ _ ht), (a2_tie h.fh hv).same s1, ⟨g.1, g.2.1⟩, g.2.2.1, g.2.2.2, fun H5 k5 w5 => ⟨rfl, ?_⟩⟩
  have s5 : Same H H5 := fun b o e => k5 b o (s1 b o e) (ne_of_none e hx)
  have e := ext_gw (T := M.tl) h.fh h.nt s5
  refine q _ _ _ e.ff (h.grow e) (web_rWb (w5.sameT fun a o ha nt => ?_))
  obtain ⟨h1, h2⟩ := nw_of ha
  refine gw_at ?_ h1 nt
  rcases h2 with h2 | h2
  · rw [h2]; exact hx
  · cases z : H a with
    | none => rfl
    | some o => rw [s1 a o z] at h2; cases h2
theorem w_insWeb {m : Str} (s : Same F H) (r : (rWb C).r F v w) (hm : ¬ m = "beside") (q : ∀ a, v = .ref a → P) : ∃ a dx fs, v = .ref a ∧ H a = some (.ins C dx fs) ∧ fs.lookup m = none ∧ P := by
  obtain ⟨x, dx, d, rfl, h, _⟩ := r
  exact ⟨x, dx, _, rfl, s _ _ h, fB_no d hm, q x rfl⟩
theorem w_inpWeb {P : Addr → Prop} (s : Same F H) (r : (rWb C).r F v w) (q : ∀ a, v = .ref a → P a) : ∃ a dx fs, v = .ref a ∧ H a = some (.ins C dx fs) ∧ P a := by
  obtain ⟨x, dx, d, rfl, h, _⟩ := r
  exact ⟨x, dx, _, rfl, s _ _ h, q x rfl⟩
theorem w_fldWeb {P : V → Prop} (s : Same F H) (r : (rWb C).r F v w) (c : Cls K C) (n : NoAttr K C "beside") (q : ∀ d, (rL (rL rN)).r F d w → P d) : ∃ a C' dx fs d, v = .ref a ∧ H a = some (.ins C' dx fs) ∧ Cls K C' ∧ NoAttr K C' "beside" ∧ fs.lookup ("beside" : Str) = some d ∧ P d := by
  obtain ⟨x, dx, d, rfl, h, r⟩ := r
  exact ⟨x, C, dx, _, .ref d, rfl, s _ _ h, c, n, fB_beside d, q _ r⟩
theorem knWeb (s : Same F H) (r : (rWb C).r F v w) : ∃ a dx fs, v = .ref a ∧ H a = some (.ins C dx fs) := by
  obtain ⟨x, dx, d, rfl, h, _⟩ := r
  exact ⟨x, dx, _, rfl, s _ _ h⟩
end
/-! ### mirrors: two fors -/
def compL {α β : Type} (f : α → Option (List β)) : List α → Option (List β)
  | [] => some []
  | x :: xs => (f x).bind fun l => (compL f xs).bind fun m => some (l ++ m)
theorem compL_map {α β : Type} {f : α → Option (List β)} {g : α → List β} {xs : List α} (h : ∀ x ∈ xs, f x = some (g x)) : compL f xs = some (xs.flatMap g) := by
  induction xs with
  | nil => rfl
  | cons x xs ih =>
    show (f x).bind (fun l => (compL f xs).bind fun m => some (l ++ m)) = _
    rw [h x (List.mem_cons_self ..), ih fun y hy => h y (List.mem_cons_of_mem _ hy)]
    rfl
section
variable {M : Mx} {F0 H0 F H : Hp} {α β γ : Type} {R : Rep α} {B : Rep β} {G : Rep γ} {K : PySem.W.Frag} {σ σ2 : St} {xs : List α} {g g1 : TG} {wi1 : TI} {tt tt1 : TT} {te : TE} {Q : VK}
theorem w_lc2 {J : It} {D : Addr} {vs vs1 : List Nat} {ss : List Sa} {cs : List (Addr × Ca)} {f : α → Option (List β)} {lr : List β} (hf : compL f xs = some lr) (z : lr.length ≤ 100000) (hE : Wst M F0 H0 ss cs σ F H) (hD : H D = none)
    (hJ : ∀ acc F' H', Same F F' → Wst M F0 H0 (wipeS ss vs) ((D, cL B acc) :: cs) (L2.wipe σ vs) F' H' → JOk J R xs F' H')
    (hs : ∀ x v o acc F' H', Same F F' → R.r F' v x → Wst M F0 H0 (wipeS ss vs) ((D, cL B acc) :: cs) (L2.wipe σ vs) F' H' → f x = some o → acc.length + o.length ≤ 100000 → L2.wipe (L2.wipe σ vs) vs = L2.wipe σ vs →
      g v (L2.wipe σ vs) H' fun σ2 H2 => L2.wipe σ2 vs = L2.wipe σ vs ∧ tt σ2 H2 fun b H3 => if b = true then wi1 σ2 H3 fun J1 H4 => LI J1 D (CN M F0 H0 (wipeS ss vs) (fun (_ : Unit) => cs) F (L2.wipe σ vs) D B (acc ++ o) ()) g1 tt1 te vs1 σ2 H4 else CN M F0 H0 (wipeS ss vs) (fun (_ : Unit) => cs) F (L2.wipe σ vs) D B (acc ++ o) () H3)
    (hd : ∀ F' H', H0 D = none → Same F F' → Wst M F0 H0 ss ((D, cL B lr) :: cs) σ F' H' → Q (.ref D) H') : LW2 J D g tt wi1 g1 tt1 te vs vs1 σ H Q := by
  have hD0 := hE.own hD
  refine ⟨fun i m H => m = xs.length - i ∧ i ≤ xs.length ∧ ∃ acc F' l', Same F F' ∧ Wst M F0 H0 (wipeS ss vs) ((D, cL B acc) :: cs) (L2.wipe σ vs) F' H ∧ compL f (xs.drop i) = some l' ∧ acc ++ l' = lr,
    ⟨_, rfl, Nat.zero_le _, [], F, lr, Same.refl F, (hE.wipe vs).newC hD ⟨[], rfl, .nil⟩, hf, rfl⟩, ?_⟩
  rintro i m H1 ⟨rfl, hi, acc, F1, l', sm, w, q, el⟩
  obtain ⟨j1, j2⟩ := hJ acc F1 H1 sm w i
  by_cases hlt : i < xs.length
  · obtain ⟨go, yl⟩ := j1 hlt
    have ex : xs[i]? = some (xs[i]'hlt) := List.getElem?_eq_getElem hlt
    rw [List.drop_eq_getElem_cons hlt] at q
    obtain ⟨o, hb, q⟩ := bnd q
    obtain ⟨p, hp, q⟩ := bnd q
    have e1 : o ++ p = l' := Option.some.inj q
    refine .inr ⟨go, CN M F0 H0 (wipeS ss vs) (fun (_ : Unit) => cs) F (L2.wipe σ vs) D B (acc ++ o) (), fun H' ⟨F2, sm2, w2⟩ => ⟨_, by omega, rfl, hlt, acc ++ o, F2, p, sm2, w2, hp, by rw [List.append_assoc, e1]; exact el⟩, fun x H'' y => ?_⟩
    obtain ⟨F2, x2, r2⟩ := yl x H'' y
    refine hs _ x o acc F2 H'' (sm.trans (x2 M.tl).ff) (r2 _ ex) (w.grow (x2 M.tl)) hb ?_ (wipe_wipe fun _ h => h)
    rw [← el, ← e1, List.length_append, List.length_append] at z
    omega
  · have e1 : i = xs.length := by omega
    rw [e1, List.drop_length] at q
    have e2 : ([] : List β) = l' := Option.some.inj q
    rw [← e2, List.append_nil] at el
    rw [el] at w
    exact .inl ⟨j2 (by omega), hd F1 H1 hD0 sm ⟨w.ex, hE.sl.imp fun s _ => s.mono sm, w.cl, w.nd⟩⟩
theorem w_li {J : It} {D : Addr} {vs vs1 : List Nat} {ss2 ssw : List Sa} {cs : List (Addr × Ca)} {f : γ → Option (Option β)} {ys : List γ} {l acc : List β} {Fw : Hp} {σw : St} (hf : compO f ys = some l) (z : acc.length + l.length ≤ 100000) (hE : Wst M F0 H0 ss2 ((D, cL B acc) :: cs) σ2 F H) (smw : Same Fw F) (eσ : L2.wipe σ2 vs = σw) (eS : wipeS (wipeS ss2 vs1) vs = ssw) (hv : ∀ v ∈ vs1, v ∈ vs)
    (hJ : ∀ ac F' H', Same F F' → Wst M F0 H0 (wipeS ss2 vs1) ((D, cL B ac) :: cs) (L2.wipe σ2 vs1) F' H' → JOk J G ys F' H')
    (hs : ∀ x v o ac F' H', Same F F' → G.r F' v x → Wst M F0 H0 (wipeS ss2 vs1) ((D, cL B ac) :: cs) (L2.wipe σ2 vs1) F' H' → f x = some o → ac.length + o.toList.length ≤ 100000 → L2.wipe (L2.wipe σ2 vs1) vs1 = L2.wipe σ2 vs1 →
      g1 v (L2.wipe σ2 vs1) H' fun σ3 H2 => L2.wipe σ3 vs1 = L2.wipe σ2 vs1 ∧ tt1 σ3 H2 fun b H3 => if b = true then te σ3 H3 fun y H4 => ∃ a, H4 D = some (.lst a) ∧ a.length < sizeLine ∧ CN M F0 H0 (wipeS ss2 vs1) (fun (_ : Unit) => cs) F (L2.wipe σ2 vs1) D B (ac ++ o.toList) () (upd H4 D (.lst (a ++ [y]))) else CN M F0 H0 (wipeS ss2 vs1) (fun (_ : Unit) => cs) F (L2.wipe σ2 vs1) D B (ac ++ o.toList) () H3) :
    LI J D (CN M F0 H0 ssw (fun (_ : Unit) => cs) Fw σw D B (acc ++ l) ()) g1 tt1 te vs1 σ2 H := by
  have wipe2 : ∀ {us : List Nat}, (∀ v ∈ us, v ∈ vs) → L2.wipe (L2.wipe σ2 us) vs = L2.wipe σ2 vs := fun {us} => by
    induction us with
    | nil => intro _; rfl
    | cons u us ih =>
      intro h
      show L2.wipe ((L2.wipe σ2 us).set u none) vs = _
      rw [wipe_set (h u List.mem_cons_self), ih fun v hv => h v (List.mem_cons_of_mem _ hv)]
  refine ⟨fun i m H => m = ys.length - i ∧ i ≤ ys.length ∧ ∃ ac F' l', Same F F' ∧ Wst M F0 H0 (wipeS ss2 vs1) ((D, cL B ac) :: cs) (L2.wipe σ2 vs1) F' H ∧ compO f (ys.drop i) = some l' ∧ ac ++ l' = acc ++ l,
    ⟨_, rfl, Nat.zero_le _, acc, F, l, Same.refl F, hE.wipe vs1, hf, rfl⟩, ?_⟩
  rintro i m H1 ⟨rfl, hi, ac, F1, l', sm, w, q, el⟩
  obtain ⟨j1, j2⟩ := hJ ac F1 H1 sm w i
  by_cases hlt : i < ys.length
  · obtain ⟨go, yl⟩ := j1 hlt
    have ex : ys[i]? = some (ys[i]'hlt) := List.getElem?_eq_getElem hlt
    rw [List.drop_eq_getElem_cons hlt] at q
    obtain ⟨o, hb, q⟩ := bnd (m := f _) q
    obtain ⟨p, hp, q⟩ := bnd q
    have e1 : o.toList ++ p = l' := Option.some.inj q
    refine .inr ⟨go, CN M F0 H0 (wipeS ss2 vs1) (fun (_ : Unit) => cs) F (L2.wipe σ2 vs1) D B (ac ++ o.toList) (), fun H' ⟨F2, sm2, w2⟩ => ⟨_, by omega, rfl, hlt, ac ++ o.toList, F2, p, sm2, w2, hp, by rw [List.append_assoc, e1]; exact el⟩, fun x H'' y => ?_⟩
    obtain ⟨F2, x2, r2⟩ := yl x H'' y
    refine hs _ x o ac F2 H'' (sm.trans (x2 M.tl).ff) (r2 _ ex) (w.grow (x2 M.tl)) hb ?_ (wipe_wipe fun _ h => h)
    have := congrArg List.length el
    rw [← e1, List.length_append, List.length_append, List.length_append] at this
    omega
  · have e1 : i = ys.length := by omega
    rw [e1, List.drop_length] at q
    have e2 : ([] : List β) = l' := Option.some.inj q
    rw [← e2, List.append_nil] at el
    rw [el] at w
    have w := w.wipe vs
    rw [wipe2 hv, eσ, eS] at w
    exact .inl ⟨j2 (by omega), F1, smw.trans sm, w⟩
theorem w_skip2 {D : Addr} {ss ss2 : List Sa} {cs : List (Addr × Ca)} {F' : Hp} {σ2 σw : St} {vs : List Nat} {acc : List β} (h : Wst M F0 H0 ss2 ((D, cL B acc) :: cs) σ2 F' H) (sm : Same F F') (eσ : L2.wipe σ2 vs = σw) (eS : wipeS ss2 vs = ss) : CN M F0 H0 ss (fun (_ : Unit) => cs) F σw D B (acc ++ []) () H := by
  have w := h.wipe vs
  rw [eσ, eS] at w
  rw [List.append_nil]
  exact ⟨F', sm, w⟩
end
/-! ### mirrors: dicts of places -/
def dput {β : Type} (d : List (Nat × β)) (k : Nat) (v : β) : List (Nat × β) := if (d.any fun p => decide (p.1 = k)) = true then d.map (fun p => if p.1 = k then (p.1, v) else p) else d ++ [(k, v)]
def dget {β : Type} : List (Nat × β) → Nat → Option β
  | [], _ => none
  | p :: d, k => if p.1 = k then some p.2 else dget d k
section
variable {α β : Type} {B : Rep β}
def KvR (B : Rep β) (F : Hp) (kv : Key × V) (p : Nat × β) : Prop := kv.1 = (Sum.inl (p.1 : Int) : Key) ∧ B.r F kv.2 p.2
def cD (B : Rep β) (d : List (Nat × β)) : Ca := ⟨fun F o => ∃ kvs, o = .dK kvs ∧ A2 (KvR B F) kvs d, fun s ⟨kvs, e, h⟩ => ⟨kvs, e, h.imp fun _ _ ⟨h1, h2⟩ => ⟨h1, B.mono s h2⟩⟩, fun ⟨kvs, e, _⟩ => by subst e; exact ⟨(fun _ z => by cases z), (fun _ z => by cases z)⟩⟩
def rD (B : Rep β) : Rep (List (Nat × β)) := ⟨fun F v d => ∃ a kvs, v = .ref a ∧ F a = some (.dK kvs) ∧ A2 (KvR B F) kvs d, fun s ⟨a, kvs, e, h, q⟩ => ⟨a, kvs, e, s _ _ h, q.imp fun _ _ ⟨h1, h2⟩ => ⟨h1, B.mono s h2⟩⟩⟩
/-- a dict that can be read -/
def DVw (B : Rep β) (F H : Hp) (v : V) (d : List (Nat × β)) : Prop := ∃ a kvs, v = .ref a ∧ H a = some (.dK kvs) ∧ A2 (KvR B F) kvs d
variable {M : Mx} {F0 H0 F H : Hp} {ss : List Sa} {cs cs' : List (Addr × Ca)} {σ : St} {c : Addr} {k : Nat} {Q : VK} {v x : V} {d : List (Nat × β)} {n : Nat} {b : β} {P : Option V → Prop} {Pv : V → Prop}
theorem dw_f (s : Same F H) (r : (rD B).r F v d) : DVw B F H v d := by
  obtain ⟨a, kvs, e, h, q⟩ := r
  exact ⟨a, kvs, e, s _ _ h, q⟩
theorem dw_c (h : Wst M F0 H0 ss cs σ F H) (e : cs[k]? = some (c, cD B d)) : DVw B F H (.ref c) d := by
  obtain ⟨o, h1, kvs, rfl, q⟩ := h.cell e
  exact ⟨c, kvs, rfl, h1, q⟩
theorem dget_val {kvs : List (Key × V)} (h : A2 (KvR B F) kvs d) (n : Nat) : (dget d n = none ∧ valV kvs (Sum.inl (n : Int) : Key) = none) ∨ ∃ b x, dget d n = some b ∧ valV kvs (Sum.inl (n : Int) : Key) = some x ∧ B.r F x b := by
  induction h with
  | nil => exact .inl ⟨rfl, rfl⟩
  | @cons kv p kvs d r _ ih =>
    obtain ⟨k0, v0⟩ := kv
    obtain ⟨m, b0⟩ := p
    obtain ⟨h1, h2⟩ := r
    simp only at h1 h2
    subst h1
    by_cases e : m = n
    · subst e
      refine .inr ⟨b0, v0, ?_, ?_, h2⟩
      · unfold dget
        rw [if_pos rfl]
      · rw [valV_pos rfl]
    · have e1 : dget ((m, b0) :: d) n = dget d n := by
        conv => lhs; unfold dget
        rw [if_neg e]
      have e2 : valV ((Sum.inl (m : Int), v0) :: kvs) (Sum.inl (n : Int) : Key) = valV kvs (Sum.inl (n : Int) : Key) := valV_neg (fun z => e (by have := Sum.inl.inj z; omega))
      rw [e1, e2]
      exact ih
theorem w_dmem (r : DVw B F H v d) (q : ∀ o : Option V, o.isSome = (dget d n).isSome → P o) : ∃ a o, v = .ref a ∧ DGet H a (.int (n : Int)) o ∧ P o := by
  obtain ⟨a, kvs, rfl, h, hv⟩ := r
  refine ⟨a, _, rfl, DGet.k (k := Sum.inl (n : Int)) h, q _ ?_⟩
  rcases dget_val hv n with ⟨e1, e2⟩ | ⟨b, x, e1, e2, _⟩ <;> rw [e1, e2] <;> rfl
theorem w_dget (r : DVw B F H v d) (e : dget d n = some b) (q : ∀ x, B.r F x b → Pv x) : ∃ a x, v = .ref a ∧ DGet H a (.int (n : Int)) (some x) ∧ Pv x := by
  obtain ⟨a, kvs, rfl, h, hv⟩ := r
  rcases dget_val hv n with ⟨e1, _⟩ | ⟨b', x, e1, e2, r⟩
  · rw [e] at e1; cases e1
  · rw [e] at e1
    cases e1
    refine ⟨a, x, rfl, ?_, q x r⟩
    rw [← e2]
    exact DGet.k (k := Sum.inl (n : Int)) h
theorem kv_any {kvs : List (Key × V)} (h : A2 (KvR B F) kvs d) (n : Nat) : (kvs.any fun kv => decide (kv.1 = (Sum.inl (n : Int) : Key))) = d.any fun p => decide (p.1 = n) := by
  induction h with
  | nil => rfl
  | @cons kv p kvs d r _ ih =>
    rw [List.any_cons, List.any_cons, ih, r.1, dec_cast (p := (Sum.inl (p.1 : Int) : Key) = Sum.inl (n : Int)) (q := p.1 = n) ⟨fun z => by have := Sum.inl.inj z; omega, fun z => by rw [z]⟩]
theorem putK_rep {kvs : List (Key × V)} (h : A2 (KvR B F) kvs d) (r : B.r F x b) : A2 (KvR B F) (putK kvs (Sum.inl (n : Int) : Key) x) (dput d n b) := by
  unfold putK dput
  rw [kv_any h]
  split
  · rename_i z
    clear z
    induction h with
    | nil => exact .nil
    | @cons kv p kvs d r0 _ ih =>
      rw [List.map_cons, List.map_cons]
      refine .cons ?_ ih
      by_cases e : p.1 = n
      · rw [if_pos e, if_pos (by rw [r0.1, e])]
        exact ⟨r0.1, r⟩
      · rw [if_neg e, if_neg (by rw [r0.1]; exact fun z => e (by have := Sum.inl.inj z; omega))]
        exact r0
  · exact h.snoc ⟨rfl, r⟩
theorem w_dput {P : Hp → Prop} (h : Wst M F0 H0 ss cs σ F H) (e : cs[k]? = some (c, cD B d)) (z : d.length < 100000) (r : B.r F x b) (e2 : cs.set k (c, cD B (dput d n b)) = cs') (q : ∀ H', Wst M F0 H0 ss cs' σ F H' → P H') : ∃ a H4, V.ref c = .ref a ∧ DPut H a (.int (n : Int)) x H4 ∧ P H4 := by
  subst e2
  obtain ⟨o, h1, kvs, rfl, hv⟩ := h.cell e
  exact ⟨c, _, rfl, DPut.k (k := Sum.inl (n : Int)) h1 (sz_lt (by rw [hv.len]; exact z)), q _ (h.mut e ⟨_, rfl, putK_rep hv r⟩)⟩
theorem w_dnew (h : Wst M F0 H0 ss cs σ F H) (q : ∀ p H', H0 p = none → Wst M F0 H0 ss ((p, cD B []) :: cs) σ F H' → Q (.ref p) H') : tDNewK σ H Q := fun p hp => q p _ (h.own hp) (h.newC hp ⟨[], rfl, .nil⟩)
end
/-! ### mirrors: for .. else, break; what may be unset -/
def Stp.out {S T : Type} : Stp S T → T ⊕ S
  | .rt t => .inl t
  | .nx s => .inr s
  | .bk s => .inr s
def satO {α : Type} (R : Rep α) (o : Option α) : Sa := ⟨fun F ov => ∀ a, o = some a → ∃ v, ov = some v ∧ R.r F v a, fun s h a e => by
  obtain ⟨v, e1, r⟩ := h a e
  exact ⟨v, e1, R.mono s r⟩⟩
section
variable {M : Mx} {F0 H0 F H : Hp} {α S T : Type} {R : Rep α} {ss : List Sa} {cs : List (Addr × Ca)} {K : PySem.W.Frag} {σ : St} {xs : List α} {v : V} {g : TG} {tb u : TS} {nx : St → Hp → Prop} {rt : VK} {bk ct : St → Hp → Prop}
theorem Wst.toO {i : Nat} {a : α} {s : Sa} (h : Wst M F0 H0 ss cs σ F H) (e : ss[i]? = some (R.at a)) : Wst M F0 H0 (ss.set i (satO R (some a))) cs σ F H := h.retype e fun ov q b eb => by
  cases eb
  exact q
theorem Wst.toN {i : Nat} (R : Rep α) (h : Wst M F0 H0 ss cs σ F H) : Wst M F0 H0 (ss.set i (satO R none)) cs σ F H := by
  cases e : ss[i]? with
  | none =>
    rw [List.set_eq_of_length_le (List.getElem?_eq_none_iff.mp e)]
    exact h
  | some s => exact h.retype e fun _ _ a ea => by cases ea
theorem Wst.ofO {i : Nat} {a : α} {o : Option α} (h : Wst M F0 H0 ss cs σ F H) (e : ss[i]? = some (satO R o)) (eo : o = some a) : Wst M F0 H0 (ss.set i (R.at a)) cs σ F H := h.retype e fun ov q => q a eo
/-- for .. else -/
theorem w_forE {J : It} {body : S → α → Option (Stp S T)} {s0 : S} {e : Stp S T} (na : Nat) (ss : S → (Nat → Addr) → List Sa) (cs : S → (Nat → Addr) → List (Addr × Ca)) (hf : loopO body xs s0 = some e) (ad0 : Nat → Addr) (had : ∀ i, i < na → H0 (ad0 i) = none) (hE : Wst M F0 H0 (ss s0 ad0) (cs s0 ad0) σ F H)
    (hJ : ∀ s ad σ' F' H', Same F F' → Wst M F0 H0 (ss s ad) (cs s ad) σ' F' H' → JOk J R xs F' H')
    (hs : ∀ s ad x v o σ' F' H', (∀ i, i < na → H0 (ad i) = none) → Same F F' → R.r F' v x → Wst M F0 H0 (ss s ad) (cs s ad) σ' F' H' → body s x = some o → (∀ t, o = .rt t → e = .rt t) → (∀ t, o = .bk t → e = .bk t) →
      g v σ' H' fun σ2 H2 => tb ⟨fun σ3 H3 => ∃ s', o = .nx s' ∧ NX M F0 H0 na ss cs F s' σ3 H3, rt, nx, fun σ3 H3 => ∃ s', o = .nx s' ∧ NX M F0 H0 na ss cs F s' σ3 H3⟩ σ2 H2)
    (hd : ∀ s ad σ' F' H', e = .nx s → (∀ i, i < na → H0 (ad i) = none) → Same F F' → Wst M F0 H0 (ss s ad) (cs s ad) σ' F' H' → u ⟨nx, rt, bk, ct⟩ σ' H') : FWE J g tb u ⟨nx, rt, bk, ct⟩ σ H := by
  refine ⟨fun i m σ H => m = xs.length - i ∧ i ≤ xs.length ∧ ∃ s ad F', (∀ i, i < na → H0 (ad i) = none) ∧ Same F F' ∧ Wst M F0 H0 (ss s ad) (cs s ad) σ F' H ∧ loopO body (xs.drop i) s = some e, ⟨_, rfl, Nat.zero_le _, s0, ad0, F, had, Same.refl F, hE, hf⟩, ?_⟩
  rintro i m σ1 H1 ⟨rfl, hi, s, ad, F1, ha, sm, w, q⟩
  obtain ⟨j1, j2⟩ := hJ s ad σ1 F1 H1 sm w i
  by_cases hlt : i < xs.length
  · obtain ⟨go, yl⟩ := j1 hlt
    have ex : xs[i]? = some (xs[i]'hlt) := List.getElem?_eq_getElem hlt
    rw [List.drop_eq_getElem_cons hlt] at q
    obtain ⟨o, hb, q⟩ := bnd q
    refine .inr ⟨go, fun σ3 H3 => ∃ s', o = .nx s' ∧ NX M F0 H0 na ss cs F s' σ3 H3, fun σ' H' ⟨s', eo, ad2, F2, ha2, sm2, w2⟩ => ⟨_, by omega, rfl, hlt, s', ad2, F2, ha2, sm2, w2, by subst eo; exact q⟩, fun x H'' y => ?_⟩
    obtain ⟨F2, x2, r2⟩ := yl x H'' y
    exact hs s ad _ x o σ1 F2 H'' ha (sm.trans (x2 M.tl).ff) (r2 _ ex) (w.grow (x2 M.tl)) hb (fun t et => by subst et; exact (Option.some.inj q).symm) (fun t et => by subst et; exact (Option.some.inj q).symm)
  · have e1 : i = xs.length := by omega
    rw [e1, List.drop_length] at q
    exact .inl ⟨j2 (by omega), hd s ad σ1 F1 H1 (Option.some.inj q).symm ha sm w⟩
/-- pairs at once -/
theorem w_par {ss ss' : List Sa} {cs : List (Addr × Ca)} {i j : Nat} {ta : TA} {β : Type} {B : Rep β} (h : ta σ H fun vs H1 => ∃ v w, vs = [v, w] ∧ nx ((σ.set i (some v)).set j (some w)) H1) : tPar i j ta ⟨nx, rt, bk, ct⟩ σ H := h
theorem x_par {i j : Nat} {ta : TA} (h : ta σ H fun vs H1 => ∃ v w, vs = [v, w] ∧ nx ((σ.set i (some v)).set j (some w)) H1) : tPar i j ta ⟨nx, rt, bk, ct⟩ σ H := h
theorem w_par2 {ss ss' : List Sa} {cs : List (Addr × Ca)} {i j : Nat} {s1 s2 : Sa} {x y : V} (h : Wst M F0 H0 ss cs σ F H) (e : (ss.set i s1).set j s2 = ss') (r1 : s1.p F (some x)) (r2 : s2.p F (some y)) (q : ∀ σ', Wst M F0 H0 ss' cs σ' F H → nx σ' H) : ∃ v w, [x, y] = [v, w] ∧ nx ((σ.set i (some v)).set j (some w)) H := by
  subst e
  exact ⟨x, y, rfl, q _ ((h.setS r1 i).setS r2 j)⟩
theorem toNat_r {i : Int} (h : 0 ≤ i) : rN.r F (.int i) i.toNat := by
  show V.int i = V.int ((i.toNat : Nat) : Int)
  rw [Int.toNat_of_nonneg h]
/-- the script -/
def rScr (K : PySem.W.Frag) : Rep (List Int) := ⟨fun F v ns => ∃ a, v = .ref a ∧ SqL K F a (ns.map V.int), fun s ⟨a, e, h⟩ => ⟨a, e, s.seq h⟩⟩
theorem w_lenScr {ns : List Int} {Q : VK} (s : Same F H) (r : (rScr K).r F v ns) (q : Q (.int (ns.length : Int)) H) : rLen K [v] H Q := by
  obtain ⟨a, rfl, h⟩ := r
  refine x_lenS (s.seq h) ?_
  rw [List.length_map]
  exact q
theorem w_ixScr {ns : List Int} {Q : VK} {n : Nat} {i : Int} (s : Same F H) (r : (rScr K).r F v ns) (e : ns[n]? = some i) (q : Q (.int i) H) : rIxL K v (.int (n : Int)) H Q := by
  obtain ⟨a, rfl, h⟩ := r
  exact x_ixLs (s.seq h) (atI_nat (by rw [List.getElem?_map, e]; rfl)) q
end
section
variable {H : Hp} {Q : VK} {i j : Int}
theorem w_modI (z : 0 < j) (q : Q (.int (i % j)) H) : L2.rI (fun _ j => 0 < j) (fun i j => .int (i % j)) (.int i) (.int j) H Q := x_mod z q
theorem w_max2I (q : Q (.int (max i j)) H) : rMax2 [.int i, .int j] H Q := x_max2 (by
  have e : (if j > i then j else i) = max i j := by split <;> omega
  rw [e]; exact q)
theorem w_min2I (q : Q (.int (min i j)) H) : rMin2 [.int i, .int j] H Q := x_min2 (by
  have e : (if j < i then j else i) = min i j := by split <;> omega
  rw [e]; exact q)
end
def rAbs : List V → Hp → VK → Prop := fun xs H Q => ∃ n, xs = [.int n] ∧ Q (.int (if n < 0 then -n else n)) H
theorem cl_abs {X : Cx} : CallR X (.builtin "abs") rAbs := call_abs
theorem w_abs {H : Hp} {Q : VK} {i : Int} (q : Q (.int ((i.natAbs : Nat) : Int)) H) : rAbs [.int i] H Q := ⟨i, rfl, by
  have e : (if i < 0 then -i else i) = ((i.natAbs : Nat) : Int) := by split <;> omega
  rw [e]
  exact q⟩

def ad1 (a : Addr) : Nat → Addr := fun _ => a
def ad2 (a b : Addr) : Nat → Addr := fun i => if i = 0 then a else b
def ad3 (a b c : Addr) : Nat → Addr := fun i => if i = 0 then a else if i = 1 then b else c
theorem no_ad {H0 : Hp} {ad : Nat → Addr} : ∀ i, i < 0 → H0 (ad i) = none := fun i h => absurd h (Nat.not_lt_zero i)
theorem own1 {H0 : Hp} {a : Addr} (h : H0 a = none) : ∀ i, i < 1 → H0 (ad1 a i) = none := fun _ _ => h
theorem own2 {H0 : Hp} {a b : Addr} (h : H0 a = none) (h2 : H0 b = none) : ∀ i, i < 2 → H0 (ad2 a b i) = none := fun i _ => by
  unfold ad2
  split <;> assumption
theorem own3 {H0 : Hp} {a b c : Addr} (h : H0 a = none) (h2 : H0 b = none) (h3 : H0 c = none) : ∀ i, i < 3 → H0 (ad3 a b c i) = none := fun i _ => by
  unfold ad3
  split
  · assumption
  · split <;> assumption
def adZ : Nat → Addr := fun _ => mainGlobals
theorem erase_permA {α : Type} : ∀ {l : List α} {j : Nat} {y : α}, l[j]? = some y → (y :: l.eraseIdx j).Perm l
  | [], _, _, h => by simp at h
  | a :: r, 0, y, h => by
    have e : a = y := Option.some.inj h
    subst e
    exact List.Perm.refl _
  | a :: r, j + 1, y, h => by
    have ih := erase_permA (l := r) (j := j) (y := y) h
    exact (List.Perm.swap a y (r.eraseIdx j)).trans (ih.cons a)
theorem Wst.front {M : Mx} {F0 H0 F H : Hp} {ss : List Sa} {cs : List (Addr × Ca)} {σ : St} {k : Nat} {p : Addr × Ca} (h : Wst M F0 H0 ss cs σ F H) (e : cs[k]? = some p) : Wst M F0 H0 ss (p :: cs.eraseIdx k) σ F H := by
  have pm : (p :: cs.eraseIdx k).Perm cs := erase_permA e
  exact ⟨h.ex, h.sl, fun x hx => h.cl x (pm.mem_iff.mp hx), ((pm.map (·.1)).nodup_iff).mpr h.nd⟩
/-! ### mirrors: pop, least, index, borrowed cells, data, two ways -/
theorem A2.dropL {α β : Type} {R : α → β → Prop} {as : List α} {bs : List β} (h : A2 R as bs) : A2 R as.dropLast bs.dropLast := by
  rw [List.dropLast_eq_take, List.dropLast_eq_take, h.len]
  exact h.takeT _
def popO {α : Type} (l : List α) : Option α := l[l.length - 1]?
section
variable {M : Mx} {F0 H0 F H F' H' : Hp} {ss ss' : List Sa} {cs cs' : List (Addr × Ca)} {σ : St} {c : Addr} {A A' : Ca} {k i : Nat} {α β γ : Type} {R : Rep α} {S : Rep β} {T : Rep γ} {a b : α} {l l' : List α} {Q : VK} {K : PySem.W.Frag} {v x y z : V} {n m : Nat}
theorem w_popL (h : Wst M F0 H0 ss cs σ F H) (e : cs[k]? = some (c, cL R l)) (e1 : popO l = some a) (e2 : cs.set k (c, cL R l.dropLast) = cs') (q : ∀ x H', R.r F x a → Wst M F0 H0 ss cs' σ F H' → Q x H') : rPop (.ref c) [] H Q := by
  subst e2
  obtain ⟨o, h1, vs, rfl, hv⟩ := h.cell e
  obtain ⟨x, hx, rx⟩ := hv.getB e1
  exact ⟨c, vs, x, rfl, rfl, h1, by rw [hv.len]; exact hx, q x _ rx (h.mut e ⟨_, rfl, hv.dropL⟩)⟩
theorem w_minL {l : List Nat} (r : LV rN F H v l) (e : l.min? = some m) (q : Q (.int (m : Int)) H) : rMin K [v] H Q := by
  obtain ⟨p, vs, rfl, hp, hv⟩ := r
  rw [a2_nvN hv] at hp
  obtain ⟨m1, m2⟩ := List.min?_eq_some_iff.mp e
  refine ⟨p, l.map Int.ofNat, rfl, ?_, ?_, fun k hk hy => ?_⟩
  · rw [List.map_map]
    exact sq_l hp
  · rw [List.length_map]
    exact List.length_pos_of_mem m1
  · obtain ⟨j, hj, rfl⟩ := List.mem_map.mp hk
    have h1 := hy _ (List.mem_map.mpr ⟨m, m1, rfl⟩)
    have h2 := m2 j hj
    have e1 : (j : Nat) = m := by
      have : (j : Int) ≤ (m : Int) := h1
      omega
    rw [e1]
    exact q
theorem w_maxL {l : List Nat} (r : LV rN F H v l) (e : l.max? = some m) (q : Q (.int (m : Int)) H) : rMax K [v] H Q := by
  obtain ⟨p, vs, rfl, hp, hv⟩ := r
  rw [a2_nvN hv] at hp
  obtain ⟨m1, m2⟩ := List.max?_eq_some_iff.mp e
  refine ⟨p, l.map Int.ofNat, rfl, ?_, ?_, fun k hk hy => ?_⟩
  · rw [List.map_map]
    exact sq_l hp
  · rw [List.length_map]
    exact List.length_pos_of_mem m1
  · obtain ⟨j, hj, rfl⟩ := List.mem_map.mp hk
    have h1 := hy _ (List.mem_map.mpr ⟨m, m1, rfl⟩)
    have h2 := m2 j hj
    have e1 : (j : Nat) = m := by
      have : (m : Int) ≤ (j : Int) := h1
      omega
    rw [e1]
    exact q
theorem sum_ofNat (l : List Nat) : (l.map Int.ofNat).sum = ((l.sum : Nat) : Int) := by
  induction l with
  | nil => rfl
  | cons x r ih => rw [List.map_cons, List.sum_cons, ih, List.sum_cons]; rfl
theorem w_sumL {l : List Nat} (r : LV rN F H v l) (q : Q (.int ((l.sum : Nat) : Int)) H) : rSum K [v] H Q := by
  obtain ⟨p, vs, rfl, hp, hv⟩ := r
  rw [a2_nvN hv] at hp
  refine ⟨p, l.map Int.ofNat, rfl, ?_, ?_⟩
  · rw [List.map_map]
    exact sq_l hp
  · rw [sum_ofNat]
    exact q
def idxO (l : List Nat) (n : Nat) : Option Nat := if n ∈ l then some (l.idxOf n) else none
theorem w_idx {l : List Nat} (r : LV rN F H v l) (e : idxO l n = some m) (q : Q (.int (m : Int)) H) : rIndex K v [.int (n : Int)] H Q := by
  obtain ⟨p, vs, rfl, hp, hv⟩ := r
  rw [a2_nvN hv] at hp
  unfold idxO at e
  split at e
  · rename_i hm
    have e := Option.some.inj e
    subst e
    have hl := List.idxOf_lt_length_iff.mpr hm
    refine ⟨p, nv l, .int (n : Int), l.idxOf n, .int (n : Int), rfl, rfl, sq_l hp, rfl, ?_, ?_, ?_, fun j z' hj hz => ?_, q⟩
    · rw [List.all_eq_true]
      intro x hx
      obtain ⟨k, _, rfl⟩ := List.mem_map.mp hx
      rfl
    · show (nv l)[_]? = _
      unfold nv
      rw [List.getElem?_map, List.getElem?_eq_getElem hl, List.getElem_idxOf hl]
      rfl
    · show ((n : Int) == (n : Int)) = true
      exact beq_self_eq_true _
    · have hjl : j < l.length := by omega
      unfold nv at hz
      rw [List.getElem?_map, List.getElem?_eq_getElem hjl] at hz
      cases hz
      show ((l[j] : Int) == (n : Int)) = false
      rw [beq_eq_false_iff_ne]
      intro e2
      have e3 : l[j] = n := by omega
      have e4 := List.not_of_lt_findIdx (p := (· == n)) (xs := l) (i := j) hj
      rw [e3, beq_self_eq_true] at e4
      cases e4
  · cases e
/-- a cell that is only looked at by a callee -/
theorem Wst.borrow (h : Wst M F0 H0 ss cs σ F H) (e : cs[k]? = some (c, cL R l)) : ∃ Fz, Same F Fz ∧ (Same Fz H ∧ NoT Fz) ∧ (rL R).r Fz (.ref c) l ∧ (∀ a, F a = none → a ≠ c → Fz a = none) ∧
    ∀ N F' H', Ext N Fz H F' H' → ∃ F2, Ext N F H F2 H' ∧ Same F2 F' ∧ ∀ a, F' a = none → F2 a = none := by
  obtain ⟨o, hc, vs, rfl, hv⟩ := h.cell e
  have fc := h.apart e
  have sf : Same F (upd F c (.lst vs)) := same_new fc
  refine ⟨upd F c (.lst vs), sf, ⟨fun b x q => ?_, h.nt.upd (fun _ z => by cases z)⟩, ⟨c, vs, rfl, upd_same, hv.imp fun _ _ => R.mono sf⟩, fun a ha ne => by rw [upd_ne ne]; exact ha, fun N F' H' x => ⟨fun a => if a = c then none else F' a, ⟨fun a o q => ?_, fun a o q => ?_, x.hh, fun a q n => ?_, x.dm, fun a ps q => ?_, x.tb⟩, fun a o q => ?_, fun a q => ?_⟩⟩
  · by_cases z : b = c
    · subst z
      rw [upd_same] at q
      rw [← q]
      exact hc
    · rw [upd_ne z] at q
      exact h.fh b x q
  · have ne : a ≠ c := fun z => by rw [z, fc] at q; cases q
    show (if a = c then none else F' a) = _
    rw [if_neg ne]
    exact x.ff _ _ (sf _ _ q)
  · have q : (if a = c then none else F' a) = some o := q
    split at q
    · cases q
    · exact x.fh _ _ q
  · show (if a = c then none else F' a) = none
    split
    · rfl
    · rename_i ne
      exact x.ap a (by rw [upd_ne ne]; exact q) n
  · have q : (if a = c then none else F' a) = some (.tbl ps) := q
    split at q
    · cases q
    · exact x.nt a ps q
  · have q : (if a = c then none else F' a) = some o := q
    split at q
    · cases q
    · exact q
  · show (if a = c then none else F' a) = none
    split
    · rfl
    · exact q
/-- what needs no heap -/
def Flat (R : Rep α) : Prop := ∀ F F' v a, R.r F v a → R.r F' v a
theorem fl_N : Flat rN := fun _ _ _ _ h => h
theorem fl_Z : Flat rZ := fun _ _ _ _ h => h
theorem fl_B : Flat rB := fun _ _ _ _ h => h
theorem fl_S : Flat rSt := fun _ _ _ _ h => h
theorem fl_U : Flat rNo := fun _ _ _ _ h => h
theorem fl_O (f : Flat R) : Flat (rO R) := fun F F' v a h => by
  cases a with
  | none => exact h
  | some x => exact f F F' v x h
theorem flat_cl (f : Flat R) {G G' : Hp} {h : Option HO} (q : ∃ o, h = some o ∧ (cL R l).p G o) : ∃ o, h = some o ∧ (cL R l).p G' o := by
  obtain ⟨o, e, vs, e2, hv⟩ := q
  exact ⟨o, e, vs, e2, hv.imp fun v a => f G G' v a⟩
end
/-- two ways by an optional value -/
def optE {α β : Type} : Option α → β → (α → β) → β
  | none, b, _ => b
  | some a, _, f => f a
theorem optE_go {α β : Type} {o : Option α} {A : Option β} {B : α → Option β} {r : β} {P : Prop} (h : optE o A B = some r) (s : ∀ z, o = some z → B z = some r → P) (n : o = none → A = some r → P) : P := by
  cases o with
  | none => exact n rfl h
  | some a => exact s a rfl h
/-! values of any kind -/
mutual
/-- what a value of any kind stands for -/
inductive DR (F : Hp) : V → PyData → Prop
  | non : DR F .non .none
  | bl (b : Bool) : DR F (.bl b) (.bool b)
  | int (i : Int) : DR F (.int i) (.int i)
  | str (x : Str) : DR F (.str x) (.str x)
  | lst {a : Addr} {xs : List V} {ds : List PyData} : F a = some (.lst xs) → DRs F xs ds → DR F (.ref a) (.list ds)
  | tup {a : Addr} {xs : List V} {ds : List PyData} : F a = some (.tup xs) → DRs F xs ds → DR F (.ref a) (.tuple ds)
inductive DRs (F : Hp) : List V → List PyData → Prop
  | nil : DRs F [] []
  | cons {v : V} {vs : List V} {d : PyData} {ds : List PyData} : DR F v d → DRs F vs ds → DRs F (v :: vs) (d :: ds)
end
mutual
theorem dr_mono {F F' : Hp} (s : Same F F') : ∀ (d : PyData) (v : V), DR F v d → DR F' v d
  | .none, _, h => by cases h; exact .non
  | .bool b, _, h => by cases h; exact .bl b
  | .int i, _, h => by cases h; exact .int i
  | .str x, _, h => by cases h; exact .str x
  | .list ds, _, h => by
    cases h with
    | lst h1 h2 => exact .lst (s _ _ h1) (dr_monos s ds _ h2)
  | .tuple ds, _, h => by
    cases h with
    | tup h1 h2 => exact .tup (s _ _ h1) (dr_monos s ds _ h2)
  | .dict _, _, h => by cases h
theorem dr_monos {F F' : Hp} (s : Same F F') : ∀ (ds : List PyData) (vs : List V), DRs F vs ds → DRs F' vs ds
  | [], _, h => by cases h; exact .nil
  | d :: ds, _, h => by
    cases h with
    | cons h1 h2 => exact .cons (dr_mono s d _ h1) (dr_monos s ds _ h2)
end
mutual
theorem dr_dp {K : PySem.W.Frag} {F : Hp} : ∀ (d : PyData) (v : V), DR F v d → Dp K F v d
  | .none, _, h => by cases h; exact .non
  | .bool b, _, h => by cases h; exact .bl b
  | .int i, _, h => by cases h; exact .int i
  | .str x, _, h => by cases h; exact .str x
  | .list ds, _, h => by
    cases h with
    | lst h1 h2 => exact .lst (sq_l h1) (dr_dps ds _ h2)
  | .tuple ds, _, h => by
    cases h with
    | tup h1 h2 => exact .tup (sq_t h1) (dr_dps ds _ h2)
  | .dict _, _, h => by cases h
theorem dr_dps {K : PySem.W.Frag} {F : Hp} : ∀ (ds : List PyData) (vs : List V), DRs F vs ds → DpAll K F vs ds
  | [], _, h => by cases h; exact .nil
  | d :: ds, _, h => by
    cases h with
    | cons h1 h2 => exact .cons (dr_dp d _ h1) (dr_dps ds _ h2)
end
def rP : Rep PyData := ⟨fun F v d => DR F v d, fun s h => dr_mono s _ _ h⟩
theorem drs_a2 {F : Hp} : ∀ {vs : List V} {ds : List PyData}, DRs F vs ds → A2 (rP.r F) vs ds
  | _, [], h => by cases h; exact .nil
  | _, d :: ds, h => by
    cases h with
    | cons h1 h2 => exact .cons h1 (drs_a2 h2)
theorem a2_drs {F : Hp} {vs : List V} {ds : List PyData} (h : A2 (rP.r F) vs ds) : DRs F vs ds := by
  induction h with
  | nil => exact .nil
  | cons r _ ih => exact .cons r ih
/-- to data -/
structure Cvt {α : Type} (R : Rep α) where
  d : α → PyData
  dp : ∀ {F : Hp} {v : V} {a : α}, R.r F v a → rP.r F v (d a)
section
variable {α β γ : Type} {R : Rep α} {S : Rep β} {T : Rep γ}
def cvN : Cvt rN := ⟨fun n => .int (n : Int), fun r => by rw [show _ = _ from r]; exact DR.int _⟩
def cvZ : Cvt rZ := ⟨.int, fun r => by rw [show _ = _ from r]; exact DR.int _⟩
def cvB : Cvt rB := ⟨.bool, fun r => by rw [show _ = _ from r]; exact DR.bl _⟩
def cvS : Cvt rSt := ⟨.str, fun r => by rw [show _ = _ from r]; exact DR.str _⟩
def cvU : Cvt rNo := ⟨fun _ => .none, fun r => by rw [show _ = _ from r]; exact DR.non⟩
def cvP : Cvt rP := ⟨id, fun r => r⟩
theorem cv_all (D : Cvt R) {F : Hp} {vs : List V} {l : List α} (h : A2 (R.r F) vs l) : DRs F vs (l.map D.d) := by
  induction h with
  | nil => exact .nil
  | cons r _ ih => exact .cons (D.dp r) ih
def cvL (D : Cvt R) : Cvt (rL R) := ⟨fun l => .list (l.map D.d), fun r => by
  obtain ⟨p, vs, rfl, hp, hv⟩ := r
  exact DR.lst hp (cv_all D hv)⟩
def cvT2 (D : Cvt R) (E : Cvt S) : Cvt (rT2 R S) := ⟨fun p => .tuple [D.d p.1, E.d p.2], fun r => by
  obtain ⟨t, x, y, rfl, ht, r1, r2⟩ := r
  exact DR.tup ht (.cons (D.dp r1) (.cons (E.dp r2) .nil))⟩
def cvT3 (D : Cvt R) (E : Cvt S) (G : Cvt T) : Cvt (rT3 R S T) := ⟨fun p => .tuple [D.d p.1, E.d p.2.1, G.d p.2.2], fun r => by
  obtain ⟨t, x, y, z, rfl, ht, r1, r2, r3⟩ := r
  exact DR.tup ht (.cons (D.dp r1) (.cons (E.dp r2) (.cons (G.dp r3) .nil)))⟩
def cvO (D : Cvt R) : Cvt (rO R) := ⟨fun o => match o with | none => .none | some a => D.d a, fun {F v a} r => by
  cases a with
  | none => rw [show v = _ from r]; exact DR.non
  | some x => exact D.dp (F := F) (v := v) (a := x) r⟩
/-- parts of a pair as more -/
theorem rt2_imp {F : Hp} {v : V} {p : α × β} {α' β' : Type} {R' : Rep α'} {S' : Rep β'} {f : α → α'} {g : β → β'} (h : (rT2 R S).r F v p) (h1 : ∀ x a, R.r F x a → R'.r F x (f a)) (h2 : ∀ x a, S.r F x a → S'.r F x (g a)) : (rT2 R' S').r F v (f p.1, g p.2) := by
  obtain ⟨t, x, y, rfl, ht, r1, r2⟩ := h
  exact ⟨t, x, y, rfl, ht, h1 _ _ r1, h2 _ _ r2⟩
end
def dtON : Dat (rO rN) where
  d o := match o with | none => .none | some n => .int (n : Int)
  dp {K F H v a} s r := by
    cases a with
    | none => rw [show v = _ from r]; exact .non
    | some n => rw [show v = _ from r]; exact .int _
  inj a b := by
    cases a <;> cases b <;> simp [PyData.eqv] <;> omega
  lay a := by cases a <;> rfl
  n := 0
  dep a := by cases a <;> exact Nat.le_refl _
section
variable {a b : Nat} {H : Hp} {Q : VK}
theorem w_mulW (z : a < 2 ^ 140 ∧ b < 2 ^ 140) (q : Q (.int ((a * b : Nat) : Int)) H) : rI CMulW (fun i j => .int (i * j)) (.int (a : Int)) (.int (b : Int)) H Q := x_I (wide_mul (a := 140) (b := 140) (by omega) (by omega) (by decide) (by decide) (by decide)) (by rw [← Int.natCast_mul]; exact q)
theorem w_max0 (q : Q (.int ((a - b : Nat) : Int)) H) : rMax2 [.int 0, .int ((a : Int) - (b : Int))] H Q := x_max2 (by
  have e : (if ((a : Int) - (b : Int)) > 0 then ((a : Int) - (b : Int)) else 0) = ((a - b : Nat) : Int) := by split <;> omega
  rw [e]; exact q)
end
section
variable {P : Program} {w : World} {K : PySem.W.Frag} {mg : Str → Option Value} {base : Heap}
theorem Cal.imp {CX : CXT} {k : Nat} {x : Str} {sp sp' : Sp} (c : Cal P w K mg base CX k x sp) (h : ∀ vs H Q E, sp' vs H Q E → sp vs H Q E) : Cal P w K mg base CX k x sp' := by
  obtain ⟨f, fd, ps, F, m, kp, b⟩ := c.ex
  exact ⟨f, fd, ps, F.imp h, m, kp, b⟩
end
theorem w_tyF {α : Type} {R : Rep α} {F H : Hp} {v : V} {l : List α} {P : Prop} {K : PySem.W.Frag} (r : LV R F H v l) (q : P) : tyV K "list" v H ∧ P := by
  obtain ⟨p, vs, rfl, hp, _⟩ := r
  exact x_tyL hp q
section
variable {v : V} {H : Hp} {Q : VK}
theorem w_isNx (e : v ≠ .non) (q : Q (.bl false) H) : rIsN v .non H Q := ⟨rfl, by rw [decide_eq_false e]; exact q⟩
theorem w_isnotNx (e : v ≠ .non) (q : Q (.bl true) H) : rNoN v .non H Q := ⟨rfl, by rw [decide_eq_false e]; exact q⟩
theorem w_isN0 (q : Q (.bl true) H) : rIsN .non .non H Q := ⟨rfl, by rw [decide_eq_true rfl]; exact q⟩
theorem w_isnotN0 (q : Q (.bl false) H) : rNoN .non .non H Q := ⟨rfl, by rw [decide_eq_true rfl]; exact q⟩
end
theorem optE_s {α β : Type} {o : Option α} {A r : β} {B : α → β} {z : α} (h : optE o A B = r) (e : o = some z) : B z = r := by subst e; exact h
theorem optE_n {α β : Type} {o : Option α} {A r : β} {B : α → β} (h : optE o A B = r) (e : o = none) : A = r := by subst e; exact h
theorem ro_s {α : Type} {R : Rep α} {F : Hp} {v : V} {o : Option α} {z : α} (r : (rO R).r F v o) (e : o = some z) : R.r F v z := by subst e; exact r
theorem ro_n {α : Type} {R : Rep α} {F : Hp} {v : V} {o : Option α} (r : (rO R).r F v o) (e : o = none) : v = .non := by subst e; exact r
theorem a2_ov {F : Hp} {vs : List V} {l : List (Option Nat)} (h : A2 ((rO rN).r F) vs l) : vs = l.map fun o => match o with | none => V.non | some n => V.int (n : Int) := by
  induction h with
  | nil => rfl
  | @cons v o _ _ r _ ih =>
    rw [ih]
    cases o with
    | none => rw [show v = _ from r]; rfl
    | some n => rw [show v = _ from r]; rfl
theorem ov_flat (l : List (Option Nat)) : (l.map fun o => match o with | none => V.non | some n => V.int (n : Int)).all flatV = true := by
  rw [List.all_eq_true]
  intro x hx
  obtain ⟨o, _, rfl⟩ := List.mem_map.mp hx
  cases o <;> rfl
theorem memD_mem {α : Type} [DecidableEq α] {a : α} {l : List α} : memD a l = true ↔ a ∈ l := by
  unfold memD
  exact decide_eq_true_iff
theorem ov_in (n : Nat) (l : List (Option Nat)) : inV (.int (n : Int)) (l.map fun o => match o with | none => V.non | some n => V.int (n : Int)) = memD (some n) l := by
  unfold inV
  rw [List.any_map, Bool.eq_iff_iff, List.any_eq_true, memD_mem]
  constructor
  · rintro ⟨o, ho, e⟩
    cases o with
    | none => cases e
    | some m =>
      have e : ((m : Int) == (n : Int)) = true := e
      rw [beq_iff_eq] at e
      have e : m = n := by omega
      rw [e] at ho
      exact ho
  · intro h
    exact ⟨_, h, beq_self_eq_true (n : Int)⟩
section
variable {F H : Hp} {v : V} {Q : VK} {K : PySem.W.Frag} {n : Nat} {l : List (Option Nat)}
theorem w_inO (r : LV (rO rN) F H v l) (q : Q (.bl (memD (some n) l)) H) : rIn K false (.int (n : Int)) v H Q := by
  obtain ⟨p, vs, rfl, hp, hv⟩ := r
  rw [a2_ov hv] at hp
  refine x_in hp rfl (ov_flat l) ?_
  rw [ov_in]
  exact q
theorem w_ninO (r : LV (rO rN) F H v l) (q : Q (.bl (!memD (some n) l)) H) : rIn K true (.int (n : Int)) v H Q := by
  obtain ⟨p, vs, rfl, hp, hv⟩ := r
  rw [a2_ov hv] at hp
  refine x_nin hp rfl (ov_flat l) ?_
  rw [ov_in]
  exact q
end
/-! range from .. to as a list, clear, reverse -/
theorem x_tRg2 {ta tb : TE} {σ : St} {H : Hp} {Qr : Int → Int → Hp → Prop} (h : ta σ H fun x H1 => tb σ H1 fun y H2 => ∃ i j, x = .int i ∧ y = .int j ∧ Qr i j H2) : tRg2 ta tb σ H Qr := h
theorem x_rgN2 {M N : Int} {Qr : Int → Int → Prop} (h : Qr M N) : ∃ i j, V.int M = .int i ∧ V.int N = .int j ∧ Qr i j := ⟨M, N, rfl, rfl, h⟩
theorem rg_nv2 (a b : Nat) : rgV (a : Int) (b : Int) = nv ((List.range (b - a)).map fun k => a + k) := by
  unfold rgV nv
  rw [List.map_map, show ((b : Int) - (a : Int)).toNat = b - a by omega]
  refine List.map_congr_left fun i _ => ?_
  show V.int ((a : Int) + (i : Int)) = V.int (((a + i : Nat) : Int))
  rw [Int.natCast_add]
section
variable {M : Mx} {F0 H0 F H : Hp} {ss : List Sa} {cs cs' : List (Addr × Ca)} {σ : St} {c : Addr} {k : Nat} {α : Type} {R : Rep α} {l : List α} {Q : VK} {n m : Nat}
theorem w_lrg2F (h : Wst M F0 H0 ss cs σ F H) (z : n ≤ 100000 ∧ m ≤ 100000) (q : ∀ v F' H', Same F F' → Wst M F0 H0 ss cs σ F' H' → (rL rN).r F' v ((List.range (m - n)).map fun k => n + k) → Q v H') : NewR (n : Int) (m : Int) H Q :=
  show RgOk (n : Int) (m : Int) ∧ _ from ⟨RgOk.of_le (by omega) (by omega) (by omega) (by omega), by rw [rg_nv2]; exact (w_newF h (nvN_a2 _) q)⟩
theorem w_lrg2C (h : Wst M F0 H0 ss cs σ F H) (z : n ≤ 100000 ∧ m ≤ 100000) (q : ∀ p H', H0 p = none → Wst M F0 H0 ss ((p, cL rN ((List.range (m - n)).map fun k => n + k)) :: cs) σ F H' → Q (.ref p) H') : NewR (n : Int) (m : Int) H Q :=
  show RgOk (n : Int) (m : Int) ∧ _ from ⟨RgOk.of_le (by omega) (by omega) (by omega) (by omega), by rw [rg_nv2]; exact (w_newC h (nvN_a2 _) q)⟩
theorem w_clear (h : Wst M F0 H0 ss cs σ F H) (e : cs[k]? = some (c, cL R l)) (e2 : cs.set k (c, cL R []) = cs') (q : ∀ H', Wst M F0 H0 ss cs' σ F H' → Q .non H') : rClear (.ref c) [] H Q := by
  subst e2
  obtain ⟨o, h1, vs, rfl, hv⟩ := h.cell e
  exact x_clear h1 (q _ (h.mut e ⟨_, rfl, .nil⟩))
theorem w_reverse (h : Wst M F0 H0 ss cs σ F H) (e : cs[k]? = some (c, cL R l)) (e2 : cs.set k (c, cL R l.reverse) = cs') (q : ∀ H', Wst M F0 H0 ss cs' σ F H' → Q .non H') : rReverse (.ref c) [] H Q := by
  subst e2
  obtain ⟨o, h1, vs, rfl, hv⟩ := h.cell e
  exact x_rev h1 (q _ (h.mut e ⟨_, rfl, hv.rev⟩))
end
theorem w_insert {M : Mx} {F0 H0 F H : Hp} {ss : List Sa} {cs cs' : List (Addr × Ca)} {σ : St} {c : Addr} {k : Nat} {α : Type} {R : Rep α} {l : List α} {Q : VK} {n : Nat} {x : V} {a : α} (h : Wst M F0 H0 ss cs σ F H) (e : cs[k]? = some (c, cL R l)) (z : l.length < 100000 ∧ n ≤ 100000) (r : R.r F x a) (e2 : cs.set k (c, cL R (l.take n ++ [a] ++ l.drop n)) = cs') (q : ∀ H', Wst M F0 H0 ss cs' σ F H' → Q .non H') :
    ∃ (p : Addr) (xs : List V) (i : Int) (y : V), V.ref c = .ref p ∧ [V.int (n : Int), x] = [.int i, y] ∧ H p = some (.lst xs) ∧ xs.length < sizeLine ∧ 0 ≤ i ∧ i < 2 ^ 63 ∧ Q .non (upd H p (.lst (xs.take i.toNat ++ [y] ++ xs.drop i.toNat))) := by
  subst e2
  obtain ⟨o, h1, vs, rfl, hv⟩ := h.cell e
  refine ⟨c, vs, (n : Int), x, rfl, rfl, h1, sz_lt (by rw [hv.len]; exact z.1), by omega, by omega, q _ (h.mut e ⟨_, rfl, ?_⟩)⟩
  rw [Int.toNat_natCast]
  exact ((hv.takeT n).app (.cons r .nil)).app (hv.dropT n)
/-- a new list, or None -/
abbrev OptC {α : Type} (N : Mx) (F H : Hp) (R : Rep α) (rr : Option (List α)) (Q : VK) : Prop := (∀ l, rr = some l → ∀ D F' H', Ext N F H F' H' → H D = none → F' D = none → (∃ o, H' D = some o ∧ (cL R l).p F' o) → Q (.ref D) H') ∧ (rr = none → ∀ F' H', Ext N F H F' H' → Q .non H')
/-! ### mirrors: values of any kind, looked at -/
def rIxP (K : PySem.W.Frag) : R2 := fun x y H Q => rIxL K x y H Q ∨ rIxT K x y H Q
theorem ix_p (K : PySem.W.Frag) {X : Cx} (hK : X.K = K := by rfl) : IxR X (rIxP K) := by subst hK; exact IxR.or ix_list ix_tup
def kndP : PyData → String
  | .none => "NoneType"
  | .bool _ => "bool"
  | .int _ => "int"
  | .str _ => "str"
  | .list _ => "list"
  | .tuple _ => "tuple"
  | .dict _ => "dict"
def lenP : PyData → Option Nat
  | .list l => some l.length
  | .tuple l => some l.length
  | _ => none
def asI : PyData → Option Int
  | .int i => some i
  | _ => none
def asN : PyData → Option Nat
  | .int i => if 0 ≤ i then some i.toNat else none
  | _ => none
def asL : PyData → Option (List PyData)
  | .list l => some l
  | _ => none
def asT : PyData → Option (List PyData)
  | .tuple l => some l
  | _ => none
def asT2 : PyData → Option (PyData × PyData)
  | .tuple [a, b] => some (a, b)
  | _ => none
def ixP (d : PyData) (n : Nat) : Option PyData := match d with
  | .list l => l[n]?
  | .tuple l => l[n]?
  | _ => none
section
variable {F H : Hp} {v x : V} {d e : PyData} {Q : VK} {K : PySem.W.Frag} {σ : St} {n : Nat}
theorem kn_p (s : Same F H) (r : rP.r F v d) : Knd K H v (kndP d) := by
  cases r with
  | non => exact knd_non
  | bl b => exact knd_bl b
  | int i => exact knd_int i
  | str z => exact knd_str z
  | lst h _ => exact knd_lst (s _ _ h)
  | tup h _ => exact knd_tup (s _ _ h)
theorem w_lenP (s : Same F H) (r : rP.r F v d) (h : lenP d = some n) (q : Q (.int (n : Int)) H) : rLen K [v] H Q := by
  cases r with
  | lst h1 h2 =>
    cases h
    refine x_len (s _ _ h1) ?_
    rw [(drs_a2 h2).len]
    exact q
  | tup h1 h2 =>
    cases h
    refine x_lenT (s _ _ h1) ?_
    rw [(drs_a2 h2).len]
    exact q
  | _ => cases h
theorem w_ixP (s : Same F H) (r : rP.r F v d) (h : ixP d n = some e) (q : ∀ y, rP.r F y e → Q y H) : rIxP K v (.int (n : Int)) H Q := by
  cases r with
  | lst h1 h2 =>
    obtain ⟨y, hy, ry⟩ := (drs_a2 h2).getB h
    exact .inl (x_ixL (s _ _ h1) (atI_nat hy) (q y ry))
  | tup h1 h2 =>
    obtain ⟨y, hy, ry⟩ := (drs_a2 h2).getB h
    exact .inr (x_ixT (s _ _ h1) (atI_nat hy) (q y ry))
  | _ => cases h
theorem asI_v {i : Int} (r : rP.r F v d) (h : asI d = some i) : v = .int i := by
  cases r <;> cases h
  rfl
theorem asN_v (r : rP.r F v d) (h : asN d = some n) : v = .int (n : Int) := by
  cases r with
  | int i =>
    have h : (if 0 ≤ i then some i.toNat else none) = some n := h
    split at h
    · rename_i z
      rw [← Option.some.inj h, Int.toNat_of_nonneg z]
    · cases h
  | _ => cases h
theorem asL_r {l : List PyData} (r : rP.r F v d) (h : asL d = some l) : (rL rP).r F v l := by
  cases r <;> cases h
  rename_i h1 h2
  exact ⟨_, _, rfl, h1, drs_a2 h2⟩
theorem asT2_r {p : PyData × PyData} (r : rP.r F v d) (h : asT2 d = some p) : (rT2 rP rP).r F v p := by
  cases r with
  | @tup a xs ds h1 h2 =>
    match ds, h, h2 with
    | [a, b], h, .cons r1 (.cons r2 .nil) =>
      cases h
      exact ⟨_, _, _, rfl, h1, r1, r2⟩
  | _ => cases h
theorem w_isP (r : rP.r F v d) (q : Q (.bl (kndP d == "NoneType")) H) : rIsN v .non H Q := ⟨rfl, by
  cases r <;> exact q⟩
theorem w_isnotP (r : rP.r F v d) (q : Q (.bl (!(kndP d == "NoneType"))) H) : rNoN v .non H Q := ⟨rfl, by
  cases r <;> exact q⟩
theorem w_eqP (s : Same F H) (r : rP.r F v d) (r2 : rP.r F x e) (z : SeqAt.shaped d = true ∧ SeqAt.shaped e = true) (q : Q (.bl (PyData.eqv d e)) H) : rEqD K v x H Q := ⟨d, e, dr_dp _ _ (dr_mono s _ _ r), dr_dp _ _ (dr_mono s _ _ r2), z.1, z.2, q⟩
theorem w_neP (s : Same F H) (r : rP.r F v d) (r2 : rP.r F x e) (z : SeqAt.shaped d = true ∧ SeqAt.shaped e = true) (q : Q (.bl (!PyData.eqv d e)) H) : rNeD K v x H Q := ⟨d, e, dr_dp _ _ (dr_mono s _ _ r), dr_dp _ _ (dr_mono s _ _ r2), z.1, z.2, q⟩
end
theorem w_chnO {M : Mx} {F0 H0 F H : Hp} {ss : List Sa} {cs : List (Addr × Ca)} {σ : St} {Q : VK} {r' : R2} {tc : TE} {y : V} {ca r : Bool} {mb : Option Bool} (h : Wst M F0 H0 ss cs σ F H) (hm : (if ca = true then mb else some false) = some r)
    (h2 : ∀ F' H', Same F F' → Wst M F0 H0 ss cs σ F' H' → ca = true → mb = some r → ∀ Q' : VK, (∀ F2 H2, Same F' F2 → Wst M F0 H0 ss cs σ F2 H2 → Q' (.bl r) H2) → tc σ H' fun w' H4 => r' y w' H4 Q')
    (q : ∀ F' H', Same F F' → Wst M F0 H0 ss cs σ F' H' → Q (.bl r) H') : ∃ k, V.bl ca = .bl k ∧ (if k = true then tc σ H (fun w' H4 => r' y w' H4 Q) else Q (.bl false) H) := by
  refine ⟨ca, rfl, ?_⟩
  cases ca with
  | true =>
    rw [if_pos rfl] at hm ⊢
    exact h2 F H (Same.refl F) h rfl hm Q fun F2 H2 s2 w2 => q F2 H2 s2 w2
  | false =>
    rw [if_neg (by decide)] at hm ⊢
    cases hm
    exact q F H (Same.refl F) h
section
variable {a b : Bool} {H : Hp} {Q : VK}
theorem w_isBl (q : Q (.bl (decide (a = b))) H) : rIsB (.bl a) (.bl b) H Q := ⟨a, b, rfl, rfl, q⟩
theorem w_isnotBl (q : Q (.bl (!decide (a = b))) H) : rNotB (.bl a) (.bl b) H Q := ⟨a, b, rfl, rfl, q⟩
end
/-! ### mirrors: dict comprehensions of places -/
def dstep {β : Type} (d : List (Nat × β)) (o : Option (Nat × β)) : List (Nat × β) := match o with | none => d | some p => dput d p.1 p.2
def dcompO {α β : Type} (f : α → Option (Option (Nat × β))) : List α → List (Nat × β) → Option (List (Nat × β))
  | [], d => some d
  | x :: xs, d => (f x).bind fun o => dcompO f xs (dstep d o)
theorem dput_le {β : Type} {d : List (Nat × β)} {k : Nat} {v : β} : (dput d k v).length ≤ d.length + 1 := by
  unfold dput
  split
  · rw [List.length_map]; omega
  · rw [List.length_append]; exact Nat.le_refl _
section
variable {M : Mx} {F0 H0 F H : Hp} {α β : Type} {R : Rep α} {B : Rep β} {K : PySem.W.Frag} {σ σ2 : St} {xs : List α} {g : TG} {tt : TT} {tk tv : TE} {Q : VK}
def DN (M : Mx) (F0 H0 : Hp) (ss : List Sa) (cs : List (Addr × Ca)) (F : Hp) (σw : St) (D : Addr) (B : Rep β) (acc : List (Nat × β)) : Hp → Prop := fun H => ∃ F', Same F F' ∧ Wst M F0 H0 ss ((D, cD B acc) :: cs) σw F' H
def DW (J : It) (D : Addr) (g : TG) (tt : TT) (tk tv : TE) (vs : List Nat) (σ : St) (H1 : Hp) (Q : VK) : Prop := ∃ W : Nat → Nat → Hp → Prop, (∃ m, W 0 m (upd H1 D (.dK []))) ∧ ∀ i m H, W i m H →
  (J.stop i H ∧ Q (.ref D) H) ∨ (J.go i H ∧ ∃ Nx : Hp → Prop, (∀ H', Nx H' → ∃ m', m' < m ∧ W (i + 1) m' H') ∧ ∀ x H', J.yld i H x H' → g x (L2.wipe σ vs) H' fun σ2 H2 => L2.wipe σ2 vs = L2.wipe σ vs ∧ tt σ2 H2 fun b H3 =>
    if b = true then tk σ2 H3 fun y H4 => tv σ2 H4 fun z H5 => ∃ kvs k, y = kV k ∧ H5 D = some (.dK kvs) ∧ kvs.length < sizeLine ∧ Nx (upd H5 D (.dK (putK kvs k z))) else Nx H3)
theorem x_dc {wi : TI} {vs : List Nat} (h : wi σ H fun J H1 => ∀ D, H1 D = none → DW J D g tt tk tv vs σ H1 Q) : tDc wi g tt tk tv vs σ H Q := h
theorem w_dc {J : It} {D : Addr} {vs : List Nat} {ss : List Sa} {cs : List (Addr × Ca)} {f : α → Option (Option (Nat × β))} {dr : List (Nat × β)} (hf : dcompO f xs [] = some dr) (z : xs.length ≤ 100000) (hE : Wst M F0 H0 ss cs σ F H) (hD : H D = none)
    (hJ : ∀ acc F' H', Same F F' → Wst M F0 H0 (wipeS ss vs) ((D, cD B acc) :: cs) (L2.wipe σ vs) F' H' → JOk J R xs F' H')
    (hs : ∀ x v o acc F' H', Same F F' → R.r F' v x → Wst M F0 H0 (wipeS ss vs) ((D, cD B acc) :: cs) (L2.wipe σ vs) F' H' → f x = some o → acc.length < 100000 → L2.wipe (L2.wipe σ vs) vs = L2.wipe σ vs →
      g v (L2.wipe σ vs) H' fun σ2 H2 => L2.wipe σ2 vs = L2.wipe σ vs ∧ tt σ2 H2 fun b H3 => if b = true then tk σ2 H3 fun y H4 => tv σ2 H4 fun z H5 => ∃ kvs k, y = kV k ∧ H5 D = some (.dK kvs) ∧ kvs.length < sizeLine ∧ DN M F0 H0 (wipeS ss vs) cs F (L2.wipe σ vs) D B (dstep acc o) (upd H5 D (.dK (putK kvs k z))) else DN M F0 H0 (wipeS ss vs) cs F (L2.wipe σ vs) D B (dstep acc o) H3)
    (hd : ∀ F' H', H0 D = none → Same F F' → Wst M F0 H0 ss ((D, cD B dr) :: cs) σ F' H' → Q (.ref D) H') : DW J D g tt tk tv vs σ H Q := by
  have hD0 := hE.own hD
  refine ⟨fun i m H => m = xs.length - i ∧ i ≤ xs.length ∧ ∃ acc F', acc.length ≤ i ∧ Same F F' ∧ Wst M F0 H0 (wipeS ss vs) ((D, cD B acc) :: cs) (L2.wipe σ vs) F' H ∧ dcompO f (xs.drop i) acc = some dr,
    ⟨_, rfl, Nat.zero_le _, [], F, Nat.le_refl _, Same.refl F, (hE.wipe vs).newC hD ⟨[], rfl, .nil⟩, hf⟩, ?_⟩
  rintro i m H1 ⟨rfl, hi, acc, F1, za, sm, w, q⟩
  obtain ⟨j1, j2⟩ := hJ acc F1 H1 sm w i
  by_cases hlt : i < xs.length
  · obtain ⟨go, yl⟩ := j1 hlt
    have ex : xs[i]? = some (xs[i]'hlt) := List.getElem?_eq_getElem hlt
    rw [List.drop_eq_getElem_cons hlt] at q
    obtain ⟨o, hb, q⟩ := bnd q
    refine .inr ⟨go, DN M F0 H0 (wipeS ss vs) cs F (L2.wipe σ vs) D B (dstep acc o), fun H' ⟨F2, sm2, w2⟩ => ⟨_, by omega, rfl, hlt, dstep acc o, F2, ?_, sm2, w2, q⟩, fun x H'' y => ?_⟩
    · cases o with
      | none => exact Nat.le_succ_of_le za
      | some p => exact Nat.le_trans dput_le (Nat.succ_le_succ za)
    · obtain ⟨F2, x2, r2⟩ := yl x H'' y
      exact hs _ x o acc F2 H'' (sm.trans (x2 M.tl).ff) (r2 _ ex) (w.grow (x2 M.tl)) hb (by omega) (wipe_wipe fun _ h => h)
  · have e1 : i = xs.length := by omega
    rw [e1, List.drop_length] at q
    have e2 : acc = dr := Option.some.inj q
    rw [e2] at w
    exact .inl ⟨j2 (by omega), hd F1 H1 hD0 sm ⟨w.ex, hE.sl.imp fun s _ => s.mono sm, w.cl, w.nd⟩⟩
theorem w_dacc {D : Addr} {ss ss2 : List Sa} {cs : List (Addr × Ca)} {F' : Hp} {σw : St} {vs : List Nat} {acc : List (Nat × β)} {n : Nat} {y : V} {b : β} (h : Wst M F0 H0 ss2 ((D, cD B acc) :: cs) σ2 F' H) (sm : Same F F') (r : B.r F' y b) (z : acc.length < 100000) (eσ : L2.wipe σ2 vs = σw) (eS : wipeS ss2 vs = ss) :
    ∃ kvs k, V.int (n : Int) = kV k ∧ H D = some (.dK kvs) ∧ kvs.length < sizeLine ∧ DN M F0 H0 ss cs F σw D B (dstep acc (some (n, b))) (upd H D (.dK (putK kvs k y))) := by
  obtain ⟨o, h1, ws, rfl, hv⟩ := h.cell (k := 0) rfl
  refine ⟨ws, Sum.inl (n : Int), rfl, h1, sz_lt (by rw [hv.len]; exact z), F', sm, ?_⟩
  have w := (h.mut (k := 0) (A' := cD B (dput acc n b)) rfl ⟨_, rfl, putK_rep (n := n) hv r⟩).wipe vs
  rw [eσ, eS] at w
  exact w
theorem w_dskip {D : Addr} {ss ss2 : List Sa} {cs : List (Addr × Ca)} {F' : Hp} {σw : St} {vs : List Nat} {acc : List (Nat × β)} (h : Wst M F0 H0 ss2 ((D, cD B acc) :: cs) σ2 F' H) (sm : Same F F') (eσ : L2.wipe σ2 vs = σw) (eS : wipeS ss2 vs = ss) : DN M F0 H0 ss cs F σw D B (dstep acc none) H := by
  have w := h.wipe vs
  rw [eσ, eS] at w
  exact ⟨F', sm, w⟩
end
theorem Wst.freezeD {M : Mx} {F0 H0 F H : Hp} {ss : List Sa} {cs : List (Addr × Ca)} {σ : St} {c : Addr} {k : Nat} {β : Type} {B : Rep β} {d : List (Nat × β)} (h : Wst M F0 H0 ss cs σ F H) (e : cs[k]? = some (c, cD B d)) (h0 : H0 c = none) : ∃ F', Same F F' ∧ Wst M F0 H0 ss (cs.eraseIdx k) σ F' H ∧ (rD B).r F' (.ref c) d := by
  obtain ⟨o, hc, vs, rfl, hv⟩ := h.cell e
  have fc := h.apart e
  have sf : Same F (upd F c (.dK vs)) := same_new fc
  refine ⟨upd F c (.dK vs), sf, ⟨⟨h.ex.ff.trans sf, fun b x q => ?_, h.ex.hh, fun a q n => ?_, h.ex.dm, h.ex.nt.upd (fun _ z => by cases z), h.ex.tb⟩, h.sl.imp fun s _ => s.mono sf, fun p hp => ?_, (h.dropC k).nd⟩, ⟨c, vs, rfl, upd_same, hv.imp fun _ _ ⟨h1, h2⟩ => ⟨h1, B.mono sf h2⟩⟩⟩
  · by_cases z : b = c
    · subst z
      rw [upd_same] at q
      rw [← q]
      exact hc
    · rw [upd_ne z] at q
      exact h.fh b x q
  · rw [upd_ne (fun z => n (by rw [z]; exact h0))]
    exact h.ex.ap a q n
  · obtain ⟨⟨o, h1, h2⟩, h3, h4⟩ := h.cl p (List.mem_of_mem_eraseIdx hp)
    refine ⟨⟨o, h1, p.2.mono sf h2⟩, ?_, h4⟩
    have ne : p.1 ≠ c := fun z => by
      have n2 := (h.dropC k).nd
      obtain ⟨j, hj⟩ := List.mem_iff_getElem?.mp hp
      rw [List.getElem?_eraseIdx] at hj
      have e2 : (cs.map (·.1))[k]? = some c := by rw [List.getElem?_map, e]; rfl
      have fin : ∀ j', j' ≠ k → cs[j']? = some p → False := fun j' nj hj' => by
        have e1 : (cs.map (·.1))[j']? = some c := by rw [List.getElem?_map, hj']; exact congrArg some z
        exact nj (nd_ix h.nd e1 e2)
      split at hj
      · exact fin j (by omega) hj
      · exact fin (j + 1) (by omega) hj
    rw [upd_ne ne]
    exact h3
/-! ### mirrors: a dict that is walked over (locked meanwhile) -/
def IkR (R : It → Hp → Prop) (x : V) (H1 : Hp) : Prop := ∃ d o, x = .ref d ∧ ((∃ kvs, H1 d = some (.frz o (.dK kvs)) ∧ R (Itk d o kvs) H1) ∨ ∃ kvs, H1 d = some (.frz o (.dT kvs)) ∧ R (Itkt d o kvs) H1)
theorem x_ik {td : TE} {σ : St} {H : Hp} {R : It → Hp → Prop} (h : td σ H fun x H1 => IkR R x H1) : iKeys td σ H R := h
section
variable {M : Mx} {F0 H0 F H : Hp} {ss : List Sa} {cs cs' : List (Addr × Ca)} {σ : St} {c : Addr} {k : Nat} {β : Type} {B : Rep β} {d : List (Nat × β)} {od : Obj} {kvs : List (Key × V)} {nx : St → Hp → Prop} {rt : VK} {bk ct : St → Hp → Prop}
def cDf (B : Rep β) (d : List (Nat × β)) (od : Obj) (kvs : List (Key × V)) : Ca := ⟨fun F o => o = .frz od (.dK kvs) ∧ A2 (KvR B F) kvs d, fun s ⟨e, h⟩ => ⟨e, h.imp fun _ _ ⟨h1, h2⟩ => ⟨h1, B.mono s h2⟩⟩, fun ⟨e, _⟩ => by subst e; exact ⟨(fun _ z => by cases z), (fun _ z => by cases z)⟩⟩
theorem w_lock {t : TS} (h : Wst M F0 H0 ss cs σ F H) (e : cs[k]? = some (c, cD B d))
    (q : ∀ od kvs H', Wst M F0 H0 ss (cs.set k (c, cDf B d od kvs)) σ F H' → t ⟨fun σ' H' => H' c = some (.frz od (.dK kvs)) ∧ nx σ' (upd H' c (.dK kvs)), fun v H' => H' c = some (.frz od (.dK kvs)) ∧ rt v (upd H' c (.dK kvs)), fun σ' H' => H' c = some (.frz od (.dK kvs)) ∧ bk σ' (upd H' c (.dK kvs)), fun σ' H' => H' c = some (.frz od (.dK kvs)) ∧ ct σ' (upd H' c (.dK kvs))⟩ σ H') : tLock t ⟨nx, rt, bk, ct⟩ σ H := by
  obtain ⟨o, h1, kvs, rfl, hv⟩ := h.cell e
  exact ⟨c, .dK kvs, h1, trivial, fun od => q od kvs _ (h.mut e ⟨rfl, hv⟩)⟩
theorem w_unlock {P : Hp → Prop} (h : Wst M F0 H0 ss cs σ F H) (e : cs[k]? = some (c, cDf B d od kvs)) (e2 : cs.set k (c, cD B d) = cs') (q : ∀ H', Wst M F0 H0 ss cs' σ F H' → P H') : H c = some (.frz od (.dK kvs)) ∧ P (upd H c (.dK kvs)) := by
  subst e2
  obtain ⟨o, h1, rfl, hv⟩ := h.cell e
  exact ⟨h1, q _ (h.mut e ⟨kvs, rfl, hv⟩)⟩
theorem w_ik {R : It → Hp → Prop} (h : Wst M F0 H0 ss cs σ F H) (e : cs[k]? = some (c, cDf B d od kvs)) (q : R (Itk c od kvs) H) : IkR R (.ref c) H := by
  obtain ⟨o, h1, rfl, hv⟩ := h.cell e
  exact ⟨c, od, rfl, .inl ⟨kvs, h1, q⟩⟩
theorem jok_k (h : Wst M F0 H0 ss cs σ F H) (e : cs[k]? = some (c, cDf B d od kvs)) : JOk (Itk c od kvs) rN (d.map (·.1)) F H := by
  obtain ⟨o, h1, rfl, hv⟩ := h.cell e
  intro i
  rw [List.length_map]
  refine ⟨fun hi => ⟨⟨h1, by rw [hv.len]; exact hi⟩, fun x H'' y => ?_⟩, fun hi => ⟨h1, by rw [hv.len]; exact hi⟩⟩
  obtain ⟨rfl, k', v, hk, rfl⟩ := y
  refine ⟨F, fun T => Ext.refl h.fh h.nt, fun a ha => ?_⟩
  obtain ⟨p, hp, r1, _⟩ := hv.get hk
  rw [List.getElem?_map, hp] at ha
  have ha : p.1 = a := Option.some.inj ha
  simp only at r1
  rw [r1, ha]
  rfl
end
/-- the same, read while it is walked over -/
def DVz {β : Type} (B : Rep β) (F H : Hp) (v : V) (d : List (Nat × β)) : Prop := ∃ a od kvs, v = .ref a ∧ H a = some (.frz od (.dK kvs)) ∧ A2 (KvR B F) kvs d
section
variable {M : Mx} {F0 H0 F H : Hp} {ss : List Sa} {cs : List (Addr × Ca)} {σ : St} {c : Addr} {k : Nat} {β : Type} {B : Rep β} {d : List (Nat × β)} {od : Obj} {kvs : List (Key × V)} {v : V} {n : Nat} {b : β}
theorem dz_c (h : Wst M F0 H0 ss cs σ F H) (e : cs[k]? = some (c, cDf B d od kvs)) : DVz B F H (.ref c) d := by
  obtain ⟨o, h1, rfl, hv⟩ := h.cell e
  exact ⟨c, od, kvs, rfl, h1, hv⟩
theorem dget_z {a : Addr} {k : Key} (e : H a = some (.frz od (.dK kvs))) : DGet H a (kV k) (valV kvs k) := .inl ⟨kvs, k, .inr ⟨od, e⟩, rfl, rfl⟩
theorem w_dmemZ {P : Option V → Prop} (r : DVz B F H v d) (q : ∀ o : Option V, o.isSome = (dget d n).isSome → P o) : ∃ a o, v = .ref a ∧ DGet H a (.int (n : Int)) o ∧ P o := by
  obtain ⟨a, od, kvs, rfl, h, hv⟩ := r
  refine ⟨a, _, rfl, dget_z (k := Sum.inl (n : Int)) h, q _ ?_⟩
  rcases dget_val hv n with ⟨e1, e2⟩ | ⟨b, x, e1, e2, _⟩ <;> rw [e1, e2] <;> rfl
theorem w_dgetZ {Pv : V → Prop} (r : DVz B F H v d) (e : dget d n = some b) (q : ∀ x, B.r F x b → Pv x) : ∃ a x, v = .ref a ∧ DGet H a (.int (n : Int)) (some x) ∧ Pv x := by
  obtain ⟨a, od, kvs, rfl, h, hv⟩ := r
  rcases dget_val hv n with ⟨e1, _⟩ | ⟨b', x, e1, e2, r⟩
  · rw [e] at e1; cases e1
  · rw [e] at e1
    cases e1
    refine ⟨a, x, rfl, ?_, q x r⟩
    rw [← e2]
    exact dget_z (k := Sum.inl (n : Int)) h
end
theorem x_dget {td ty : TE} {σ : St} {H : Hp} {Q : VK} (h : td σ H fun x H1 => ty σ H1 fun y H2 => ∃ a v, x = .ref a ∧ DGet H2 a y (some v) ∧ Q v H2) : tDGet td ty σ H Q := h
/-- tuples of values of any kind -/
theorem w_tupP {M : Mx} {F0 H0 F H : Hp} {ss : List Sa} {cs : List (Addr × Ca)} {σ : St} {Q : VK} {xs : List V} {ds : List PyData} (h : Wst M F0 H0 ss cs σ F H) (z : ds.length ≤ 100000) (r : A2 (rP.r F) xs ds) (q : ∀ v F' H', Same F F' → Wst M F0 H0 ss cs σ F' H' → rP.r F' v (.tuple ds) → Q v H') : NewT xs H Q :=
  ⟨sz_ok (by rw [r.len]; exact z), fun p hp => by
    have e := ext_new (T := M.tl) (o := .tup xs) h.fh h.nt hp
    exact q _ _ _ e.ff (h.grow e) (DR.tup upd_same (dr_monos e.ff _ _ (a2_drs r)))⟩
/-! ### mirrors: slices with a step -/
def stepL {α : Type} (l : List α) (lo : Option Int) (c : Int) : List α := (sliceRange (sliceBounds lo none (some c) l.length).1 (sliceBounds lo none (some c) l.length).2.1 (sliceBounds lo none (some c) l.length).2.2).filterMap (l[·]?)
def NewS (K : PySem.W.Frag) (c : Int) (x : V) (lo : Option Int) (H : Hp) (Q : VK) : Prop := ∃ a xs, x = .ref a ∧ SqL K H a xs ∧ ∀ p, H p = none → Q (.ref p) (upd H p (.lst (stepL xs lo c)))
def tStpL (K : PySem.W.Frag) (c : Int) (te : TE) (tl : TO) : TE := fun σ H Q => te σ H fun x H1 => tl σ H1 fun lo H2 => NewS K c x lo H2 Q
theorem m_stpT {K : PySem.W.Frag} {c : Int} {te : TE} {tl : TO} {σ : St} {H : Hp} {Q : VK} (h : te σ H fun x H1 => tl σ H1 fun lo H2 => NewS K c x lo H2 Q) : tStpL K c te tl σ H Q := h
theorem vals_pick {xs : List V} {its : List Value} (r : Vals xs its) (ix : List Nat) : Vals (ix.filterMap (xs[·]?)) (ix.filterMap (its[·]?)) := by
  induction ix with
  | nil => exact .nil
  | cons i ix ih =>
    rw [List.filterMap_cons, List.filterMap_cons]
    have hl := r.length
    by_cases c : i < xs.length
    · have e : xs[i]? = some xs[i] := List.getElem?_eq_getElem c
      obtain ⟨u, hu, ru⟩ := r.get e
      rw [e, hu]
      exact .cons ru ih
    · rw [List.getElem?_eq_none (by omega), List.getElem?_eq_none (by omega)]
      exact ih
theorem k_stpL {X : Cx} (K : PySem.W.Frag) {e : Expr} {lo : Option Expr} {te : TE} {tl : TO} {c : Int} {k : Nat} {p1 p3 pos : Pos} (he : PE X e te) (hl : PO X lo tl) (hc : c ≠ 0 := by decide) (hK : X.K = K := by rfl) :
    PE X (.Subscript e (.Slice lo none (some (.Constant (.int c) k p1)) p3) pos) (tStpL K c te tl) := by
  subst hK
  refine ⟨fun pins s σ H Q I h => ?_⟩
  refine Subscript_ (thn (he.run pins s σ H _ I h) fun v s1 ⟨x, H1, I1, r1, q1⟩ => ?_)
  have hst : PO X (some (.Constant (.int c) k p1)) (tPart (tC (.int c))) := po_some pe_int
  refine wpAny_Slice (thn (hl.run pins s1 σ H1 _ I1 q1) fun vl s2 ⟨l, H2, I2, pl, q2⟩ => ?_)
  refine thn (po_none.run pins s2 σ H2 (fun o H3 => o = none ∧ H3 = H2) I2 ⟨rfl, rfl⟩) fun vu s3 ⟨u, H3, I3, pu, eu, e3⟩ => ?_
  subst eu e3
  refine thn (hst.run pins s3 σ H3 (fun o H4 => o = some c ∧ H4 = H3) I3 ⟨c, rfl, rfl, rfl⟩) fun vs s4 ⟨o, H4, I4, ps, eo, e4⟩ => ?_
  subst eo e4
  obtain ⟨a, xs, ex, hx, q⟩ := q2
  subst ex
  cases r1
  have I5 : Inv X pins σ H4 { s4 with heap := s4.heap.push { cls := .type "slice", data := .fields #[vl, vu, vs] } } := I4.kept (t' := s4.toks) fun b ob q => Heap.get?_push_of_some _ q
  obtain ⟨its, r, ht, hz⟩ := I5.list hx
  have hlen := r.length
  show wpAny (model X.prog X.w) X.A (subscriptTail e (.Slice lo none (some (.Constant (.int c) k p1)) p3) (.ref a) (.ref s4.heap.objs.size)) (EP X pins σ Q) X.xe { s4 with heap := s4.heap.push { cls := .type "slice", data := .fields #[vl, vu, vs] } }
  refine tail_any (ops := [.ref a, .ref s4.heap.objs.size]) ht.isList.typeIs (PySem.slot_list_getitem.lookup) ?_ (by with_unfolding_all rfl)
  refine wpAny_getItem_list_slice ht.isList (Heap.IsSliceOf.new _ vl vu vs) pl pu ps (fun z => hc (Option.some.inj z)) ?_ (by rw [List.size_toArray]; omega)
  have e5 : (slicePick its.toArray l none (some c)) = (stepL its l c).toArray := by
    unfold slicePick stepL
    simp only [List.size_toArray, List.getElem?_toArray]
  rw [e5]
  have hr : Vals (stepL xs l c) (stepL its l c) := by
    unfold stepL
    rw [hlen]
    exact vals_pick r _
  have hle : (stepL xs l c).length ≤ xs.length := by
    have h1 := slicePick_size_le its.toArray l none (some c)
    rw [e5, List.size_toArray, List.size_toArray, ← hr.length, ← hlen] at h1
    exact h1
  refine ⟨.ref _, _, I5.laid (t' := s4.toks) (o := .lst (stepL xs l c)) (fun b ob q => Heap.get?_push_of_some _ q) (Nat.le_refl _) ?_, rfl, q _ (I5.hok.fresh (Nat.le_refl _))⟩
  exact ⟨Nat.le_trans hle hz, _, 0, hr, Heap.get?_push_size _ rfl⟩
section
variable {M : Mx} {F0 H0 F H : Hp} {ss : List Sa} {cs : List (Addr × Ca)} {σ : St} {α : Type} {R : Rep α} {l : List α} {Q : VK} {K : PySem.W.Frag} {v : V}
theorem A2.pick {vs : List V} (h : A2 (R.r F) vs l) (ix : List Nat) : A2 (R.r F) (ix.filterMap (vs[·]?)) (ix.filterMap (l[·]?)) := by
  induction ix with
  | nil => exact .nil
  | cons i ix ih =>
    rw [List.filterMap_cons, List.filterMap_cons]
    have hl := h.len
    by_cases c : i < vs.length
    · have e : vs[i]? = some vs[i] := List.getElem?_eq_getElem c
      obtain ⟨b, hb, r⟩ := h.get e
      rw [e, hb]
      exact .cons r ih
    · rw [List.getElem?_eq_none (by omega), List.getElem?_eq_none (by omega)]
      exact ih
theorem a2_step {vs : List V} {lo : Option Int} {c : Int} (h : A2 (R.r F) vs l) : A2 (R.r F) (stepL vs lo c) (stepL l lo c) := by
  unfold stepL
  rw [h.len]
  exact h.pick _
theorem w_stpF {c : Int} {lo : Option Int} (h : Wst M F0 H0 ss cs σ F H) (r : LV R F H v l) (q : ∀ v F' H', Same F F' → Wst M F0 H0 ss cs σ F' H' → (rL R).r F' v (stepL l lo c) → Q v H') : NewS K c v lo H Q := by
  obtain ⟨p, vs, rfl, hp, hv⟩ := r
  exact ⟨p, vs, rfl, sq_l hp, w_newF h (a2_step hv) q⟩
theorem w_stpC {c : Int} {lo : Option Int} (h : Wst M F0 H0 ss cs σ F H) (r : LV R F H v l) (q : ∀ p H', H0 p = none → Wst M F0 H0 ss ((p, cL R (stepL l lo c)) :: cs) σ F H' → Q (.ref p) H') : NewS K c v lo H Q := by
  obtain ⟨p, vs, rfl, hp, hv⟩ := r
  exact ⟨p, vs, rfl, sq_l hp, w_newC h (a2_step hv) q⟩
end
/-! a slice of data that is a tuple, not the whole of it -/
def sliceP (d : PyData) (lo hi : Option Int) : Option PyData := match d with
  | .tuple ds => if HT.sIx ds.length 0 lo = 0 ∧ HT.sIx ds.length ds.length hi = ds.length then none else some (.tuple (cutL ds lo hi))
  | _ => none
theorem w_slP {M : Mx} {F0 H0 F H : Hp} {ss : List Sa} {cs : List (Addr × Ca)} {σ : St} {Q : VK} {K : PySem.W.Frag} {v : V} {d e : PyData} {lo hi : Option Int} (h : Wst M F0 H0 ss cs σ F H) (r : rP.r F v d) (he : sliceP d lo hi = some e)
    (q : ∀ v F' H', Same F F' → Wst M F0 H0 ss cs σ F' H' → rP.r F' v e → Q v H') : rSlT K v lo hi H Q := by
  have r : DR F v d := r
  cases r with
  | @tup a xs ds h1 h2 =>
    have zl := (drs_a2 h2).len
    unfold sliceP at he
    simp only at he
    split at he
    · cases he
    · rename_i hn
      cases he
      refine ⟨a, xs, rfl, sq_t (h.fh _ _ h1), by rw [zl]; exact hn, fun p hp => ?_⟩
      have x := ext_new (T := M.tl) (o := .tup (cutV xs lo hi)) h.fh h.nt hp
      exact q _ _ _ x.ff (h.grow x) (DR.tup upd_same (dr_monos x.ff _ _ (a2_drs (a2_cut (drs_a2 h2)))))
  | _ => cases he
/-! insert, index by K -/
def rInsertL (x : V) (xs : List V) (H : Hp) (Q : VK) : Prop := ∃ (l : Addr) (vs : List V) (i : Int) (y : V), x = .ref l ∧ xs = [.int i, y] ∧ H l = some (.lst vs) ∧ vs.length < sizeLine ∧ 0 ≤ i ∧ i < 2 ^ 63 ∧ Q .non (upd H l (.lst (vs.take i.toNat ++ [y] ++ vs.drop i.toNat)))
theorem k_insert {X : Cx} : MtR X "list.insert" rInsertL := mt_insert
theorem k_index {X : Cx} (K : PySem.W.Frag) (hK : X.K = K := by rfl) : MtR X "list.index" (rIndex K) := by subst hK; exact mt_index
theorem w_insertL {M : Mx} {F0 H0 F H : Hp} {ss : List Sa} {cs cs' : List (Addr × Ca)} {σ : St} {c : Addr} {k : Nat} {α : Type} {R : Rep α} {l : List α} {Q : VK} {n : Nat} {x : V} {a : α} (h : Wst M F0 H0 ss cs σ F H) (e : cs[k]? = some (c, cL R l)) (z : l.length < 100000 ∧ n ≤ 100000) (r : R.r F x a) (e2 : cs.set k (c, cL R (l.take n ++ [a] ++ l.drop n)) = cs') (q : ∀ H', Wst M F0 H0 ss cs' σ F H' → Q .non H') : rInsertL (.ref c) [.int (n : Int), x] H Q := by
  subst e2
  obtain ⟨o, h1, vs, rfl, hv⟩ := h.cell e
  refine ⟨c, vs, (n : Int), x, rfl, rfl, h1, sz_lt (by rw [hv.len]; exact z.1), by omega, by omega, q _ (h.mut e ⟨_, rfl, ?_⟩)⟩
  rw [Int.toNat_natCast]
  exact ((hv.takeT n).app (.cons r .nil)).app (hv.dropT n)
/-! ### sorted of data that are alike; by a key that a lambda gives -/
section
open PySem.W
theorem each_dp {X : Cx} {pins : List (Addr × Obj)} {σ : L2.St} {H : Hp} {s : Shared} (I : Inv X pins σ H s) : ∀ {ds : List PyData} {xs : List V} {us : List Value}, DpAll X.K H xs ds → Vals xs us → EachIs (fun u d => ∃ as, Reads s.heap u d as) us ds
  | [], _, _, h, r => by cases h; cases r; exact .nil
  | d :: ds, _, _, h, r => by
    cases h with
    | cons h1 h2 =>
      cases r with
      | cons r1 r2 => exact .cons (Dp.reads I d _ _ h1 r1) (each_dp I h2 r2)
theorem each_zip {ds : List PyData} : ∀ {xs : List V} {us : List Value}, Vals xs us → xs.length = ds.length → EachIs (fun u (b : V × PyData) => RelV b.1 u) us (xs.zip ds) := by
  induction ds with
  | nil => intro xs us r h; cases xs with
    | nil => cases r; exact .nil
    | cons _ _ => cases h
  | cons d ds ih => intro xs us r h; cases xs with
    | nil => cases h
    | cons x xs =>
      cases r with
      | cons r1 r2 => exact .cons r1 (ih r2 (Nat.succ.inj h))
theorem vals_each {us : List Value} {bs : List (V × PyData)} (h : EachIs (fun u (b : V × PyData) => RelV b.1 u) us bs) : Vals (bs.map (·.1)) us := by
  induction h with
  | nil => exact .nil
  | cons h1 _ ih => exact .cons h1 ih
theorem dp_len {K : PySem.W.Frag} {H : Hp} : ∀ {ds : List PyData} {xs : List V}, DpAll K H xs ds → xs.length = ds.length
  | [], _, h => by cases h; rfl
  | d :: ds, _, h => by
    cases h with
    | cons _ h2 => rw [List.length_cons, List.length_cons, dp_len h2]
/-- xs in the order of the keys ds -/
def srtV (xs : List V) (ds : List PyData) : List V := ((xs.zip ds).mergeSort (dataLe false (·.2))).map (·.1)
theorem srtV_len {xs : List V} {ds : List PyData} (h : xs.length = ds.length) : (srtV xs ds).length = xs.length := by
  unfold srtV
  rw [List.length_map, List.length_mergeSort, List.length_zip]
  omega
theorem srt_vals {h : Heap} {ks us : List Value} {xs : List V} {ds : List PyData} (r : Vals xs us) (hl : xs.length = ds.length) (hal : AllAlike ds) (e : EachIs (fun v d => ∃ as, Reads h v d as) ks ds) : Vals (srtV xs ds) (sortVals (dataKind h ds) false ks us) := by
  unfold srtV
  refine vals_each (sortVals_each (κ := dataKind h ds) (fun b : V × PyData => keyToks b.2) (each_zip r hl) ?_)
  have e2 : ds = (xs.zip ds).map (·.2) := (List.map_snd_zip (by omega)).symm
  have h1 := each_keys hal e
  rw [show (fun v d => (dataKind h ds).keyOf v = some (keyToks d)) = fun v d => (dataKind h ds).keyOf v = some (keyToks d) from rfl] at h1
  have : EachIs (fun v d => (dataKind h ds).keyOf v = some (keyToks d)) ks ((xs.zip ds).map (·.2)) := by
    rw [← e2]
    exact h1
  exact each_of_map (fun b : V × PyData => b.2) this
def rSortA (K : PySem.W.Frag) : List V → Hp → VK → Prop := fun vs H Q => ∃ (a : Addr) (xs : List V) (ds : List PyData), vs = [.ref a] ∧ SqL K H a xs ∧ DpAll K H xs ds ∧ AllAlike ds ∧ Sortable ds ∧ (∀ d ∈ ds, d.depth ≤ 40) ∧
  ∀ p, H p = none → Q (.ref p) (upd H p (.lst (srtV xs ds)))
theorem cr_sortA {X : Cx} (hu : X.A.units + 64 < cLine) : CallR X (.builtin "sorted") (rSortA X.K) := by
  intro pins s σ H vs us Q I r h
  obtain ⟨a, xs, ds, rfl, hs, hd, hal, hk, hdep, q⟩ := h
  obtain ⟨its, rv, hl, hz⟩ := I.list hs
  obtain rfl := Vals.ref1 r
  have hxd := dp_len hd
  have hlen := rv.length
  have e0 := each_dp I hd rv
  have e1 : EachIs (fun v d => ∃ as, Reads (sortingHeap (copyHeap s.heap its) (s.heap.objs.size + 1) its) v d as) its ds := e0.mono fun v d ⟨as, r⟩ => ⟨as, PyProof.Rows.Reads.keeps (fun b o e => sorting_copy_old e) r⟩
  have S := SortsAt.data (prog := X.prog) (w := X.w) (A := X.A.in1.in1) (s := { s with heap := sortingHeap (copyHeap s.heap its) (s.heap.objs.size + 1) its }) e1 hal hk fun d hdm => by
    have h1 := hdep d hdm
    show X.A.units + 2 + d.depth < cLine
    omega
  refine sorted_vals hl.isList S (by rw [← hlen]; exact hz) ?_
  have ro := srt_vals rv hxd hal e1
  obtain ⟨ep, he'⟩ := PyProof.Rows.sortedAll_at s.heap its (sortVals (dataKind (sortingHeap (copyHeap s.heap its) (s.heap.objs.size + 1) its) ds) false its its).toArray
  exact ⟨.ref _, upd H (s.heap.objs.size + 1) (.lst (srtV xs ds)), I.laid (t' := s.toks) (fun _ _ => PyProof.Rows.sortedAll_old) (Nat.le_succ _) ⟨by rw [srtV_len hxd]; exact hz, _, ep, ro, he'⟩, rfl, q _ (I.hok.fresh (Nat.le_succ _))⟩
theorem cl_sortA {X : Cx} (K : PySem.W.Frag) (hu : X.A.units + 64 < cLine) (hK : X.K = K := by rfl) : CallR X (.builtin "sorted") (rSortA K) := by subst hK; exact cr_sortA hu
end
/-! ### list(zip(a, b)) as a value -/
theorem len_kept_zip : typeLookup (.type "zip") "__len__" = pure none := am_miss_of_fast (by decide +kernel)
theorem hint_kept_zip : typeLookup (.type "zip") "__length_hint__" = pure none := am_miss_of_fast (by decide +kernel)
section
variable {prog : Program} {w : World} {A : Around} {E : Value → Shared → Prop} {s : Shared}
def zSt (h : Heap) (z TI TO i1 i2 l1 l2 : Addr) (i : Nat) : Prop :=
  (IsZip h z TI TO .none ∨ ∃ T f x y, IsZipHeld h z TI TO T f ∧ IsPair h T x y) ∧ IsPair h TI (.ref i1) (.ref i2) ∧ (∃ a b, IsPair h TO a b) ∧ h.IsListIter i1 l1 i ∧ h.IsListIter i2 l2 i
theorem zSt.ty {z TI TO i1 i2 l1 l2 : Addr} {i : Nat} (h : zSt s.heap z TI TO i1 i2 l1 l2 i) : s.TypeIs (.ref z) "zip" := by
  obtain ⟨h | ⟨T, f, x, y, h, _⟩, _⟩ := h
  · exact ⟨_, h, rfl⟩
  · exact ⟨_, h, rfl⟩
theorem pair_ne_iter {h : Heap} {T i l : Addr} {x y : Value} {k : Nat} (a : IsPair h T x y) (b : h.IsListIter i l k) : T ≠ i := fun z => by
  obtain ⟨o, h1, h2, _⟩ := b
  have a : h.get? T = some { cls := .type "tuple", data := .seq #[x, y] } := a
  rw [z, h1] at a
  cases a
  simp at h2
theorem pair_ne_zip {h : Heap} {T z TI TO T2 : Addr} {f : Bool} {x y : Value} (a : IsPair h T x y) (b : IsZipHeld h z TI TO T2 f) : T ≠ z := fun e => by
  have a : h.get? T = some { cls := .type "tuple", data := .seq #[x, y] } := a
  rw [e, b] at a
  simp at a
theorem zip_item {z TI TO i1 i2 l1 l2 : Addr} {i : Nat} {xs ys : Array Value} {x y : Value} {Q : Option Value → Shared → Prop} (D : ZipApart z TI TO i1 i2 l1 l2)
    (h : zSt s.heap z TI TO i1 i2 l1 l2 i) (hl1 : s.heap.IsList l1 xs) (hl2 : s.heap.IsList l2 ys) (hx : xs[i]? = some x) (hy : ys[i]? = some y)
    (q : ∀ h', zSt h' z TI TO i1 i2 l1 l2 (i + 1) → IsPair h' s.heap.objs.size x y → (∀ c o, c ∉ [z, TO, i1, i2] → s.heap.get? c = some o → h'.get? c = some o) → Q (some (.ref s.heap.objs.size)) { s with heap := h' }) :
    wpAny (model prog w) A (pyNext (.ref z)) Q E s := by
  obtain ⟨hz, hTI, ⟨a, b, hTO⟩, h1, h2⟩ := h
  rcases hz with hz | ⟨T, f, x0, y0, hz, hT⟩
  · refine wpAny_pyNext_zip_item D hz hTI hTO h1 h2 hl1 hl2 hx hy fun h' a1 a2 a3 a4 a5 a6 a7 => q h' ⟨.inr ⟨_, false, _, _, a1, a5⟩, a7 _ _ D.TIz D.TITO D.TIi1 D.TIi2 hTI, ⟨_, _, a2⟩, a3, a4⟩ a5 fun c o n e => ?_
    exact a7 c o (fun z => n (by simp [z])) (fun z => n (by simp [z])) (fun z => n (by simp [z])) (fun z => n (by simp [z])) e
  · refine wpAny_pyNext_zip_item_held D hz hT hTI h1 h2 hl1 hl2 hx hy fun h' a1 a3 a4 a5 a6 a7 => q h' ⟨.inr ⟨T, true, _, _, a1, a7 _ _ (pair_ne_zip hT hz) (pair_ne_iter hT h1) (pair_ne_iter hT h2) hT⟩, a7 _ _ D.TIz D.TIi1 D.TIi2 hTI, ⟨_, _, a7 _ _ D.TOz D.TOi1 D.TOi2 hTO⟩, a3, a4⟩ a5 fun c o n e => ?_
    exact a7 c o (fun z => n (by simp [z])) (fun z => n (by simp [z])) (fun z => n (by simp [z])) e
theorem zip_end {z TI TO i1 i2 l1 l2 : Addr} {i : Nat} {xs ys : Array Value} {Q : Option Value → Shared → Prop} (hh : A.handled = none) (D : ZipApart z TI TO i1 i2 l1 l2)
    (h : zSt s.heap z TI TO i1 i2 l1 l2 i) (hl1 : s.heap.IsList l1 xs) (hl2 : s.heap.IsList l2 ys) (he : xs[i]? = none ∨ ys[i]? = none)
    (q : ∀ h', (∀ c o, c ∉ [z, TO, i1, i2] → s.heap.get? c = some o → h'.get? c = some o) → Q none { s with heap := h' }) :
    wpAny (model prog w) A (pyNext (.ref z)) Q E s := by
  obtain ⟨hz, hTI, ⟨a, b, hTO⟩, h1, h2⟩ := h
  rcases hz with hz | ⟨T, f, x0, y0, hz, hT⟩
  · exact wpAny_pyNext_zip_end hh D hz hTI hTO h1 h2 hl1 hl2 he fun h' k => q h' fun c o n e => k c o (fun z => n (by simp [z])) (fun z => n (by simp [z])) (fun z => n (by simp [z])) (fun z => n (by simp [z])) e
  · exact wpAny_pyNext_zip_end_held hh D hz hT hTI h1 h2 hl1 hl2 he fun h' k => q h' fun c o n e => k c o (fun z => n (by simp [z])) (fun z => n (by simp [z])) (fun z => n (by simp [z])) e
theorem zSt.keep {z TI TO i1 i2 l1 l2 S : Addr} {i : Nat} {h h' : Heap} {acc : Array Value} {c : Nat} (x : zSt h z TI TO i1 i2 l1 l2 i) (n : S ∉ [z, TI, TO, i1, i2]) (hS : h.get? S = some { cls := .type "list", dict := none, data := .seq acc c, slots := #[] })
    (k : ∀ b o, b ≠ S → h.get? b = some o → h'.get? b = some o) : zSt h' z TI TO i1 i2 l1 l2 i := by
  obtain ⟨hz, hTI, ⟨a, b, hTO⟩, h1, h2⟩ := x
  have n1 : z ≠ S := fun e => n (by simp [e])
  have n2 : TI ≠ S := fun e => n (by simp [e])
  have n3 : TO ≠ S := fun e => n (by simp [e])
  have n4 : i1 ≠ S := fun e => n (by simp [e])
  have n5 : i2 ≠ S := fun e => n (by simp [e])
  refine ⟨?_, k _ _ n2 hTI, ⟨a, b, k _ _ n3 hTO⟩, h1.at fun o e => k _ _ n4 e, h2.at fun o e => k _ _ n5 e⟩
  rcases hz with hz | ⟨T, f, x0, y0, hz, hT⟩
  · exact .inl (k _ _ n1 hz)
  · refine .inr ⟨T, f, x0, y0, k _ _ n1 hz, k _ _ (fun e => ?_) hT⟩
    have hT : h.get? T = some { cls := .type "tuple", data := .seq #[x0, y0] } := hT
    rw [e, hS] at hT
    simp at hT
end
section
variable {X : Cx} {pins : List (Addr × Obj)} {σ : L2.St}
theorem fp_upd {H : Hp} {b T : Addr} {o : HO} (f : FpOk X pins H b) (n : b ≠ T) : FpOk X pins (upd H T o) b := ⟨by rw [upd_ne n]; exact f.1, f.2⟩
/-- a finished list is tracked -/
theorem inv_lay {H : Hp} {s : Shared} {S : Addr} {acc : Array Value} {c : Nat} {vs : List V} (I : Inv X pins σ H s) (f : FpOk X pins H S) (e : s.heap.get? S = some { cls := .type "list", dict := none, data := .seq acc c, slots := #[] }) (r : Vals vs acc.toList)
    (z : vs.length ≤ sizeLine) : Inv X pins σ (upd H S (.lst vs)) s := by
  have hn := f.1
  refine I.call' (ch := [S]) rfl ⟨fun b o e _ _ _ => e, fun b o e _ _ _ => ⟨o.slots, e⟩, fun b o _ n hx => ?_, fun b o e _ => ⟨o, e⟩, fun b xs q => ?_, fun b o u q => ?_, fun b ps q => ⟨#[], ?_⟩⟩ (fun b u q => ?_) I.bare (fun b hb => ?_)
  · rw [upd_ne (fun z => hx (by rw [z]; exact List.mem_singleton.mpr rfl))]; exact n
  · rw [upd_ne (ne_of_none q hn)]; exact q
  · rw [upd_ne (ne_of_none q hn)]; exact q
  · rw [upd_ne (ne_of_none q hn), q]; simp
  · by_cases hb : b = S
    · subst hb
      rw [upd_same] at q
      cases q
      exact ⟨z, acc.toList, c, r, by rw [e]⟩
    · rw [upd_ne hb] at q
      exact (I.hok b u q).stay (fun _ _ _ z => z) (fun d z => by rw [upd_ne (ne_of_none z hn)]; exact z) fun d xs z => by rw [upd_ne (ne_of_none z hn)]; exact z
  · rw [List.mem_singleton.mp hb]
    exact ⟨f.2.2.2.1, f.2.1, f.2.2.2.2.1, f.2.2.2.2.2⟩
theorem sql_same {K : PySem.W.Frag} {H H' : Hp} {a : Addr} {xs : List V} (h : SqL K H a xs) (s : Same H H') : SqL K H' a xs := by
  rcases h with h | h
  · rcases h with h | ⟨o, h⟩
    · exact .inl (.inl (s _ _ h))
    · exact .inl (.inr ⟨o, s _ _ h⟩)
  · exact .inr h
theorem sql_new {K : PySem.W.Frag} {H : Hp} {a T : Addr} {xs : List V} {o : HO} (h : SqL K H a xs) (n : H T = none) : SqL K (upd H T o) a xs := sql_same h (same_new n)
/-- the pairs so far, each a new tuple -/
def ZipV (H0 H : Hp) (xs ys vs : List V) (i : Nat) : Prop := vs.length = i ∧ ∀ (j : Nat) x y, j < i → xs[j]? = some x → ys[j]? = some y → ∃ t, vs[j]? = some (.ref t) ∧ H0 t = none ∧ H t = some (.tup [x, y])
theorem ext_loop_zip {A : Around} {R : Result → Shared → Prop} {S z TI TO i1 i2 a b : Addr} {xs ys : List V} {H0 : Hp} {res : Value} (hA : A.in1.handled = none) (hc : X.calm = true) (D : ZipApart z TI TO i1 i2 a b) (hS : S ∉ [z, TI, TO, i1, i2])
    (hR : ∀ s' H' acc' c' vs', Inv X pins σ H' s' → Same H0 H' → FpOk X pins H' S → s'.heap.get? S = some { cls := .type "list", dict := none, data := .seq acc' c', slots := #[] } → Vals vs' acc'.toList → ZipV H0 H' xs ys vs' (min xs.length ys.length) → R (.ok (.ret res)) s') :
    ∀ (k i : Nat) (s : Shared) (H : Hp) (acc : Array Value) (c : Nat) (vs : List V), min xs.length ys.length - i = k → i ≤ min xs.length ys.length → Inv X pins σ H s → Same H0 H → SqL X.K H a xs → SqL X.K H b ys → (∀ q ∈ [S, z, TO, i1, i2], FpOk X pins H q) →
      zSt s.heap z TI TO i1 i2 a b i → s.heap.get? S = some { cls := .type "list", dict := none, data := .seq acc c, slots := #[] } → Vals vs acc.toList → ZipV H0 H xs ys vs i →
      codeAny (model X.prog X.w) A (.builtin "list.extend.loop" ⟨[.ref S, .ref z, res], []⟩) R s := by
  have SE : ∀ q ∈ [z, TO, i1, i2], S ≠ q := fun q hq e => hS (by
    rw [e]
    rcases List.mem_cons.mp hq with h | hq
    · rw [h]; simp
    rcases List.mem_cons.mp hq with h | hq
    · rw [h]; simp
    rcases List.mem_cons.mp hq with h | hq
    · rw [h]; simp
    · rw [List.mem_singleton.mp hq]; simp)
  intro k
  induction k with
  | zero =>
    intro i s H acc c vs hk hi I sm ha hb hf hz hg rv zv
    have hin : i = min xs.length ys.length := by omega
    obtain ⟨its, r1, p1, m1⟩ := I.list ha
    obtain ⟨its2, r2, p2, _⟩ := I.list hb
    have l1 := r1.length
    have l2 := r2.length
    refine codeAny_builtin F.entry_extend_loop ?_
    rw [Around.under_plainId F.plain_extend_loop _]
    show wpAny _ A.in1 (pyNext (.ref z) >>= _) _ _ s
    refine wpAny_bind (zip_end hA D hz p1.isList p2.isList ?_ fun h' k => ?_)
    · by_cases q : xs.length ≤ ys.length
      · exact .inl (by simp; omega)
      · exact .inr (by simp; omega)
    · refine wpAny_pure ?_
      have I2 : Inv X pins σ H { s with heap := h' } := I.turnedL (t' := s.toks) (ch := [z, TO, i1, i2]) k fun q hq => hf q (List.mem_cons_of_mem _ hq)
      rw [hin] at zv
      exact hR _ H acc c vs I2 sm (hf S (by simp)) (k S _ (fun hq => SE S hq rfl) hg) rv zv
  | succ k ih =>
    intro i s H acc c vs hk hi I sm ha hb hf hz hg rv zv
    obtain ⟨its, r1, p1, m1⟩ := I.list ha
    obtain ⟨its2, r2, p2, _⟩ := I.list hb
    have l1 := r1.length
    have l2 := r2.length
    have h1 : i < xs.length := by omega
    have h2 : i < ys.length := by omega
    obtain ⟨u, hu, ru⟩ := r1.get (List.getElem?_eq_getElem h1)
    obtain ⟨v, hv, rw'⟩ := r2.get (List.getElem?_eq_getElem h2)
    refine codeAny_builtin F.entry_extend_loop ?_
    rw [Around.under_plainId F.plain_extend_loop _]
    show wpAny _ A.in1 (pyNext (.ref z) >>= _) _ _ s
    refine wpAny_bind (zip_item D hz p1.isList p2.isList (x := u) (y := v) (by simpa using hu) (by simpa using hv) fun h' hz' hT kp => ?_)
    have hS' := kp S _ (fun hq => SE S hq rfl) hg
    have new : ObjOk X.prog X.w (upd H s.heap.objs.size (.tup [xs[i], ys[i]])) h' s.heap.objs.size (.tup [xs[i], ys[i]]) :=
      ⟨by show 2 ≤ sizeLine; decide, [u, v], .cons ru (.cons rw' .nil), ⟨_, hT, rfl, _, rfl⟩⟩
    have hnew : H s.heap.objs.size = none := I.hok.fresh (Nat.le_refl _)
    have I1 : Inv X pins σ (upd H s.heap.objs.size (.tup [xs[i], ys[i]])) { s with heap := h' } :=
      I.turnedNew (t' := s.toks) (ch := [z, TO, i1, i2]) kp (fun q hq => hf q (List.mem_cons_of_mem _ hq)) (Nat.le_refl _) new
    show wpAny _ A.in1 (updateSeq S (·.push (.ref s.heap.objs.size)) >>= _) _ _ _
    refine wpAny_bind ?_
    have acz : acc.size = i := by
      have := rv.length
      rw [zv.1, Array.length_toList] at this
      exact this.symm
    have lt : ∀ q ∈ [S, z, TO, i1, i2], q ≠ s.heap.objs.size := fun q hq => by
      refine Nat.ne_of_lt ?_
      obtain ⟨hzz, hTI, ⟨x0, y0, hTO⟩, q1, q2⟩ := hz
      have e' : q = S ∨ q = z ∨ q = TO ∨ q = i1 ∨ q = i2 := by simpa using hq
      rcases e' with q | q | q | q | q
      · rw [q]; exact Heap.lt_size hg
      · rw [q]
        rcases hzz with h | ⟨_, _, _, _, h, _⟩
        · exact Heap.lt_size h
        · exact Heap.lt_size h
      · rw [q]; exact Heap.lt_size hTO
      · rw [q]; obtain ⟨_, e1, _⟩ := q1; exact Heap.lt_size e1
      · rw [q]; obtain ⟨_, e2, _⟩ := q2; exact Heap.lt_size e2
    have hf1 : ∀ q ∈ [S, z, TO, i1, i2], FpOk X pins (upd H s.heap.objs.size (.tup [xs[i], ys[i]])) q := fun q hq => fp_upd (hf q hq) (lt q hq)
    have I2 : Inv X pins σ (upd H s.heap.objs.size (.tup [xs[i], ys[i]])) { s with heap := h'.update S (Obj.mapSeq (·.push (.ref s.heap.objs.size))) } :=
      Inv.turnedL (s := { s with heap := h' }) I1 (t' := s.toks) (ch := [S]) (fun b o n e => (Heap.get?_update_other _ _ (fun z : S = b => n (by rw [z]; exact List.mem_singleton.mpr rfl))).trans e) fun q hq => hf1 q (by rw [List.mem_singleton.mp hq]; simp)
    refine wpAny_updateSeq hS' rfl (wpAny_pure ⟨plainId_quiet F.plain_extend_loop _, ih (i + 1) _ _ (acc.push (.ref s.heap.objs.size)) _ (vs ++ [.ref s.heap.objs.size]) (by omega) (by omega) I2 (sm.trans (same_new hnew)) (sql_new ha hnew) (sql_new hb hnew) hf1 ?_ (Heap.get?_update_self _ hS' rfl) ?_ ?_⟩)
      (by rw [acz]; omega) (by show (acc.push _).size ≤ sizeLine + 1; rw [Array.size_push, acz]; omega)
    · exact hz'.keep hS hS' fun b o n e => (Heap.get?_update_other _ _ (Ne.symm n)).trans e
    · rw [Array.toList_push]
      exact rv.append (.cons rfl .nil)
    · refine ⟨by rw [List.length_append, zv.1]; rfl, fun j x y hj ex ey => ?_⟩
      by_cases c : j = i
      · subst c
        refine ⟨_, by rw [List.getElem?_append_right (by rw [zv.1]; exact Nat.le_refl _), zv.1, Nat.sub_self]; rfl, sm.free hnew, ?_⟩
        rw [upd_same]
        rw [List.getElem?_eq_getElem h1] at ex
        rw [List.getElem?_eq_getElem h2] at ey
        cases ex; cases ey
        rfl
      · obtain ⟨t, e1, e2, e3⟩ := zv.2 j x y (by omega) ex ey
        exact ⟨t, by rw [List.getElem?_append_left (by rw [zv.1]; omega)]; exact e1, e2, by rw [upd_ne (ne_of_none e3 hnew)]; exact e3⟩
end
section
variable {X : Cx} {pins : List (Addr × Obj)} {σ : L2.St}
theorem call_list_zip {H : Hp} {s : Shared} {z TI TO i1 i2 a b : Addr} {xs ys : List V} {Q : Value → Shared → Prop} {E : Value → Shared → Prop} (hc : X.calm = true) (I : Inv X pins σ H s) (ha : SqL X.K H a xs) (hb : SqL X.K H b ys) (D : ZipApart z TI TO i1 i2 a b)
    (hf : ∀ q ∈ [z, TO, i1, i2], FpOk X pins H q) (hz0 : IsZip s.heap z TI TO .none) (hz : zSt s.heap z TI TO i1 i2 a b 0)
    (hq : ∀ s' H' S vs, Inv X pins σ (upd H' S (.lst vs)) s' → Same H H' → H S = none → H' S = none → ZipV H H' xs ys vs (min xs.length ys.length) → Q (.ref S) s') :
    wpAny (model X.prog X.w) X.A (call (.type "list") [.ref z]) Q E s := by
  have mx : xs.length ≤ sizeLine := by obtain ⟨_, _, _, m⟩ := I.list ha; exact m
  have lt : ∀ q ∈ [z, TI, TO, i1, i2], q < s.heap.objs.size := fun q hq => by
    obtain ⟨hzz, hTI, ⟨x0, y0, hTO⟩, q1, q2⟩ := hz
    have e' : q = z ∨ q = TI ∨ q = TO ∨ q = i1 ∨ q = i2 := by simpa using hq
    rcases e' with q | q | q | q | q
    · rw [q]
      rcases hzz with h | ⟨_, _, _, _, h, _⟩
      · exact Heap.lt_size h
      · exact Heap.lt_size h
    · rw [q]; exact Heap.lt_size hTI
    · rw [q]; exact Heap.lt_size hTO
    · rw [q]; obtain ⟨_, e1, _⟩ := q1; exact Heap.lt_size e1
    · rw [q]; obtain ⟨_, e2, _⟩ := q2; exact Heap.lt_size e2
  have hSf : s.heap.objs.size ∉ [z, TI, TO, i1, i2] := fun hm => Nat.lt_irrefl _ (lt _ hm)
  refine callType_codes (Q₁ := fun obj s₁ => obj = .ref s.heap.objs.size ∧ s₁ = { s with heap := s.heap.push { cls := .type "list", data := .seq #[] } }) F.called_list (F.typeCall_list_1 _) F.entry_list_init
    (code_list_new _ ⟨rfl, rfl⟩) fun obj s₁ h₁ => ?_
  obtain ⟨rfl, rfl⟩ := h₁
  have hS : (s.heap.push { cls := .type "list", data := .seq #[] }).get? s.heap.objs.size = some { cls := .type "list", data := .seq #[] } := Heap.get?_push_size _ rfl
  refine ⟨⟨_, hS, rfl⟩, F.args_list_init_2 _ _, ?_⟩
  show wpAny _ X.A.in1.in1 (do let old ← Builtin.List.listItems (.ref s.heap.objs.size); Builtin.List.listUpdate (.ref s.heap.objs.size) (fun _ => #[]); letGo old.toList.reverse; Builtin.List.listExtendWith (.ref s.heap.objs.size) (.ref z) .none) _ _ _
  refine wpAny_bind ?_
  unfold Builtin.List.listItems
  refine wpAny_bind (wpAny_seqItems hS rfl (wpAny_pure ?_))
  show wpAny _ X.A.in1.in1 (updateSeq s.heap.objs.size (fun _ => #[]) >>= fun _ => letGo (#[] : Array Value).toList.reverse >>= fun _ => Builtin.List.listExtendWith (.ref s.heap.objs.size) (.ref z) .none) _ _ _
  refine wpAny_bind (wpAny_updateSeq hS rfl ?_)
  have hS₂ := Heap.get?_update_self (Obj.mapSeq (fun _ => (#[] : Array Value))) hS rfl
  have oth : ∀ b o, b ≠ s.heap.objs.size → s.heap.get? b = some o → ((s.heap.push { cls := .type "list", data := .seq #[] }).update s.heap.objs.size (Obj.mapSeq (fun _ => (#[] : Array Value)))).get? b = some o :=
    fun b o hb e => (Heap.get?_update_other _ _ (Ne.symm hb)).trans (Heap.get?_push_of_some _ e)
  refine wpAny_bind (wpAny_letGo ?_)
  have kz : ∀ {h' : Heap}, (∀ b o, b ≠ s.heap.objs.size → s.heap.get? b = some o → h'.get? b = some o) → zSt h' z TI TO i1 i2 a b 0 := fun {h'} k => by
    have ne : ∀ q ∈ [z, TI, TO, i1, i2], q ≠ s.heap.objs.size := fun q hq => Nat.ne_of_lt (lt q hq)
    obtain ⟨hzz, hTI, ⟨x0, y0, hTO⟩, q1, q2⟩ := hz
    refine ⟨?_, k _ _ (ne _ (by simp)) hTI, ⟨_, _, k _ _ (ne _ (by simp)) hTO⟩, q1.at fun o e => k _ _ (ne _ (by simp)) e, q2.at fun o e => k _ _ (ne _ (by simp)) e⟩
    rcases hzz with h | ⟨T, f, x, y, h, hT⟩
    · exact .inl (k _ _ (ne _ (by simp)) h)
    · exact .inr ⟨T, f, x, y, k _ _ (ne _ (by simp)) h, k _ _ (Nat.ne_of_lt (Heap.lt_size hT)) hT⟩
  unfold Builtin.List.listExtendWith
  refine wpAny_bind (wpAny_typeOf ((kz oth).ty (s := { s with heap := _ })) ?_)
  have hSz : s.heap.objs.size ≠ z := fun e => hSf (by rw [e]; simp)
  have h1 : Builtin.List.listSameRef (.ref s.heap.objs.size) (.ref z) = false := by simp [Builtin.List.listSameRef, hSz]
  have h2 : (Value.type "zip" == Value.type "list") = false := by decide
  have h3 : (Value.type "zip" == Value.type "tuple") = false := by decide
  simp only [h1, h2, h3, Bool.or_false, Bool.false_eq_true, if_false]
  have zne : z ≠ s.heap.objs.size := Nat.ne_of_lt (lt z (by simp))
  refine wpAny_bind (wpAny_pyIter_zip (oth _ _ zne hz0) ?_)
  refine wpAny_bind (wpAny_holding ?_)
  unfold Builtin.List.listLengthHint
  refine wpAny_bind (wpAny_specialOf ((kz oth).ty (s := { s with heap := _ })) len_kept_zip ?_)
  show wpAny _ X.A.in1.in1 (specialOf (Value.ref z) (Str.ofString "__length_hint__") >>= _) _ _ _
  refine wpAny_bind (wpAny_specialOf ((kz oth).ty (s := { s with heap := _ })) hint_kept_zip ?_)
  refine wpAny_pure ?_
  show wpAny _ X.A.in1.in1 (rule "list.extend.makes-room" >>= fun _ => Builtin.List.listTouch (.ref s.heap.objs.size) >>= fun _ =>
    again (.builtin "list.extend.loop" ⟨[.ref s.heap.objs.size, .ref z, .none], []⟩)) _ _ _
  refine wpAny_bind (wpAny_rule ?_)
  refine wpAny_bind ?_
  show wpAny _ X.A.in1.in1 (updateSeq s.heap.objs.size (·.push .none) >>= fun _ => updateSeq s.heap.objs.size (·.pop)) _ _ _
  refine wpAny_bind (wpAny_updateSeq hS₂ rfl ?_)
  have hS₃ := Heap.get?_update_self (Obj.mapSeq (·.push Value.none)) hS₂ rfl
  refine wpAny_updateSeq (hz := by seq_fits) hS₃ rfl ?_
  have hS₄ := Heap.get?_update_self (Obj.mapSeq (·.pop)) hS₃ rfl
  have oth4 : ∀ b o, b ≠ s.heap.objs.size → s.heap.get? b = some o → ((((s.heap.push { cls := .type "list", data := .seq #[] }).update s.heap.objs.size (Obj.mapSeq (fun _ => (#[] : Array Value)))).update s.heap.objs.size (Obj.mapSeq (·.push Value.none))).update s.heap.objs.size (Obj.mapSeq (·.pop))).get? b = some o :=
    fun b o hb e => (Heap.get?_update_other _ _ (Ne.symm hb)).trans ((Heap.get?_update_other _ _ (Ne.symm hb)).trans (oth b o hb e))
  have hn : H s.heap.objs.size = none := I.hok.fresh (Nat.le_refl _)
  have fS : FpOk X pins H s.heap.objs.size := I.fpOk (Nat.le_refl _) hn
  have I4 : Inv X pins σ H { s with heap := (((s.heap.push { cls := .type "list", data := .seq #[] }).update s.heap.objs.size (Obj.mapSeq (fun _ => (#[] : Array Value)))).update s.heap.objs.size (Obj.mapSeq (·.push Value.none))).update s.heap.objs.size (Obj.mapSeq (·.pop)) } :=
    I.kept (t' := s.toks) fun b o e => oth4 b o (Nat.ne_of_lt (Heap.lt_size e)) e
  refine wpAny_pure ⟨plainId_quiet F.plain_extend_loop _, ext_loop_zip (A := X.A.in1) (H0 := H) (show X.A.handled = none from I.ok.hd hc) hc D hSf (fun s' H' acc' c' vs' I' sm f' e' r' zv => ?_) _ 0 _ H _ _ [] rfl (Nat.zero_le _) I4 (Same.refl H) ha hb (fun q hq => ?_) (kz oth4) hS₄ .nil ⟨rfl, fun j x y hj => absurd hj (Nat.not_lt_zero _)⟩⟩
  · exact ⟨rfl, hq s' H' _ vs' (inv_lay I' f' e' r' (by rw [zv.1]; omega)) sm hn f'.1 zv⟩
  · rcases List.mem_cons.mp hq with h | hq
    · rw [h]; exact fS
    · exact hf q hq
/-- the pairs of two lists -/
def tLstZip (K : PySem.W.Frag) (ta : TA) : TE := fun σ H Q => ta σ H fun vs H1 => ∃ a b xs ys, vs = [.ref a, .ref b] ∧ SqL K H1 a xs ∧ SqL K H1 b ys ∧ ∀ S H' zs, Same H1 H' → H1 S = none → H' S = none → ZipV H1 H' xs ys zs (min xs.length ys.length) → Q (.ref S) (upd H' S (.lst zs))
theorem pe_listZip {e e2 : Expr} {ta : TA} {p p2 pos pos2 : Pos} (hc : X.calm = true) (hg : Gl X "list") (hm : X.mg "list" = none) (hg2 : Gl X "zip") (hm2 : X.mg "zip" = none) (ha : PA X [e, e2] ta)
    (na : starEach [.Call (.Name "zip" p2) [e, e2] [] pos2] X.env = (false, eval (.Call (.Name "zip" p2) [e, e2] [] pos2) X.env) :: starEach [] X.env := by rfl)
    (hs : starEach [e, e2] X.env = (false, eval e X.env) :: starEach [e2] X.env := by rfl) (hpl : (backTo pos2 (starEach [e2] X.env)).any (·.1) = false := by rfl) :
    PE X (.Call (.Name "list" p) [.Call (.Name "zip" p2) [e, e2] [] pos2] [] pos) (tLstZip X.K ta) := by
  refine ⟨fun pins s σ H Q I h => ?_⟩
  refine Call_ (ld_blt I hg hm boot_list (PyProof.Rows.callWith_type1 (args_cons (Call_ (ld_blt I hg2 hm2 PyProof.Rows.boot_zip (PyProof.Rows.callWith_type1 (thn (ha.run pos2 pins s σ H _ I h) fun us s1 ⟨vs, H1, I1, r1, q1⟩ => ?_) hs hpl))) na) na))
  obtain ⟨a, b, xs, ys, ex, hqx, hqy, q⟩ := q1
  subst ex
  cases r1 with
  | cons r rr =>
    cases rr with
    | cons r' rr =>
      cases rr
      cases r
      cases r'
      obtain ⟨its, rv, p1, _⟩ := I1.list hqx
      obtain ⟨its2, rv2, p2, _⟩ := I1.list hqy
      have la : a < s1.heap.objs.size := p1.lt
      have lb : b < s1.heap.objs.size := p2.lt
      refine call_zip_2 p1.isList p2.isList fun h' hz hTI hTO h1 h2 hsz hk => args_nil ?_
      have I2 : Inv X pins σ H1 { s1 with heap := h' } := I1.kept (t' := s1.toks) hk
      refine call_list_zip hc I2 hqx hqy (PySem.W.ktu_apart s1.heap.objs.size a b la lb) (fun c hcm => ?_) hz ⟨.inl hz, hTI, ⟨_, _, hTO⟩, h1, h2⟩ fun s' H' S vs I' sm n1 n2 zv => ⟨.ref S, _, I', rfl, q S H' vs sm n1 n2 zv⟩
      have e' : c = s1.heap.objs.size + 4 ∨ c = s1.heap.objs.size + 3 ∨ c = s1.heap.objs.size ∨ c = s1.heap.objs.size + 1 := by simpa using hcm
      have hle : s1.heap.objs.size ≤ c := by
        rcases e' with z | z | z | z
        · rw [z]; exact Nat.le_add_right _ _
        · rw [z]; exact Nat.le_add_right _ _
        · rw [z]; exact Nat.le_refl _
        · rw [z]; exact Nat.le_add_right _ _
      exact I1.fpOk hle (I1.hok.fresh hle)
end
section
variable {α β : Type} {R : Rep α} {B : Rep β} {M : Mx} {F0 H0 F H : Hp} {ss : List Sa} {cs : List (Addr × Ca)} {σ : L2.St} {K : PySem.W.Frag} {Q : VK} {v w : V} {l : List α} {l2 : List β}
def NewZ (K : PySem.W.Frag) (vs : List V) (H : Hp) (Q : VK) : Prop := ∃ a b xs ys, vs = [.ref a, .ref b] ∧ SqL K H a xs ∧ SqL K H b ys ∧ ∀ S H' zs, Same H H' → H S = none → H' S = none → ZipV H H' xs ys zs (min xs.length ys.length) → Q (.ref S) (upd H' S (.lst zs))
theorem m_lstZ {ta : TA} (h : ta σ H fun vs H1 => NewZ K vs H1 Q) : tLstZip K ta σ H Q := h
theorem w_lzX (h : Wst M F0 H0 ss cs σ F H) (r1 : LV R F H v l) (r2 : LV B F H w l2) (q : ∀ F' H' vs, Same F F' → Same H H' → Wst M F0 H0 ss cs σ F' H' → A2 ((rT2 R B).r F') vs (l.zip l2) → ∀ p, H' p = none → Q (.ref p) (upd H' p (.lst vs))) : NewZ K [v, w] H Q := by
  obtain ⟨p, vs, rfl, hp, hv⟩ := r1
  obtain ⟨p2, ws, rfl, hp2, hw⟩ := r2
  refine ⟨_, _, vs, ws, rfl, sq_l hp, sq_l hp2, fun S H' zs sm n1 n2 zv => ?_⟩
  have x := ext_gw (T := M.tl) h.fh h.nt sm
  refine q _ H' zs x.ff sm (h.grow x) (a2_of_get ?_ fun j a b e1 e2 => ?_) S n2
  · rw [zv.1, List.length_zip, hv.len, hw.len]
  · rw [List.getElem?_zip_eq_some] at e2
    obtain ⟨c, hc, rc⟩ := hv.getB e2.1
    obtain ⟨d, hd, rd⟩ := hw.getB e2.2
    have hj : j < min vs.length ws.length := by
      have := (List.getElem?_eq_some_iff.mp hc).1
      have := (List.getElem?_eq_some_iff.mp hd).1
      omega
    obtain ⟨t, h1, h2, h3⟩ := zv.2 j c d hj hc hd
    rw [e1] at h1
    cases h1
    exact ⟨t, c, d, rfl, gw_at h2 h3, R.mono x.ff rc, B.mono x.ff rd⟩
theorem w_lzF (h : Wst M F0 H0 ss cs σ F H) (r1 : LV R F H v l) (r2 : LV B F H w l2) (q : ∀ v' F' H', Same F F' → Wst M F0 H0 ss cs σ F' H' → (rL (rT2 R B)).r F' v' (l.zip l2) → Q v' H') : NewZ K [v, w] H Q :=
  w_lzX h r1 r2 fun F' H' vs s s2 h' a => w_newF h' a fun v' F2 H2 s3 => q v' F2 H2 (s.trans s3)
theorem w_lzC (h : Wst M F0 H0 ss cs σ F H) (r1 : LV R F H v l) (r2 : LV B F H w l2) (q : ∀ p F' H', H0 p = none → Same F F' → Wst M F0 H0 ss ((p, cL (rT2 R B) (l.zip l2)) :: cs) σ F' H' → Q (.ref p) H') : NewZ K [v, w] H Q :=
  w_lzX h r1 r2 fun F' H' vs s s2 h' a => w_newC h' a fun p H2 o h2 => q p F' H2 o s h2
end
/-! ### sum(lists, []) -/
theorem args_sum2 (a b : Value) : argsOk "sum" ⟨[a, b], []⟩ := by unfold argsOk; kernel_rfl
theorem sub_list_str' : isSubtype (.type "list") (.type "str") = pure false := by rw [isSubtype_type]; kernel_rfl
theorem sub_list_bytes' : isSubtype (.type "list") (.type "bytes") = pure false := by rw [isSubtype_type]; kernel_rfl
theorem sub_list_bytearray' : isSubtype (.type "list") (.type "bytearray") = pure false := by rw [isSubtype_type]; kernel_rfl
section
variable {X : Cx} {pins : List (Addr × Obj)} {σ : L2.St}
/-- each is a list -/
def RowsAt (H : Hp) (rows : List V) (xss : List (List V)) : Prop := rows.length = xss.length ∧ ∀ (i : Nat) v xs, rows[i]? = some v → xss[i]? = some xs → ∃ a, v = .ref a ∧ H a = some (.lst xs)
theorem RowsAt.same {H H' : Hp} {rows : List V} {xss : List (List V)} (h : RowsAt H rows xss) (s : Same H H') : RowsAt H' rows xss := ⟨h.1, fun i v xs e1 e2 => by
  obtain ⟨a, e, q⟩ := h.2 i v xs e1 e2
  exact ⟨a, e, s _ _ q⟩⟩
/-- the sum so far -/
def SumAt (H0 H : Hp) (b p : Addr) (xss : List (List V)) (i : Nat) : Prop := (i = 0 ∧ H = H0 ∧ p = b) ∨ ∃ G, H = upd G p (.lst (xss.take i).flatten) ∧ Same H0 G ∧ G p = none
theorem SumAt.same {H0 H : Hp} {b p : Addr} {xss : List (List V)} {i : Nat} (h : SumAt H0 H b p xss i) : Same H0 H := by
  rcases h with ⟨_, e, _⟩ | ⟨G, e, s, n⟩
  · rw [e]; exact Same.refl _
  · rw [e]; exact s.trans (same_new n)
theorem sum_loop_lists {A : Around} {R : Result → Shared → Prop} {S it l b : Addr} {rows : List V} {xss : List (List V)} {H0 : Hp} (hA : A.in1.handled = none) (hne : S ≠ it) (hl : H0 l = some (.lst rows)) (hb : H0 b = some (.lst [])) (hr : RowsAt H0 rows xss) (hz : xss.flatten.length ≤ 100000)
    (hR : ∀ s' H' p, Inv X pins σ H' s' → SumAt H0 H' b p xss xss.length → R (.ok (.ret (.ref p))) s') :
    ∀ (k i : Nat) (s : Shared) (H : Hp) (p : Addr) (c : Nat) (st : Int), xss.length - i = k → i ≤ xss.length → Inv X pins σ H s → SumAt H0 H b p xss i → FpOk X pins H S → FpOk X pins H it → s.heap.IsListIter it l i →
      s.heap.get? S = some { cls := .type "list", dict := none, data := .seq #[.ref p] c, slots := #[] } →
      codeAny (model X.prog X.w) A (.builtin "sum.loop" ⟨[.ref it, .ref S, rawInt st, rawInt 0], []⟩) R s := by
  intro k
  induction k with
  | zero =>
    intro i s H p c st hk hi I sa fS fi hit hS
    have hin : i = xss.length := by omega
    subst hin
    obtain ⟨_, its, n, rv, lv, e⟩ := I.lstM (sa.same _ _ hl)
    refine codeAny_builtin F.entry_sum_loop ?_
    rw [Around.under_plainId F.plain_sum_loop _]
    show wpAny _ A.in1 (seqItems? (.ref S) >>= _) _ _ s
    refine wpAny_bind (wpAny_seqItems hS rfl ?_)
    show wpAny _ A.in1 (tryCatch (pyNext (.ref it)) _ >>= _) _ _ s
    refine wpAny_bind (wpAny_tryCatch (wpAny_pyNext_list_end hA hit (items := its.toArray) ⟨_, e, rfl, _, rfl⟩ ?_ fun h' eb => ?_))
    · have := hr.1
      simp
      omega
    · refine wpAny_pure (hR _ H p ?_ sa)
      exact I.turnedL (t' := s.toks) (ch := [it]) (fun b o n e => eb b o (fun z => n (by rw [z]; exact List.mem_singleton.mpr rfl)) e) fun q hq => by rw [List.mem_singleton.mp hq]; exact fi
  | succ k ih =>
    intro i s H p c st hk hi I sa fS fi hit hS
    have hlt : i < xss.length := by omega
    have hlt2 : i < rows.length := by rw [hr.1]; exact hlt
    obtain ⟨_, its, n, rv, lv, e⟩ := I.lstM (sa.same _ _ hl)
    obtain ⟨u, hu, ru⟩ := rv.get (List.getElem?_eq_getElem hlt2)
    obtain ⟨a, ea, ha⟩ := hr.2 i _ _ (List.getElem?_eq_getElem hlt2) (List.getElem?_eq_getElem hlt)
    rw [ea] at ru
    obtain rfl : u = .ref a := ru
    refine codeAny_builtin F.entry_sum_loop ?_
    rw [Around.under_plainId F.plain_sum_loop _]
    show wpAny _ A.in1 (seqItems? (.ref S) >>= _) _ _ s
    refine wpAny_bind (wpAny_seqItems hS rfl ?_)
    show wpAny _ A.in1 (tryCatch (pyNext (.ref it)) _ >>= _) _ _ s
    refine wpAny_bind (wpAny_tryCatch (wpAny_pyNext_list_item hit (items := its.toArray) ⟨_, e, rfl, _, rfl⟩ (x := .ref a) (by simpa using hu) fun h' hit' sb => ?_))
    have hS' := sb.extBut _ _ hne hS
    have I1 : Inv X pins σ H { s with heap := h' } := I.turnedL (t' := s.toks) (ch := [it]) (fun b o n e => sb.extBut _ _ (fun z => n (by rw [z]; exact List.mem_singleton.mpr rfl)) e) fun q hq => by rw [List.mem_singleton.mp hq]; exact fi
    have hp : H p = some (.lst (xss.take i).flatten) := by
      rcases sa with ⟨z, e1, e2⟩ | ⟨G, e1, _, _⟩
      · rw [z, e1, e2]; exact hb
      · rw [e1]; exact upd_same
    obtain ⟨z1, t1, n1, r1, l1, g1⟩ := I1.lstM hp
    obtain ⟨z2, t2, n2, r2, l2, g2⟩ := I1.lstM (sa.same _ _ ha)
    have hsum : (xss.take i).flatten ++ xss[i] = (xss.take (i + 1)).flatten := by
      rw [List.take_succ_eq_append_getElem hlt, List.flatten_append, List.flatten_singleton]
    have hle : ((xss.take i).flatten ++ xss[i]).length ≤ 100000 := by
      have : xss.flatten.length = ((xss.take (i + 1)).flatten).length + ((xss.drop (i + 1)).flatten).length := by
        rw [← List.length_append, ← List.flatten_append, List.take_append_drop]
      rw [hsum]
      omega
    have hsz := hle
    rw [List.length_append] at hsz
    show wpAny _ A.in1 ((holding [.ref a] (binaryOp .Add (.ref p) (.ref a))).attempt >>= _) _ _ _
    refine wpAny_bind (wpAny_attempt (wpAny_holding (PySem.P.add_list g1 g2 ?_ (by rw [List.size_toArray, List.size_toArray]; have := sz_ok (n := 100000) (Nat.le_refl _); omega))))
    have ea' : t1.toArray ++ t2.toArray = (t1 ++ t2).toArray := by simp
    rw [ea']
    have I2 := Inv.lnew (t' := s.toks) I1 (r1.append r2) (sz_ok hle)
    have hS2 := Heap.get?_push_of_some { cls := .type "list", data := .seq (t1 ++ t2).toArray } hS'
    have hnew : H h'.objs.size = none := I1.hok.fresh (Nat.le_refl _)
    have ltS : S < h'.objs.size := Heap.lt_size hS'
    have lti : it < h'.objs.size := by obtain ⟨_, e1, _⟩ := hit'; exact Heap.lt_size e1
    show wpAny _ A.in1 (updateSeq S (fun _ => #[.ref h'.objs.size]) >>= _) _ _ _
    refine wpAny_bind (wpAny_updateSeq hS2 rfl ?_)
    have hS3 := Heap.get?_update_self (Obj.mapSeq (fun _ => #[Value.ref h'.objs.size])) hS2 rfl
    refine wpAny_bind (wpAny_letGo ?_)
    show wpAny _ A.in1 (updateSeq S (fun _ => #[.ref h'.objs.size]) >>= _) _ _ _
    refine wpAny_bind (wpAny_updateSeq hS3 rfl ?_)
    have hS4 := Heap.get?_update_self (Obj.mapSeq (fun _ => #[Value.ref h'.objs.size])) hS3 rfl
    have fS2 : FpOk X pins (upd H h'.objs.size (.lst ((xss.take i).flatten ++ xss[i]))) S := fp_upd fS (Nat.ne_of_lt ltS)
    have fi2 : FpOk X pins (upd H h'.objs.size (.lst ((xss.take i).flatten ++ xss[i]))) it := fp_upd fi (Nat.ne_of_lt lti)
    have oth : ∀ b o, b ≠ S → (h'.push { cls := .type "list", data := .seq (t1 ++ t2).toArray }).get? b = some o →
        (((h'.push { cls := .type "list", data := .seq (t1 ++ t2).toArray }).update S (Obj.mapSeq fun _ => #[Value.ref h'.objs.size])).update S (Obj.mapSeq fun _ => #[Value.ref h'.objs.size])).get? b = some o :=
      fun b o n e => (Heap.get?_update_other _ _ (Ne.symm n)).trans ((Heap.get?_update_other _ _ (Ne.symm n)).trans e)
    refine wpAny_pure ⟨plainId_quiet F.plain_sum_loop _, ih (i + 1) _ (upd H h'.objs.size (.lst ((xss.take i).flatten ++ xss[i]))) h'.objs.size _ 2 (by omega) (by omega) ?_ (.inr ⟨H, by rw [hsum], sa.same, hnew⟩) fS2 fi2 ?_ hS4⟩
    · exact Inv.turnedL (s := { s with heap := h'.push { cls := .type "list", data := .seq (t1 ++ t2).toArray } }) I2 (t' := s.toks) (ch := [S]) (fun b o n e => oth b o (fun z => n (by rw [z]; exact List.mem_singleton.mpr rfl)) e) fun q hq => by rw [List.mem_singleton.mp hq]; exact fS2
    · exact hit'.at fun o e => oth _ _ (Ne.symm hne) (Heap.get?_push_of_some _ e)
/-- sum(lists, start): the start list is new, and empty -/
def rSumL : List V → Hp → VK → Prop := fun vs H Q => ∃ (l b : Addr) (rows : List V) (xss : List (List V)), vs = [.ref l, .ref b] ∧ H l = some (.lst rows) ∧ H b = some (.lst []) ∧ RowsAt H rows xss ∧ xss.flatten.length ≤ 100000 ∧
  (xss = [] → Q (.ref b) H) ∧ ∀ G p, Same H G → G p = none → Q (.ref p) (upd G p (.lst xss.flatten))
theorem cr_sumL (hc : X.calm = true) : CallR X (.builtin "sum") rSumL := by
  intro pins s σ H vs us Q I r h
  obtain ⟨l, b, rows, xss, rfl, hl, hb, hr, hz, q0, q1⟩ := h
  obtain ⟨_, its, n, rv, lv, e⟩ := I.lstM hl
  obtain ⟨_, itb, nb, _, _, eb⟩ := I.lstM hb
  cases r with
  | cons r rr =>
    cases rr with
    | cons r' rr =>
      cases rr
      cases r
      cases r'
      refine call_function_tree F.kind_sum F.plain_sum F.entry_sum (args_sum2 _ _) ?_
      unfold Builtin.«sum»
      simp only [List.length_cons, List.length_nil]
      rw [if_neg (by decide)]
      refine wpAny_bind (wpAny_of_eq (show Builtin.Builtins.bindParams "sum" ["start"] 0 ⟨[.ref b], []⟩ = pure [some (.ref b)] from rfl) ?_)
      refine wpAny_bind (wpAny_pyIter_list (items := its.toArray) ⟨_, e, rfl, _, rfl⟩ ?_)
      refine wpAny_bind (wpAny_pure ?_)
      simp only [List.forIn_cons, List.forIn_nil]
      have tb : Shared.TypeIs { s with heap := s.heap.push { cls := .type "list_iterator", data := .fields #[.ref l, .int 0 0] } } (.ref b) "list" := ⟨_, Heap.get?_push_of_some _ eb, rfl⟩
      refine wpAny_bind (wpAny_bind (wpAny_bind (wpAny_isInstance (T := "list") (b := false) tb sub_list_str' ?_)))
      simp only [Bool.false_eq_true, if_false]
      refine wpAny_pure (wpAny_bind (wpAny_bind (wpAny_isInstance (T := "list") (b := false) tb sub_list_bytes' ?_)))
      simp only [Bool.false_eq_true, if_false]
      refine wpAny_pure (wpAny_bind (wpAny_bind (wpAny_isInstance (T := "list") (b := false) tb sub_list_bytearray' ?_)))
      simp only [Bool.false_eq_true, if_false]
      refine wpAny_pure (wpAny_pure ?_)
      refine wpAny_bind (wpAny_newObj_type ?_)
      have hn0 : H s.heap.objs.size = none := I.hok.fresh (Nat.le_refl _)
      have sz : (s.heap.push { cls := .type "list_iterator", data := .fields #[.ref l, .int 0 0] }).objs.size = s.heap.objs.size + 1 := Heap.size_push ..
      have hn1 : H (s.heap.objs.size + 1) = none := I.hok.fresh (Nat.le_succ _)
      refine wpAny_pure ⟨plainId_quiet F.plain_sum_loop _, sum_loop_lists (X := X) (pins := pins) (σ := σ) (A := X.A) (H0 := H) (show X.A.handled = none from I.ok.hd hc) ?_ hl hb hr hz (fun s' H' p I' sa => ?_) _ 0 _ H b _ 2 rfl (Nat.zero_le _) ?_ (.inl ⟨rfl, rfl, rfl⟩) ?_ ?_ ?_ (Heap.get?_push_size _ rfl)⟩
      · rw [sz]; exact Nat.succ_ne_self _
      · rcases sa with ⟨z, e1, e2⟩ | ⟨G, e1, sm, hg⟩
        · rw [e1] at I'
          rw [e2]
          exact ⟨.ref b, H, I', rfl, q0 (List.eq_nil_of_length_eq_zero z)⟩
        · rw [e1, List.take_of_length_le (Nat.le_refl _)] at I'
          exact ⟨.ref p, _, I', rfl, q1 G p sm hg⟩
      · exact I.kept (t' := s.toks) fun b u e => Heap.get?_push_of_some _ (Heap.get?_push_of_some _ e)
      · rw [sz]; exact I.fpOk (Nat.le_succ _) hn1
      · exact I.fpOk (Nat.le_refl _) hn0
      · exact ⟨_, Heap.get?_push_of_some _ (Heap.get?_push_size _ rfl), rfl, rfl⟩
end
section
variable {α : Type} {R : Rep α} {M : Mx} {F0 H0 F H : Hp} {ss : List Sa} {cs : List (Addr × Ca)} {σ : L2.St} {Q : VK} {v : V} {l : List (List α)} {c : Addr}
theorem rows_of (s : Same F H) : ∀ {l : List (List α)} {vs : List V}, A2 ((rL R).r F) vs l → ∃ xss : List (List V), RowsAt H vs xss ∧ A2 (R.r F) xss.flatten l.flatten ∧ (xss = [] → l = [])
  | [], _, h => by
    cases h
    exact ⟨[], ⟨rfl, fun i v xs e => by simp at e⟩, .nil, fun _ => rfl⟩
  | x :: r, _, h => by
    cases h with
    | cons h1 h2 =>
      rename_i u us
      obtain ⟨a, ys, rfl, ha, hy⟩ := h1
      obtain ⟨xss, q1, q2, _⟩ := rows_of s h2
      refine ⟨ys :: xss, ⟨by rw [List.length_cons, List.length_cons, q1.1], fun i v xs e1 e2 => ?_⟩, ?_, fun z => by cases z⟩
      · cases i with
        | zero =>
          cases e1; cases e2
          exact ⟨a, rfl, s _ _ ha⟩
        | succ i => exact q1.2 i v xs e1 e2
      · rw [List.flatten_cons, List.flatten_cons]
        exact hy.app q2
theorem w_sumLL (h : Wst M F0 H0 ss ((c, cL R []) :: cs) σ F H) (r : LV (rL R) F H v l) (z : l.flatten.length ≤ 100000) (q : ∀ p F' H', H0 p = none → Same F F' → Wst M F0 H0 ss ((p, cL R l.flatten) :: cs) σ F' H' → Q (.ref p) H') (hc : H0 c = none) : rSumL [v, .ref c] H Q := by
  obtain ⟨p, vs, rfl, hp, hv⟩ := r
  obtain ⟨o, h1, ws, rfl, hw⟩ := h.cell (k := 0) rfl
  cases hw
  obtain ⟨xss, q1, q2, q3⟩ := rows_of h.fh hv
  refine ⟨p, c, vs, xss, rfl, hp, h1, q1, by rw [q2.len]; exact z, fun e => ?_, fun G p' sm hg => ?_⟩
  · rw [q3 e] at q
    exact q c F H hc (Same.refl F) h
  · have x := ext_gw (T := M.tl) h.fh h.nt sm
    have h2 := (h.dropC 0).grow x
    have h2 : Wst M F0 H0 ss cs σ (Gw F H G) G := h2
    exact w_newC h2 (q2.imp fun _ _ => R.mono x.ff) (fun p2 H2 o h3 => q p2 _ H2 o x.ff h3) p' hg
end
/-! ### sorted of data of a kind -/
section
open PySem.W
structure Alk {α : Type} {R : Rep α} (D : Dat R) : Prop where
  al : ∀ a b, alike (D.d a) (D.d b) = true
  ok : (∀ a, ∃ x r, D.d a = .tuple (x :: r)) ∨ ∀ a, D.d a ≠ .none ∧ ∀ xs, D.d a ≠ .tuple xs
variable {α β γ : Type} {R : Rep α} {S : Rep β} {T : Rep γ}
theorem alkN : Alk dtN := ⟨fun a b => by simp [dtN, alike], .inr fun a => ⟨(fun z => by cases z), (fun xs z => by cases z)⟩⟩
theorem alkZ : Alk dtZ := ⟨fun a b => by simp [dtZ, alike], .inr fun a => ⟨(fun z => by cases z), (fun xs z => by cases z)⟩⟩
theorem alk_all {D : Dat R} (h : Alk D) : ∀ l m : List α, alikeAll (l.map D.d) (m.map D.d) = true
  | [], m => by simp [alikeAll]
  | _ :: _, [] => by simp [alikeAll]
  | a :: l, b :: m => by
    rw [List.map_cons, List.map_cons, alikeAll, h.al, alk_all h l m]
    rfl
theorem alkL {D : Dat R} (h : Alk D) : Alk (dtL D) := ⟨fun a b => by
  show alike (.list (a.map D.d)) (.list (b.map D.d)) = true
  rw [alike]
  exact alk_all h a b, .inr fun a => ⟨(fun z => by cases z), (fun xs z => by cases z)⟩⟩
theorem alkT2 {D : Dat R} {E : Dat S} (h : Alk D) (k : Alk E) : Alk (dtT2 D E) := ⟨fun a b => by
  show alike (.tuple [D.d a.1, E.d a.2]) (.tuple [D.d b.1, E.d b.2]) = true
  simp [alike, alikeAll, h.al, k.al], .inl fun a => ⟨_, _, rfl⟩⟩
theorem alkT3 {D : Dat R} {E : Dat S} {G : Dat T} (h : Alk D) (k : Alk E) (g : Alk G) : Alk (dtT3 D E G) := ⟨fun a b => by
  show alike (.tuple [D.d a.1, E.d a.2.1, G.d a.2.2]) (.tuple [D.d b.1, E.d b.2.1, G.d b.2.2]) = true
  simp [alike, alikeAll, h.al, k.al, g.al], .inl fun a => ⟨_, _, rfl⟩⟩
/-- in the order of the data -/
def srtD (d : α → PyData) (l : List α) : List α := l.mergeSort (dataLe false d)
theorem a2_srt {P : V → α → Prop} {d : α → PyData} {vs : List V} {l : List α} (h : A2 P vs l) : A2 P (srtV vs (l.map d)) (srtD d l) := by
  have hl := h.len
  unfold srtV srtD
  have e1 : vs.zip (l.map d) = (vs.zip l).map fun p => (p.1, d p.2) := by
    rw [List.zip_map_right]
    rfl
  have e2 : l = (vs.zip l).map (·.2) := (List.map_snd_zip (by omega)).symm
  have q1 : ((vs.zip l).map fun p => (p.1, d p.2)).mergeSort (dataLe false (·.2)) = ((vs.zip l).mergeSort (dataLe false fun p => d p.2)).map fun p => (p.1, d p.2) :=
    (List.map_mergeSort (f := fun p : V × α => (p.1, d p.2)) (r := dataLe false fun p : V × α => d p.2) (s := dataLe false (·.2)) fun a _ b _ => rfl).symm
  have q2 : ((vs.zip l).map (·.2)).mergeSort (dataLe false d) = ((vs.zip l).mergeSort (dataLe false fun p => d p.2)).map (·.2) :=
    (List.map_mergeSort (f := fun p : V × α => p.2) (r := dataLe false fun p : V × α => d p.2) (s := dataLe false d) fun a _ b _ => rfl).symm
  rw [e1, q1, List.map_map]
  have q3 : l.mergeSort (dataLe false d) = ((vs.zip l).mergeSort (dataLe false fun p => d p.2)).map (·.2) := by
    rw [← q2, ← e2]
  rw [q3]
  have mem : ∀ p ∈ (vs.zip l).mergeSort (dataLe false fun p => d p.2), P p.1 p.2 := fun p hp => by
    have hp := List.mem_mergeSort.mp hp
    obtain ⟨i, hi⟩ := List.getElem?_of_mem hp
    rw [List.getElem?_zip_eq_some] at hi
    obtain ⟨b, hb, r⟩ := h.get hi.1
    rw [hi.2] at hb
    cases hb
    exact r
  generalize (vs.zip l).mergeSort (dataLe false fun p => d p.2) = zs at mem ⊢
  clear q1 q2 q3 e1 e2 hl h
  induction zs with
  | nil => exact .nil
  | cons p r ih => exact .cons (mem p (List.mem_cons_self ..)) (ih fun q hq => mem q (List.mem_cons_of_mem _ hq))
variable {M : Mx} {F0 H0 F H : Hp} {ss : List Sa} {cs : List (Addr × Ca)} {σ : L2.St} {K : PySem.W.Frag} {Q : VK} {v : V} {l : List α}
theorem srtd_pre {D : Dat R} (A : Alk D) (s : Same F H) (r : LV R F H v l) (z : D.n ≤ 40) (q : ∀ vs, A2 (R.r F) vs (srtD D.d l) → ∀ p, H p = none → Q (.ref p) (upd H p (.lst vs))) : rSortA K [v] H Q := by
  obtain ⟨p, vs, rfl, hp, hv⟩ := r
  refine ⟨p, vs, l.map D.d, rfl, sq_l hp, dt_all D s hv, fun d hd d' hd' => ?_, ?_, fun d hd => ?_, q _ (a2_srt hv)⟩
  · obtain ⟨a, _, rfl⟩ := List.mem_map.mp hd
    obtain ⟨b, _, rfl⟩ := List.mem_map.mp hd'
    exact A.al a b
  · rcases A.ok with h | h
    · exact .inl fun d hd => by
        obtain ⟨a, _, rfl⟩ := List.mem_map.mp hd
        exact h a
    · exact .inr fun d hd => by
        obtain ⟨a, _, rfl⟩ := List.mem_map.mp hd
        exact h a
  · obtain ⟨a, _, rfl⟩ := List.mem_map.mp hd
    exact Nat.le_trans (D.dep a) z
theorem w_srtDF {D : Dat R} (h : Wst M F0 H0 ss cs σ F H) (r : LV R F H v l) (A : Alk D) (z : D.n ≤ 40) (q : ∀ v F' H', Same F F' → Wst M F0 H0 ss cs σ F' H' → (rL R).r F' v (srtD D.d l) → Q v H') : rSortA K [v] H Q := srtd_pre A h.fh r z fun _ hv => w_newF h hv q
theorem w_srtDC {D : Dat R} (h : Wst M F0 H0 ss cs σ F H) (r : LV R F H v l) (A : Alk D) (z : D.n ≤ 40) (q : ∀ p H', H0 p = none → Wst M F0 H0 ss ((p, cL R (srtD D.d l)) :: cs) σ F H' → Q (.ref p) H') : rSortA K [v] H Q := srtd_pre A h.fh r z fun _ hv => w_newC h hv q
/-- an order of tuples and lists of numbers, in plain words -/
theorem dataLe_nl : dataLe false (dtT2 dtN (dtL dtN)).d = fun p q => decide (p.1 < q.1 ∨ (p.1 = q.1 ∧ p.2 ≤ q.2)) := by
  have h : ∀ l : List Nat, l.map dtN.d = (l.map fun n : Nat => (n : Int)).map PyData.int := fun l => by rw [List.map_map]; rfl
  have lt : ∀ a b : List Nat, (a.map fun n : Nat => (n : Int)) < (b.map fun n : Nat => (n : Int)) ↔ a < b := by
    intro a
    induction a with
    | nil => intro b; cases b <;> simp
    | cons x r ih =>
      intro b
      cases b with
      | nil => simp
      | cons y s =>
        rw [List.map_cons, List.map_cons, List.cons_lt_cons_iff, List.cons_lt_cons_iff, ih, Int.ofNat_lt, Int.ofNat_inj]
  funext p q
  show (!dataLt (.tuple [.int (q.1 : Int), .list (q.2.map dtN.d)]) (.tuple [.int (p.1 : Int), .list (p.2.map dtN.d)])) = _
  have al : ∀ a b : List Nat, alike (.list (a.map dtN.d)) (.list (b.map dtN.d)) = true := fun a b => (alkL alkN).al a b
  have ev : PyData.eqv (.list (q.2.map dtN.d)) (.list (p.2.map dtN.d)) = decide (q.2 = p.2) := dt_eq (dtL dtN) q.2 p.2
  have dl : dataLt (.list (q.2.map dtN.d)) (.list (p.2.map dtN.d)) = decide (q.2 < p.2) := by
    rw [dataLt_list]
    show rowLt (q.2.map dtN.d) (p.2.map dtN.d) = _
    rw [h, h, dataLt_ints]
    exact decide_eq_decide.mpr (lt _ _)
  rw [dataLt_pair (by simp [alike]) (al _ _), ev, dl, dataLt_int]
  obtain ⟨a, l⟩ := p
  obtain ⟨b, m⟩ := q
  have key : (l ≤ m) ↔ ¬ (m < l) := List.not_lt.symm
  have e0 : PyData.eqv (.int (b : Int)) (.int (a : Int)) = decide (b = a) := by
    show ((b : Int) == (a : Int)) = _
    rw [Bool.eq_iff_iff, beq_iff_eq, decide_eq_true_eq, Int.ofNat_inj]
  have e1 : decide ((b : Int) < (a : Int)) = decide (b < a) := decide_eq_decide.mpr Int.ofNat_lt
  show (!if PyData.eqv (.int (b : Int)) (.int (a : Int)) = true then (if decide (m = l) = true then false else decide (m < l)) else decide ((b : Int) < (a : Int))) = decide (a < b ∨ (a = b ∧ l ≤ m))
  rw [e0, e1, Bool.eq_iff_iff]
  refine Iff.trans ?_ (decide_eq_true_eq (p := a < b ∨ (a = b ∧ l ≤ m)).symm.to_iff)
  by_cases h1 : b = a
  · rw [if_pos (decide_eq_true h1)]
    by_cases h2 : m = l
    · rw [if_pos (decide_eq_true h2), h1, h2]
      exact ⟨fun _ => .inr ⟨rfl, List.le_refl l⟩, fun _ => rfl⟩
    · rw [if_neg (by rw [decide_eq_true_eq]; exact h2), h1]
      rw [Bool.not_eq_true', decide_eq_false_iff_not]
      exact ⟨fun h => .inr ⟨rfl, key.mpr h⟩, fun h => by
        rcases h with h | h
        · omega
        · exact key.mp h.2⟩
  · rw [if_neg (by rw [decide_eq_true_eq]; exact h1), Bool.not_eq_true', decide_eq_false_iff_not]
    exact ⟨fun h => .inl (by omega), fun h => by
      rcases h with h | h
      · omega
      · omega⟩
end
/-! ### enumerate(list); a star in a display -/
def enumL {α : Type} (l : List α) : List (Nat × α) := (List.range l.length).zip l
theorem enumL_len {α : Type} (l : List α) : (enumL l).length = l.length := by unfold enumL; rw [List.length_zip, List.length_range, Nat.min_self]
theorem enumL_get {α : Type} {l : List α} {i : Nat} {a : α} (h : l[i]? = some a) : (enumL l)[i]? = some (i, a) := by
  have hi := (List.getElem?_eq_some_iff.mp h).1
  unfold enumL
  rw [List.getElem?_zip_eq_some]
  exact ⟨List.getElem?_range hi, h⟩
theorem k_enum {X : Cx} (K : PySem.W.Frag) {e : Expr} {ta : TA} {p pos tpos : Pos} {elts : List Expr} {kk : Nat} (hg : Gl X "enumerate") (hm : X.mg "enumerate" = none) (ha : PA X [e] ta) (hK : X.K = K := by rfl)
    (hs : starEach [e] X.env = [(false, eval e X.env)] := by rfl) : PI X (.Tuple elts kk tpos) (.Call (.Name "enumerate" p) [e] [] pos) (iEnum K ta) := by
  subst hK
  exact pi_enum hg hm ha hs
theorem k_star {X : Cx} (K : PySem.W.Frag) {e : Expr} {es : List Expr} {te : TE} {t : TA} {p : Pos} (he : PE X e te) (hr : PA X es t) (hK : X.K = K := by rfl) (hs : starEach (.Starred e p :: es) X.env = (true, eval e X.env) :: starEach es X.env := by rfl) : PA X (.Starred e p :: es) (StX.tStar K te t) := by
  subst hK
  exact StX.pa_star he hr hs
def Ze (K : PySem.W.Frag) (vs : List V) (H : Hp) (R : It → Hp → Prop) : Prop := ∃ a xs, vs = [.ref a] ∧ SqL K H a xs ∧ R (Ite K a) H
def StG (K : PySem.W.Frag) (y : V) (H : Hp) (R : List V → Prop) : Prop := ∃ a xs, y = .ref a ∧ (SqT K H a xs ∨ SqL K H a xs) ∧ R xs
section
variable {α : Type} {R : Rep α} {F H : Hp} {K : PySem.W.Frag} {σ : L2.St} {v : V} {xs : List α} {ta t : TA} {te : TE}
theorem x_enum {Rr : It → Hp → Prop} (h : ta σ H fun vs H1 => Ze K vs H1 Rr) : iEnum K ta σ H Rr := h
theorem x_star {Q : List V → Hp → Prop} (h : te σ H fun y H1 => StG K y H1 fun xs => t σ H1 fun vs H2 => Q (xs ++ vs) H2) : StX.tStar K te t σ H Q := h
theorem w_ze {Rr : It → Hp → Prop} (l1 : LV R F H v xs) (q : ∀ a, v = .ref a → Rr (Ite K a) H) : Ze K [v] H Rr := by
  obtain ⟨a, vs, rfl, hp, _⟩ := l1
  exact ⟨a, vs, rfl, sq_l hp, q a rfl⟩
theorem w_star {Rr : List V → Prop} (l1 : LV R F H v xs) (q : ∀ vs, A2 (R.r F) vs xs → Rr vs) : StG K v H Rr := by
  obtain ⟨a, vs, rfl, hp, hv⟩ := l1
  exact ⟨a, vs, rfl, .inr (sq_l hp), q vs hv⟩
theorem jok_e {a : Addr} (s : Same F H) (nt : NoT F) (l1 : LV R F H (.ref a) xs) : JOk (Ite K a) (rT2 rN R) (enumL xs) F H := by
  obtain ⟨p, vs, e, hp, hv⟩ := l1
  cases e
  have z1 := hv.len
  intro i
  rw [enumL_len]
  refine ⟨fun hi => ?_, fun hi => ⟨vs, sq_l hp, by omega⟩⟩
  have e1 : vs[i]? = some (vs[i]'(by omega)) := List.getElem?_eq_getElem (by omega)
  refine ⟨⟨vs, _, sq_l hp, e1⟩, fun x H'' y => ?_⟩
  obtain ⟨t, x', rfl, ht, rfl, f1⟩ := y
  have x0 : ∀ T, Ext ⟨[], T⟩ F H (upd F t (.tup [.int (i : Nat), x'])) (upd H t (.tup [.int (i : Nat), x'])) := fun T => ext_new (o := .tup [.int (i : Nat), x']) s nt ht
  have x1 := x0 []
  refine ⟨_, x0, fun a ha => ?_⟩
  obtain ⟨c, hc, r1⟩ := hv.get (f1 vs (sq_l hp))
  rw [enumL_get hc] at ha
  cases ha
  exact ⟨t, _, x', rfl, upd_same, rfl, R.mono x1.ff r1⟩
end
/-! ### what is new since the def began -/
section
variable {α β : Type} {R S : Rep α} {T : Rep β} {M : Mx} {F0 H0 F H H1 : Hp} {ss : List Sa} {cs : List (Addr × Ca)} {σ : L2.St} {v : V}
def rNw (H0 : Hp) (R : Rep α) : Rep α := ⟨fun F v a => R.r F v a ∧ ∃ p, v = .ref p ∧ H0 p = none, fun s h => ⟨R.mono s h.1, h.2⟩⟩
theorem wkI (F : Hp) (v : V) (a : α) (h : R.r F v a) : R.r F v a := h
theorem wkN (d : ∀ {a}, H1 a = none → H0 a = none) (k : ∀ F v a, R.r F v a → S.r F v a) (F : Hp) (v : V) (a : α) (h : (rNw H1 R).r F v a) : (rNw H0 S).r F v a := ⟨k F v a h.1, by
  obtain ⟨p, e, n⟩ := h.2
  exact ⟨p, e, d n⟩⟩
theorem wkL (k : ∀ F v a, R.r F v a → S.r F v a) (F : Hp) (v : V) (l : List α) (h : (rL R).r F v l) : (rL S).r F v l := by
  obtain ⟨p, vs, e, hp, hv⟩ := h
  exact ⟨p, vs, e, hp, hv.imp fun v a => k F v a⟩
theorem wkC {F' H' : Hp} {D : Addr} {l : List α} (k : ∀ F v a, R.r F v a → S.r F v a) (h : ∃ o, H' D = some o ∧ (cL R l).p F' o) : ∃ o, H' D = some o ∧ (cL S l).p F' o := by
  obtain ⟨o, e, vs, h1, h2⟩ := h
  exact ⟨o, e, vs, h1, h2.imp fun v a => k F' v a⟩
theorem rl_drop {l : List α} (h : (rL (rNw H0 R)).r F v l) : (rL R).r F v l := wkL (R := rNw H0 R) (S := R) (fun _ _ _ h => h.1) F v l h
/-- a new list of plain things may be changed again -/
theorem Wst.thaw {l : List α} {Q : VK} (h : Wst M F0 H0 ss cs σ F H) (fl : ∀ F F' v a, R.r F v a → R.r F' v a) (r : (rL R).r F v l) (nw : ∃ p, v = .ref p ∧ H0 p = none)
    (q : ∀ D F' H', Ext M F0 H0 F' H' → H0 D = none → F' D = none → (∃ o, H' D = some o ∧ (cL R l).p F' o) → Q (.ref D) H') (s0 : Same F0 H0 := by assumption) : Q v H := by
  obtain ⟨p, rfl, hn⟩ := nw
  obtain ⟨p', vs, e, hp, hv⟩ := r
  cases e
  exact q p F0 H ⟨Same.refl F0, h.ex.ff.trans h.ex.fh, h.ex.hh, fun a e _ => e, h.ex.dm, fun a ps e => h.ex.nt a ps (h.ex.ff _ _ e), h.ex.tb⟩ hn (s0.free hn) ⟨.lst vs, h.ex.fh _ _ hp, vs, rfl, hv.imp fun _ _ => fl F F0 _ _⟩
end
/-! ### an optional list as data -/
section
variable {α : Type} {R : Rep α} {H : Hp} {v : V} {l : List α}
def dtOL (D : Dat R) : Dat (rO (rL R)) where
  d o := match o with | none => .none | some l => (dtL D).d l
  dp {K F H v a} s r := by
    cases a with
    | none => rw [show v = _ from r]; exact .non
    | some l => exact (dtL D).dp s (show (rL R).r F v l from r)
  inj a b := by
    cases a with
    | none =>
      cases b with
      | none => simp [PyData.eqv]
      | some l => simp [dtL, PyData.eqv]
    | some l =>
      cases b with
      | none => simp [dtL, PyData.eqv]
      | some m => rw [Option.some.injEq]; exact (dtL D).inj l m
  lay a := by
    cases a with
    | none => rfl
    | some l => exact (dtL D).lay l
  n := D.n + 1
  dep a := by
    cases a with
    | none => exact Nat.zero_le _
    | some l => exact (dtL D).dep l
theorem dv_oS {D : Dat R} (h : DV (dtL D) H v l) : DV (dtOL D) H v (some l) := h
end
section
variable {F H : Hp} {K : PySem.W.Frag} {Q : VK} {v : V}
theorem iv_flat (l : List Int) : (l.map V.int).all flatV = true := by
  rw [List.all_eq_true]
  intro x h
  obtain ⟨i, _, rfl⟩ := List.mem_map.mp h
  rfl
theorem iv_in (i : Int) (l : List Int) : inV (.int i) (l.map V.int) = decide (i ∈ l) := by
  unfold inV
  rw [List.any_map, Bool.eq_iff_iff, List.any_eq_true, decide_eq_true_eq]
  constructor
  · rintro ⟨a, ha, e⟩
    have e2 : a = i := by simpa [eqV] using e
    rw [← e2]; exact ha
  · intro h
    exact ⟨i, h, by simp [eqV]⟩
theorem w_inZ {i : Int} {l : List Int} (r : LV rZ F H v l) (q : Q (.bl (decide (i ∈ l))) H) : rIn K false (.int i) v H Q := by
  obtain ⟨p, vs, rfl, hp, hv⟩ := r
  rw [a2_iv hv] at hp
  refine x_in hp rfl (iv_flat l) ?_
  rw [iv_in]
  exact q
theorem w_ninZ {i : Int} {l : List Int} (r : LV rZ F H v l) (q : Q (.bl (!decide (i ∈ l))) H) : rIn K true (.int i) v H Q := by
  obtain ⟨p, vs, rfl, hp, hv⟩ := r
  rw [a2_iv hv] at hp
  refine x_nin hp rfl (iv_flat l) ?_
  rw [iv_in]
  exact q
end
theorem a2_sz {α : Type} {R : Rep α} {F : Hp} {vs : List V} {l : List α} {n : Nat} (h : A2 (R.r F) vs l) (z : l.length ≤ n) : vs.length ≤ n := by rw [h.len]; exact z
/-! ### data in order; data as numbers -/
section
open PySem.W
def leO (a b : PyData) : Option Bool := match a with
  | .none => none
  | a => if alike a b = true ∧ a.depth ≤ 60 then some (!dataLt b a) else none
def rLeA (K : PySem.W.Frag) : R2 := fun x y H Q => ∃ da db, Dp K H x da ∧ Dp K H y db ∧ alike da db = true ∧ da ≠ .none ∧ da.depth ≤ 60 ∧ Q (.bl (!dataLt db da)) H
theorem k_leA {X : Cx} (K : PySem.W.Frag) (hu : X.A.units + 64 < cLine) (hK : X.K = K := by rfl) : OpR X (compareOp .LtE) (rLeA K) := by
  subst hK
  intro pins s σ H x y v u Q I rx ry h
  obtain ⟨da, db, hx, hy, hal, hn, hd, q⟩ := h
  obtain ⟨as, ra⟩ := Dp.reads I da x v hx rx
  obtain ⟨bs, rb⟩ := Dp.reads I db y u hy ry
  exact rcLe_alike da db X.A s v u as bs ra rb hal hn (by have := Nat.min_le_left da.depth db.depth; omega) X.prog X.w _ _ ⟨.bl _, H, I, rfl, q⟩
def asNs : List PyData → Option (List Nat)
  | [] => some []
  | d :: r => (asN d).bind fun n => (asNs r).bind fun l => some (n :: l)
def asNL (d : PyData) : Option (List Nat) := (asL d).bind asNs
variable {F H : Hp} {v x : V} {d e : PyData} {K : PySem.W.Frag} {Q : VK}
theorem asNs_r : ∀ {ds : List PyData} {vs : List V} {l : List Nat}, A2 (rP.r F) vs ds → asNs ds = some l → A2 (rN.r F) vs l
  | [], _, _, h, e => by
    cases h
    cases e
    exact .nil
  | d :: r, _, l, h, e => by
    cases h with
    | cons h1 h2 =>
      unfold asNs at e
      cases q : asN d with
      | none => rw [q] at e; cases e
      | some n =>
        rw [q] at e
        cases q2 : asNs r with
        | none => rw [q2] at e; cases e
        | some m =>
          rw [q2] at e
          cases e
          exact .cons (asN_v h1 q) (asNs_r h2 q2)
theorem asNL_r {l : List Nat} (r : rP.r F v d) (h : asNL d = some l) : (rL rN).r F v l := by
  unfold asNL at h
  cases q : asL d with
  | none => rw [q] at h; cases h
  | some ds =>
    rw [q] at h
    obtain ⟨a, vs, e, h1, h2⟩ := asL_r r q
    exact ⟨a, vs, e, h1, asNs_r h2 h⟩
theorem w_leP {c : Bool} (s : Same F H) (r : rP.r F v d) (r2 : rP.r F x e) (h : leO d e = some c) (q : Q (.bl c) H) : rLeA K v x H Q := by
  unfold leO at h
  split at h
  · cases h
  · rename_i n
    split at h
    · rename_i g
      cases h
      exact ⟨d, e, dr_dp _ _ (dr_mono s _ _ r), dr_dp _ _ (dr_mono s _ _ r2), g.1, n, g.2, q⟩
    · cases h
end
/-! ### a lambda that is called on each item, the sort by its keys -/
section
open PySem.W LamX NdefX
/-- the object at f is a lambda -/
def LamO (f : Addr) (q : Str) (params : Arguments) (body : Expr) (scope : Scope) (c : Addr) : HO := .ext fun h => ∃ (pm ctv : Value), h.get? f = some (kla_obj "<lambda>" q params body scope [] pm c ctv)
theorem lamO_at {P : Program} {w : World} {H : Hp} {h : Heap} {f c : Addr} {q : Str} {params : Arguments} {body : Expr} {scope : Scope} (hok : HOk P w H h) (e : H f = some (LamO f q params body scope c)) : ∃ (pm ctv : Value), h.get? f = some (kla_obj "<lambda>" q params body scope [] pm c ctv) := by
  obtain ⟨z, _, _⟩ := hok f _ e
  exact z
theorem inv_lam {X : Cx} {pins : List (Addr × Obj)} {σ : L2.St} {H : Hp} {s : Shared} {q : Str} {params : Arguments} {body : Expr} {scope : Scope} {c : Addr} {pm ctv : Value} {t' : Nat} (I : Inv X pins σ H s) :
    Inv X pins σ (upd H s.heap.objs.size (LamO s.heap.objs.size q params body scope c)) { s with heap := s.heap.push (kla_obj "<lambda>" q params body scope [] pm c ctv), toks := t' } := by
  refine I.laid (a := s.heap.objs.size) (fun b u e => Heap.get?_push_of_some _ e) (Nat.le_refl _) ?_
  have e : (s.heap.push (kla_obj "<lambda>" q params body scope [] pm c ctv)).get? s.heap.objs.size = some (kla_obj "<lambda>" q params body scope [] pm c ctv) := Heap.get?_push_size _ rfl
  exact ⟨⟨pm, ctv, e⟩, ⟨_, e⟩, fun h1 h2 ⟨p, t, z⟩ st => ⟨p, t, st _ z⟩⟩
/-- the lambda is made -/
theorem lamT_make {X : Cx} {pins : List (Addr × Obj)} {σ : L2.St} {H : Hp} {s : Shared} {T : List (Addr × Str)} {c P : Addr} {params : Arguments} {body : Expr} {scope : Scope} {pos : Pos} {E : Value → Shared → Prop} {Q : Value → Shared → Prop} (I : Inv X pins σ H s) (TB : TabB X.base X.mg c P) (hcode : X.env.code = .ref c)
    (hm : (P, X.env.qual ++ "<lambda>") ∈ T) (hu : ∀ p ∈ T, p.1 = P → p.2 = X.env.qual ++ "<lambda>") (hT : Tabs T H) (hdef : defaultsOf params X.env = ([], [])) (hcl : closureFor scope X.env = pure [])
    (h : ∀ (f c' : Addr) (H1 : Hp) (s' : Shared), Inv X pins σ H1 s' → ExtN H H1 → (∀ b, H1 b = none → H b = none) → Tabs T H1 → H f = none → H1 f = some (LamO f (X.env.qual ++ "<lambda>") params body scope c') → H1 c' = some (CodeO c' (X.env.qual ++ "<lambda>")) → Q (.ref f) s') :
    wpAny (model X.prog X.w) X.A (eval (.Lambda params body scope pos) X.env) Q E s := by
  obtain ⟨ps, hP, ht, ha⟩ := hT _ hm
  refine kla_eval hdef ?_
  have bP : s.heap.BuiltinsAt X.mg P := TB.bm.keeps I.bk
  have hP' : s.heap.get? P = some { cls := .none, data := .fields ps } := I.hok P _ hP
  cases hc : codeAmong pos ps.toList with
  | none =>
    refine kla_makeFunction (mg := X.mg) (c := c) (P := P) (ps := ps) hcl I.ok.glob (I.mod.glob.keeps I.bk) hcode (TB.code.keeps I.bk) hP' ht hc TB.gP bP fun c' ctv h' tk hx hge hlt hrec htb => ?_
    obtain ⟨c2, oc, vs, t, e2, hoc, hd, hv⟩ := hrec
    cases e2
    have nC : H c' = none := I.hok.fresh hge
    have I1 := inv_table (t' := tk) (more := #[rawInt pos.line, rawInt pos.col, .ref c']) (h' := h') I hP (fun b o hb e => hx b o hb e) htb hge ⟨oc, vs, t, hoc, hd, hv⟩
    have hE : ExtN H (upd (upd H P (.tbl (ps ++ #[rawInt pos.line, rawInt pos.col, .ref c']))) c' (CodeO c' (X.env.qual ++ "<lambda>"))) := fun b o e n => by
      rw [upd_ne (ne_of_none e nC), upd_ne (fun z => n ps (Option.some.inj (e.symm.trans (by rw [z]; exact hP))))]
      exact e
    have eL : (ps ++ #[rawInt pos.line, rawInt pos.col, .ref c']).toList = ps.toList ++ [rawInt pos.line, rawInt pos.col, .ref c'] := by simp
    have T1 : Tabs T (upd (upd H P (.tbl (ps ++ #[rawInt pos.line, rawInt pos.col, .ref c']))) c' (CodeO c' (X.env.qual ++ "<lambda>"))) := fun p hp => by
      by_cases hb : p.1 = P
      · rw [hu p hp hb, hb]
        refine ⟨_, by rw [upd_ne (ne_of_none hP nC), upd_same], by rw [eL]; exact PySem.TriplesOk_snoc _ _ _ _ ht, fun p' cv hcv => ?_⟩
        rw [eL] at hcv
        rcases among_app _ ht hcv with z | z
        · obtain ⟨c0, e1, e2⟩ := ha p' cv z
          exact ⟨c0, e1, hE _ _ e2 codeO_ne⟩
        · exact ⟨c', z, upd_same⟩
      · obtain ⟨ps', a1, a2, a3⟩ := hT p hp
        refine ⟨ps', by rw [upd_ne (ne_of_none a1 nC), upd_ne hb]; exact a1, a2, fun p' cv hcv => ?_⟩
        obtain ⟨c0, e1, e2⟩ := a3 p' cv hcv
        exact ⟨c0, e1, hE _ _ e2 codeO_ne⟩
    have nF := I1.hok.fresh (Nat.le_refl _)
    have I2 := inv_lam (q := X.env.qual ++ "<lambda>") (params := params) (body := body) (scope := scope) (c := c') (pm := (X.mg "__name__").getD .none) (ctv := ctv) (t' := tk) I1
    refine h h'.objs.size c' _ _ I2 (fun b o e n => ?_) (fun b e => NdefX.upd_none (NdefX.upd_none (NdefX.upd_none e))) (T1.ext fun b o e => ?_) (I.hok.fresh (Nat.le_trans hge (Nat.le_of_lt hlt))) upd_same ?_
    · have e1 := hE b o e n
      exact (upd_ne (ne_of_none e1 nF)).trans e1
    · exact (upd_ne (ne_of_none e nF)).trans e
    · exact (upd_ne (Nat.ne_of_lt hlt)).trans upd_same
  | some cv =>
    obtain ⟨c', e, hco⟩ := ha pos cv hc
    subst e
    refine kla_makeFunctionHit (mg := X.mg) (c := c) (P := P) (ps := ps) hcl I.ok.glob (I.mod.glob.keeps I.bk) hcode (TB.code.keeps I.bk) hP' ht hc bP fun ctv h' tk hx hsz => ?_
    have I1 : Inv X pins σ H { s with heap := h', toks := tk } := I.kept hx
    have nF : H h'.objs.size = none := I1.hok.fresh (Nat.le_refl _)
    have I2 := inv_lam (q := X.env.qual ++ "<lambda>") (params := params) (body := body) (scope := scope) (c := c') (pm := (X.mg "__name__").getD .none) (ctv := ctv) (t' := tk) I1
    refine h h'.objs.size c' _ _ I2 (fun b o e n => ?_) (fun b e => NdefX.upd_none e) (hT.ext fun b o e => ?_) nF upd_same ?_
    · exact (upd_ne (ne_of_none e nF)).trans e
    · exact (upd_ne (ne_of_none e nF)).trans e
    · exact (upd_ne (ne_of_none hco nF)).trans hco
/-- the lambda at f is called -/
theorem lam_call {X : Cx} {pins : List (Addr × Obj)} {σ : L2.St} {H : Hp} {s : Shared} {k : Nat} {A : Around} {x : Str} {q : Str} {params : Arguments} {body : Expr} {scope : Scope} {f c' : Addr} {tb : TE} {v : V} {u : Value} {Q : VK} {E : Value → Shared → Prop} (I : Inv X pins σ H s)
    (e0 : Env0 X.prog X.w X.K X.mg X.base A X.stack s H) (hr : Room (k + 1) A) (S : NScope [x] [x] [] scope) (hbind : ∀ (pm cv ctv : Value) (u : Value), bindArgs (kla_fn "<lambda>" q params body scope [] pm cv ctv) ⟨[u], []⟩ = pure [(x, u)])
    (hbody : ∀ (A : Around) (outer : List Env) (s : Shared) (H : Hp), Room k (A.deeper (envF ⟨"<lambda>", q, params, [], scope, [], c'⟩ f s.heap.objs.size)) → PE (ncx C8.CX0 X.prog X.w X.K X.mg X.base [x] ⟨"<lambda>", q, params, [], scope, [], c'⟩ f A outer s H C8.E0) body tb)
    (hf : H f = some (LamO f q params body scope c')) (hc : H c' = some (CodeO c' q)) (rv : RelV v u) (h : tb [some v] H Q) :
    wpAny (model X.prog X.w) A (call (.ref f) [u]) (fun w s' => ∃ v' H', Inv X pins σ H' s' ∧ RelV v' w ∧ Q v' H' ∧ Un (frs X.stack) [] H H' s.heap s'.heap) E s := by
  have lim : s.heap.NoLimit := e0.mod.nolimit.keeps fun b o e => (e0.bs b o e).1
  obtain ⟨pm, ctv, ho⟩ := lamO_at e0.hok hf
  have r1 : Vals [v] [u] := .cons rv .nil
  have rc : codeAny (model X.prog X.w) A (.call (.ref f) ⟨[u], []⟩) (CR C8.CX0 X.stack X.prog X.w H s Q C8.E0) s := by
    refine kla_callFunE hr.depth ho rfl S.co S.gen rfl (codeO_at e0.hok hc) ?_
    rw [hbind]
    refine wpAny_pure (wpAny_newFunctionEnv S.nocell (fun ⟨n, _⟩ hy => S.par n (List.of_mem_zip (l₁ := [x]) (l₂ := [u]) hy).1) (fun h₁ hns hsb => ⟨lim.fresh _ hsb, ?_⟩) S.kind)
    show codeAny _ _ (.expr body (envF ⟨"<lambda>", q, params, [], scope, [], c'⟩ f s.heap.objs.size)) _ _
    have kp : ∀ b o, s.heap.get? b = some o → h₁.get? b = some o := fun b o e => hsb.extBut b o (Nat.ne_of_lt (Heap.lt_size e)) (Heap.get?_push_of_some _ e)
    have C : CellsAt [] [] [] s.heap H := ⟨rfl, fun y c e => (by cases e), fun y z c e => (by cases e), fun i y e => by simp at e⟩
    have J : Inv (ncx C8.CX0 X.prog X.w X.K X.mg X.base [x] ⟨"<lambda>", q, params, [], scope, [], c'⟩ f A X.stack s H C8.E0) [] (startF [x] [v] []) H { s with heap := h₁, toks := s.toks + ([x].zip [u]).length } := inv_startN S hr.hd e0 rfl r1 C hns kp
    refine kla_codeExpr (wpAny_mono ((hbody A X.stack s H (hr.deeper _)).run [] _ _ H Q J h) (fun w s' hq => ?_) fun e s' hq => hq)
    obtain ⟨v', H', J', rw', q'⟩ := hq
    exact ⟨v', H', J'.os, J'.bare, J'.base, J'.hok, rw', q'⟩
  refine wpAny_call (codeAny_mono rc fun r s' hq => ?_)
  cases r with
  | error e => exact (show False from hq).elim
  | ok fl =>
    cases fl with
    | ret w =>
      obtain ⟨v, H', os, bare, un, hok, r, q⟩ := hq
      obtain ⟨hh, g, d, t, os'⟩ := s'
      obtain rfl : os' = s.os := os
      exact ⟨v, H', I.call (h' := hh) (g' := g) (d' := d) (t' := t) (ch := []) un hok bare (fun b z => absurd z (by simp)), r, q, un⟩
    | next => exact False.elim hq
    | brk => exact False.elim hq
    | cont => exact False.elim hq
end
section
open PySem.W LamX NdefX PyProof.Rows
section
variable {prog : Program} {w : World} {A : Around} {E : Value → Shared → Prop} {s : Shared} {a kS : Addr} {vs : List Value} {keys : Array Value} {e e1 : Nat} {P : PySem.Fin → Shared → Prop}
theorem key_tailI {st : SortSt} {out : List Value} (nk : s.heap.get? kS = some (seqObj "list" keys e)) (na : s.heap.get? a = some (seqObj "list" #[] e1)) (hka : kS ≠ a)
    (hsz : keys.size ≤ sizeLine) (hz : out.length ≤ sizeLine) (hfl : failedOf st = none) (ho : (if false = true then ((arrOf st).map (·.2)).reverse else (arrOf st).map (·.2)) = out.toArray)
    (h : ∀ h' tk c, (∀ b o, b ∉ [kS, a] → s.heap.get? b = some o → h'.get? b = some o) → h'.get? a = some (seqObj "list" out.toArray c) → P (.done (.ret .none)) { s with heap := h', toks := tk }) :
    wpAny (model prog w) A (ksk_tail a false e1 (.ref kS) st) P E s := by
  have s1 := Heap.SameBut.update s.heap kS (Obj.mapSeq fun _ => (#[] : Array Value))
  have na1 : (s.heap.update kS (Obj.mapSeq fun _ => (#[] : Array Value))).get? a = some (seqObj "list" #[] e1) := (s1.2 a hka.symm).trans na
  have s2 := Heap.SameBut.update (s.heap.update kS (Obj.mapSeq fun _ => (#[] : Array Value))) a (Obj.mapSeq fun _ => out.toArray)
  obtain ⟨c2, hc2⟩ : ∃ c2, ((s.heap.update kS (Obj.mapSeq fun _ => (#[] : Array Value))).update a (Obj.mapSeq fun _ => out.toArray)).get? a = some (seqObj "list" out.toArray c2) :=
    ⟨_, get?_update_seq na1 fun _ => out.toArray⟩
  have hz2 : out.toArray.size ≤ sizeLine + 1 := by
    rw [List.size_toArray]
    exact Nat.le_succ_of_le hz
  unfold ksk_tail
  try dsimp only
  rw [ho]
  refine wpAny_bind (listUpdate_at nk rfl ?_ hsz (Nat.zero_le _))
  refine wpAny_bind (wpAny_letGo ?_)
  refine wpAny_bind (seqEpoch_at na1 rfl ?_)
  refine wpAny_bind (listUpdate_at na1 rfl ?_ (Nat.zero_le _) hz2)
  rw [hfl]
  simp only [bne_self_eq_false, Bool.false_eq_true, if_false]
  refine wpAny_pure (h _ _ c2 (fun b o hb e => ?_) hc2)
  have h1 : b ≠ kS := fun z => hb (by rw [z]; simp)
  have h2 : b ≠ a := fun z => hb (by rw [z]; simp)
  exact (s2.2 b h2).trans ((s1.2 b h1).trans e)
theorem key_endI {κ : PyProof.Rows.KeyKind} (nk : s.heap.get? kS = some (seqObj "list" keys e)) (na : s.heap.get? a = some (seqObj "list" #[] e1)) (hka : kS ≠ a)
    (S : SortsAt prog w A s κ keys.toList) (hsz : keys.size = vs.length) (hZ : vs.length ≤ sizeLine)
    (h : ∀ h' tk c, (∀ b o, b ∉ [kS, a] → s.heap.get? b = some o → h'.get? b = some o) → h'.get? a = some (seqObj "list" (sortVals κ false keys.toList vs).toArray c) → P (.done (.ret .none)) { s with heap := h', toks := tk }) :
    wpAny (model prog w) A (ksk_end a false vs.toArray e1 (.ref kS) keys) P E s := by
  obtain ⟨kd, h1, h2⟩ := S.kind
  have hkl : keys.toList.length = vs.length := by
    rw [Array.length_toList]
    exact hsz
  have hK : PyProof.Rows.KeysOf κ (keys.zip vs.toArray) := keysOf_zip S.keys
  have hol : (sortVals κ false keys.toList vs).length = vs.length := sortVals_length false hkl
  have hss : (if false = true then (keys.zip vs.toArray).reverse else keys.zip vs.toArray).size = vs.length := by
    show (keys.zip vs.toArray).size = _
    rw [Array.size_zip, hsz, List.size_toArray, Nat.min_self]
  have fin : ∀ st' : SortSt, (arrOf st').Perm (if false = true then (keys.zip vs.toArray).reverse else keys.zip vs.toArray) → SortedToK κ (arrOf st') (if false = true then (keys.zip vs.toArray).reverse else keys.zip vs.toArray).size →
      Stable κ (arrOf st') (if false = true then (keys.zip vs.toArray).reverse else keys.zip vs.toArray) → (if false = true then ((arrOf st').map (·.2)).reverse else (arrOf st').map (·.2)) = (sortVals κ false keys.toList vs).toArray := by
    intro st' hp hs ht
    have e := sort_out (rev := false) (keys := keys) (items := vs.toArray) (xs := arrOf st') (κ := κ) hK hp hs ht
    have e' := congrArg List.toArray e
    rw [Array.toArray_toList] at e'
    exact e'
  unfold ksk_end
  try dsimp only
  show wpAny (model prog w) A (if vs.toArray.size < 2 then _ else _ >>= _) P E s
  by_cases hl2 : vs.toArray.size < 2
  · rw [if_pos hl2, if_pos hl2]
    refine wpAny_bind (wpAny_pure ?_)
    rw [StateT.run_pure]
    refine wpAny_bind (wpAny_pure ?_)
    try dsimp only
    refine key_tailI (st := SortSt.mk' general' (if false = true then (keys.zip vs.toArray).reverse else keys.zip vs.toArray) #[] 7 none) nk na hka (by rw [hsz]; exact hZ) (by rw [hol]; exact hZ) rfl (fin _ (Array.Perm.refl _) ?_ (Stable.refl _)) h
    intro i j hij hj
    rw [hss] at hj
    rw [List.size_toArray] at hl2
    have : i = j := by omega
    subst this
    exact KeyOrd.kle_refl _
  · rw [if_neg hl2, if_neg hl2]
    rw [List.size_toArray] at hl2
    refine wpAny_bind (h2 (by omega) _ ?_)
    refine wpAny_bind (wpAny_mono (H.wpS_sortRunsSt (κ := κ) (kd := kd) (a₀ := if false = true then (keys.zip vs.toArray).reverse else keys.zip vs.toArray)
      (st := SortSt.mk' kd (if false = true then (keys.zip vs.toArray).reverse else keys.zip vs.toArray) #[] 7 none)
      (Q := fun _ st' => failedOf st' = none ∧ (if false = true then ((arrOf st').map (·.2)).reverse else (arrOf st').map (·.2)) = (sortVals κ false keys.toList vs).toArray)
      h1 hK ⟨Array.Perm.refl _, rfl, rfl⟩ rfl (Stable.refl _) (by rw [hss]; omega) fun st' a1 a2 a3 a4 => ⟨a2, fin st' a1 a3 a4⟩) ?_ fun _ _ e => e)
    rintro ⟨⟨⟩, st'⟩ s' ⟨rfl, hf, ho⟩
    try dsimp only at ho ⊢
    exact key_tailI nk na hka (by rw [hsz]; exact hZ) (by rw [hol]; exact hZ) hf ho h
end
theorem vals_snoc {xs : List V} {us : List Value} {v : V} {u : Value} (r : Vals xs us) (h : RelV v u) : Vals (xs ++ [v]) (us ++ [u]) := by
  induction r with
  | nil => exact .cons h .nil
  | cons r _ ih => exact .cons r ih
theorem dps_snoc {K : PySem.W.Frag} {H : Hp} {v : V} {d : PyData} (h : Dp K H v d) : ∀ {ds : List PyData} {xs : List V}, DpAll K H xs ds → DpAll K H (xs ++ [v]) (ds ++ [d])
  | [], _, q => by cases q; exact .cons h .nil
  | _ :: _, _, q => by
    cases q with
    | cons q1 q2 => exact .cons q1 (dps_snoc h q2)
theorem seqT {K : PySem.W.Frag} {H H' : Hp} {a : Addr} {xs : List V} (e : Same H H') (h : SqT K H a xs) : SqT K H' a xs := by
  rcases h with h | h
  · refine .inl ?_
    rcases h with h | ⟨o, h⟩
    · exact .inl (e _ _ h)
    · exact .inr ⟨o, e _ _ h⟩
  · exact .inr h
mutual
theorem dp_mono {K : PySem.W.Frag} {H H' : Hp} (s : Same H H') : ∀ (d : PyData) (v : V), Dp K H v d → Dp K H' v d
  | .none, _, h => by cases h; exact .non
  | .bool b, _, h => by cases h; exact .bl b
  | .int i, _, h => by cases h; exact .int i
  | .str x, _, h => by cases h; exact .str x
  | .list ds, _, h => by
    cases h with
    | lst h1 h2 => exact .lst (s.seq h1) (dps_mono s ds _ h2)
  | .tuple ds, _, h => by
    cases h with
    | tup h1 h2 => exact .tup (seqT s h1) (dps_mono s ds _ h2)
  | .dict _, _, h => by cases h
theorem dps_mono {K : PySem.W.Frag} {H H' : Hp} (s : Same H H') : ∀ (ds : List PyData) (vs : List V), DpAll K H vs ds → DpAll K H' vs ds
  | [], _, h => by cases h; exact .nil
  | d :: ds, _, h => by
    cases h with
    | cons h1 h2 => exact .cons (dp_mono s d _ h1) (dps_mono s ds _ h2)
end
/-- the keys, one by one; then the sort -/
theorem key_restI {X : Cx} {pins : List (Addr × Obj)} {σ : L2.St} {H1 : Hp} {s1 : Shared} {k : Nat} {A : Around} {x : Str} {q : Str} {params : Arguments} {body : Expr} {scope : Scope} {f c' : Addr} {tb : TE} {E : Value → Shared → Prop} {P : PySem.Fin → Shared → Prop}
    {a kS : Addr} {e1 : Nat} {xs : List V} {its : List Value} {ks : List PyData} (I1 : Inv X pins σ H1 s1) (e0 : ∀ {H : Hp} {s : Shared}, Inv X pins σ H s → Env0 X.prog X.w X.K X.mg X.base A X.stack s H) (hr : Room (k + 1) A) (S : NScope [x] [x] [] scope)
    (hbind : ∀ (pm cv ctv : Value) (u : Value), bindArgs (kla_fn "<lambda>" q params body scope [] pm cv ctv) ⟨[u], []⟩ = pure [(x, u)])
    (hbody : ∀ (A : Around) (outer : List Env) (s : Shared) (H : Hp), Room k (A.deeper (envF ⟨"<lambda>", q, params, [], scope, [], c'⟩ f s.heap.objs.size)) → PE (ncx C8.CX0 X.prog X.w X.K X.mg X.base [x] ⟨"<lambda>", q, params, [], scope, [], c'⟩ f A outer s H C8.E0) body tb)
    (hf : H1 f = some (LamO f q params body scope c')) (hc : H1 c' = some (CodeO c' q)) (rv : Vals xs its) (hl : xs.length = ks.length) (hZ : xs.length ≤ sizeLine)
    (nk : s1.heap.get? kS = some (seqObj "list" #[] 0)) (na : s1.heap.get? a = some (seqObj "list" #[] e1)) (hka : kS ≠ a) (fk : FpOk X pins H1 kS) (fa : FpOk X pins H1 a)
    (hkey : ∀ (j : Nat) (y : V) (d : PyData), xs[j]? = some y → ks[j]? = some d → ∀ H', Same H1 H' → tb [some y] H' fun v H'' => Same H' H'' ∧ Dp X.K H'' v d)
    (hal : AllAlike ks) (hsk : Sortable ks) (hdep : ∀ d ∈ ks, d.depth ≤ 40)
    (h : ∀ H' s', Inv X pins σ (upd H' a (.lst (srtV xs ks))) s' → Same H1 H' → H' a = none → P (.done (.ret .none)) s') :
    wpAny (model X.prog X.w) A (ksk_rest a (.ref f) false its.toArray e1 (.ref kS)) P E s1 := by
  have hlen := rv.length
  unfold ksk_rest
  refine wpAny_bind (wpAny_rule ?_)
  first
    | rw [List.forIn_toArray]
    | (rw [← Array.forIn_toList]; simp only [List.toList_toArray])
    | rw [← Array.forIn_toList]
  refine wpAny_bind (ksk_fold (fun i s' => ∃ H' kA e kv, Inv X pins σ H' s' ∧ Same H1 H' ∧ s'.heap.get? kS = some (seqObj "list" kA e) ∧ s'.heap.get? a = some (seqObj "list" #[] e1) ∧ FpOk X pins H' kS ∧ FpOk X pins H' a ∧ Vals kv kA.toList ∧ DpAll X.K H' kv (ks.take i)) its 0 s1
    ⟨H1, #[], 0, [], I1, Same.refl _, nk, na, fk, fa, .nil, by rw [List.take_zero]; exact .nil⟩ ?step ?done)
  case step =>
    rintro j u s' hx ⟨H', kA, e, kv, I', sm, nk', na', fk', fa', rk, dk⟩
    simp only [Nat.zero_add] at dk ⊢
    have hj : j < its.length := (List.getElem?_eq_some_iff.mp hx).1
    have ey : xs[j]? = some (xs[j]'(by omega)) := List.getElem?_eq_getElem (by omega)
    have ed : ks[j]? = some (ks[j]'(by omega)) := List.getElem?_eq_getElem (by omega)
    obtain ⟨u', hu', ru⟩ := rv.get ey
    rw [hx] at hu'
    cases hu'
    have hz : kA.size ≤ sizeLine := by
      have h1 := rk.length
      have h2 := dp_len dk
      have h3 : kA.toList.length = kA.size := Array.length_toList
      rw [List.length_take] at h2
      omega
    have hzj : kA.size < its.length := by
      have h1 := rk.length
      have h2 := dp_len dk
      have h3 : kA.toList.length = kA.size := Array.length_toList
      rw [List.length_take] at h2
      omega
    refine wpAny_bind (wpAny_attempt (wpAny_mono (lam_call (E := fun _ _ => False) I' (e0 I') hr S hbind hbody (sm _ _ hf) (sm _ _ hc) ru (hkey j _ _ ey ed H' sm)) (fun v s'' he => ?_) fun _ _ hF => hF.elim))
    obtain ⟨vk, H'', I'', rvk, ⟨sm2, dvk⟩, un⟩ := he
    try dsimp only
    have keep : ∀ b, FpOk X pins H' b → ∀ o, s'.heap.get? b = some o → s''.heap.get? b = some o ∧ FpOk X pins H'' b := fun b fb o eo => by
      obtain ⟨h0, h1, h2, h3⟩ := fb
      have nf : b ∉ frs X.stack := fun z => by
        rcases List.mem_cons.mp (I'.stkSub b z) with z | z
        · exact h1 z
        · exact h2 z
      exact ⟨un.keep b o eo h0 nf (by simp), un.free b o eo h0 (by simp), h1, h2, h3⟩
    obtain ⟨nk2, fk2⟩ := keep kS fk' _ nk'
    obtain ⟨na2, fa2⟩ := keep a fa' _ na'
    have s1 := Heap.SameBut.update s''.heap kS (Obj.mapSeq (·.push v))
    obtain ⟨c2, hc2⟩ : ∃ c2, (s''.heap.update kS (Obj.mapSeq (·.push v))).get? kS = some (seqObj "list" (kA.push v) c2) := ⟨_, get?_update_seq nk2 (·.push v)⟩
    have ek : ks.take (j + 1) = ks.take j ++ [ks[j]'(by omega)] := by rw [List.take_add_one, ed]; rfl
    have ea : (kA.push v).toList = kA.toList ++ [v] := by simp
    refine wpAny_bind (listUpdate_at nk2 rfl ?_ hz (Nat.le_trans (Nat.le_of_eq (Array.size_push ..)) (Nat.succ_le_succ hz)))
    refine wpAny_pure ⟨rfl, H'', kA.push v, c2, kv ++ [vk], I''.turnedL (ch := [kS]) (t' := s''.toks) (fun b o hb eb => ?_) (fun b hb => by rw [List.mem_singleton.mp hb]; exact fk2), sm.trans sm2, hc2, (s1.2 a hka.symm).trans na2, fk2, fa2, ?_, ?_⟩
    · exact (s1.2 b (fun z => hb (by rw [z]; simp))).trans eb
    · rw [ea]
      exact vals_snoc rk rvk
    · rw [ek]
      exact dps_snoc dvk (dps_mono sm2 _ _ dk)
  case done =>
    rintro s' ⟨H', kA, e, kv, I', sm, nk', na', fk', fa', rk, dk⟩
    have e3 : ks.take (0 + its.length) = ks := List.take_of_length_le (by omega)
    rw [e3] at dk
    have er := each_dp I' dk rk
    have hsz : kA.size = its.length := by
      have h1 := rk.length
      have h2 := dp_len dk
      have h3 : kA.toList.length = kA.size := Array.length_toList
      omega
    try dsimp only
    refine wpAny_bind (listItems_at nk' rfl ?_)
    have hun : ∀ d, d ∈ ks → A.units + d.depth < cLine := fun d hd => by
      have h1 := hdep d hd
      have h2 := hr.un
      omega
    refine key_endI (κ := dataKind s'.heap ks) nk' na' hka (SortsAt.data er hal hsk hun) hsz (by rw [← hlen]; exact hZ) fun h' tk c kp ha => ?_
    have I2 : Inv X pins σ H' { s' with heap := h', toks := tk } := I'.turnedL (ch := [kS, a]) (t' := tk) kp fun b hb => by
      rcases List.mem_cons.mp hb with rfl | hb
      · exact fk'
      · rw [List.mem_singleton.mp hb]; exact fa'
    have ro := srt_vals rv hl hal er
    exact h H' _ (I2.take (h' := h') (t' := tk) (o := .lst (srtV xs ks)) (fun _ _ _ e => e) fa' ⟨by rw [srtV_len hl]; exact hZ, _, c, ro, ha⟩) sm fa'.1
end
/-! ### sorted(xs, key=lambda x: ..) -/
section
open PySem.W LamX NdefX PyProof.Rows
def rSortLam (K : PySem.W.Frag) (q : Str) (params : Arguments) (body : Expr) (scope : Scope) (tb : TE) : List V → List V → Hp → VK → Prop := fun xs zs H Q => ∃ (a f c' : Addr) (vs : List V) (ks : List PyData), xs = [.ref a] ∧ zs = [.ref f] ∧ SqL K H a vs ∧ H f = some (LamO f q params body scope c') ∧ H c' = some (CodeO c' q) ∧ vs.length = ks.length ∧
  (∀ (j : Nat) (y : V) (d : PyData), vs[j]? = some y → ks[j]? = some d → ∀ H', Same H H' → tb [some y] H' fun v H'' => Same H' H'' ∧ Dp K H'' v d) ∧ AllAlike ks ∧ Sortable ks ∧ (∀ d ∈ ks, d.depth ≤ 40) ∧ ∀ H' p, Same H H' → H' p = none → Q (.ref p) (upd H' p (.lst (srtV vs ks)))
theorem cr_sortLam {X : Cx} {k : Nat} {x q : Str} {params : Arguments} {body : Expr} {scope : Scope} {tb : TE} (hr : Room (k + 3) X.A) (S : NScope [x] [x] [] scope)
    (hbind : ∀ (pm cv ctv : Value) (u : Value), bindArgs (kla_fn "<lambda>" q params body scope [] pm cv ctv) ⟨[u], []⟩ = pure [(x, u)])
    (hbody : ∀ (f c' : Addr) (A : Around) (outer : List Env) (s : Shared) (H : Hp), Room k (A.deeper (envF ⟨"<lambda>", q, params, [], scope, [], c'⟩ f s.heap.objs.size)) → PE (ncx C8.CX0 X.prog X.w X.K X.mg X.base [x] ⟨"<lambda>", q, params, [], scope, [], c'⟩ f A outer s H C8.E0) body tb) :
    CallRK X (.builtin "sorted") ["key"] (rSortLam X.K q params body scope tb) := by
  intro pins s σ H xs zs us ws Q I rx rz h
  obtain ⟨a, f, c', vs, ks, rfl, rfl, hs, hf, hc, hl, hkey, hal, hsk, hdep, hq⟩ := h
  obtain ⟨its, rv, pl, hz⟩ := I.list hs
  obtain rfl := Vals.ref1 rx
  obtain rfl := Vals.ref1 rz
  have hlen := rv.length
  show wpAny _ _ (call (.builtin "sorted") [.ref a] [(Str.ofString "key", .ref f)]) _ _ _
  refine sorted_of_sort pl.isList (by rw [← hlen]; exact hz) (ksk_s1 _ _) (fun x => ksk_l1 _ _) fun E' => ?_
  rw [ksk_t1]
  obtain ⟨n0, ho⟩ : ∃ n0, (copyHeap s.heap its).get? (s.heap.objs.size + 1) = some (seqObj "list" its.toArray n0) := ⟨_, copyHeap_at s.heap its⟩
  have ha : s.heap.objs.size + 1 < (copyHeap s.heap its).objs.size := Heap.lt_size ho
  have s1 := Heap.SameBut.update (copyHeap s.heap its) (s.heap.objs.size + 1) (Obj.mapSeq fun _ => (#[] : Array Value))
  obtain ⟨e1, ho1⟩ : ∃ e1, ((copyHeap s.heap its).update (s.heap.objs.size + 1) (Obj.mapSeq fun _ => (#[] : Array Value))).get? (s.heap.objs.size + 1) = some (seqObj "list" #[] e1) := ⟨_, get?_update_seq ho fun _ => #[]⟩
  have hkS : (((copyHeap s.heap its).update (s.heap.objs.size + 1) (Obj.mapSeq fun _ => (#[] : Array Value))).push (seqObj "tuple" its.toArray 0)).objs.size = (copyHeap s.heap its).objs.size + 1 := by rw [size_push', Heap.size_update]
  have q1 : s.heap.objs.size + 1 < (((copyHeap s.heap its).update (s.heap.objs.size + 1) (Obj.mapSeq fun _ => (#[] : Array Value))).push (seqObj "tuple" its.toArray 0)).objs.size := by rw [hkS]; exact Nat.lt_succ_of_lt ha
  have q2 := Nat.le_of_lt (Nat.lt_of_succ_lt q1)
  have hn : ∀ b, s.heap.objs.size ≤ b → H b = none := fun b hb => I.hok.fresh hb
  have old : ∀ b o, s.heap.get? b = some o → ((((copyHeap s.heap its).update (s.heap.objs.size + 1) (Obj.mapSeq fun _ => (#[] : Array Value))).push (seqObj "tuple" its.toArray 0)).push (seqObj "list" #[] 0)).get? b = some o := fun b o e => by
    have lt := Heap.lt_size e
    exact Heap.get?_push_of_some _ (Heap.get?_push_of_some _ ((s1.2 b (Nat.ne_of_lt (Nat.lt_succ_of_lt lt))).trans (copyHeap_old e)))
  unfold ksk_tree
  refine wpAny_bind (listItems_at ho rfl ?_)
  refine wpAny_bind (listUpdate_at ho rfl ?_ (by rw [List.size_toArray, ← hlen]; exact hz) (Nat.zero_le _))
  refine wpAny_bind (seqEpoch_at ho1 rfl ?_)
  refine wpAny_bind (wpAny_newTuple ?_ (by show its.length ≤ _; rw [← hlen]; exact hz))
  refine wpAny_bind (wpAny_newList ?_ (Nat.zero_le _))
  refine wpAny_holding ?_
  refine key_restI (X := X) (pins := pins) (σ := σ) (H1 := H) (xs := vs) (ks := ks) (kS := (((copyHeap s.heap its).update (s.heap.objs.size + 1) (Obj.mapSeq fun _ => (#[] : Array Value))).push (seqObj "tuple" its.toArray 0)).objs.size) (c' := c') (I.kept (t' := s.toks) old) (fun {H s} I => (I.env0).in1.in1) (hr.in1.in1) S hbind (hbody f c') hf hc rv hl hz
    (Heap.get?_push_size _ rfl) (Heap.get?_push_of_some _ (Heap.get?_push_of_some _ ho1)) (Nat.ne_of_gt q1) (I.fpOk q2 (hn _ q2)) (I.fpOk (Nat.le_succ _) (hn _ (Nat.le_succ _))) hkey hal hsk hdep
    fun H' s' I' sm hn' => ⟨rfl, .ref (s.heap.objs.size + 1), _, I', rfl, hq H' _ sm hn'⟩
/-- a lambda as a value -/
def tLam (T : List (Addr × Str)) (q : Str) (params : Arguments) (body : Expr) (scope : Scope) : TE := fun _ H Q => Tabs T H ∧ ∀ (f c' : Addr) (H1 : Hp), ExtN H H1 → (∀ b, H1 b = none → H b = none) → Tabs T H1 → H f = none → H1 f = some (LamO f q params body scope c') → H1 c' = some (CodeO c' q) → Q (.ref f) H1
theorem pe_lam {X : Cx} {T : List (Addr × Str)} {c P : Addr} {params : Arguments} {body : Expr} {scope : Scope} {pos : Pos} {q : Str} (TB : TabB X.base X.mg c P) (hcode : X.env.code = .ref c) (hq : X.env.qual ++ "<lambda>" = q)
    (hm : (P, q) ∈ T) (hu : ∀ p ∈ T, p.1 = P → p.2 = q) (hdef : defaultsOf params X.env = ([], []) := by rfl) (hcl : closureFor scope X.env = pure [] := by rfl) : PE X (.Lambda params body scope pos) (tLam T q params body scope) := by
  subst hq
  exact ⟨fun pins s σ H Q I h => lamT_make I TB hcode hm hu h.1 hdef hcl fun f c' H1 s' I1 e n t hf h1 h2 => ⟨.ref f, H1, I1, rfl, h.2 f c' H1 e n t hf h1 h2⟩⟩
end
section
open PySem.W LamX NdefX PyProof.Rows
theorem pe_sortLam {X : Cx} {k : Nat} {x q : Str} {params : Arguments} {body : Expr} {scope : Scope} {tb : TE} {T : List (Addr × Str)} {c P : Addr} {e : Expr} {es : List Expr} {t : TA} {p pos lpos kpos : Pos} (hr : Room (k + 3) X.A) (hg : Gl X "sorted") (hm : X.mg "sorted" = none) (hv : bootBuiltins "sorted" = some (.builtin "sorted")) (ha : PA X (e :: es) t)
    (TB : TabB X.base X.mg c P) (hcode : X.env.code = .ref c) (hq : X.env.qual ++ "<lambda>" = q) (hmem : (P, q) ∈ T) (hu : ∀ p ∈ T, p.1 = P → p.2 = q) (S : NScope [x] [x] [] scope)
    (hbind : ∀ (pm cv ctv : Value) (u : Value), bindArgs (kla_fn "<lambda>" q params body scope [] pm cv ctv) ⟨[u], []⟩ = pure [(x, u)])
    (hbody : ∀ (f c' : Addr) (A : Around) (outer : List Env) (s : Shared) (H : Hp), Room k (A.deeper (envF ⟨"<lambda>", q, params, [], scope, [], c'⟩ f s.heap.objs.size)) → PE (ncx C8.CX0 X.prog X.w X.K X.mg X.base [x] ⟨"<lambda>", q, params, [], scope, [], c'⟩ f A outer s H C8.E0) body tb)
    (hdef : defaultsOf params X.env = ([], []) := by rfl) (hcl : closureFor scope X.env = pure [] := by rfl)
    (he : backTo pos (starEach (e :: es) X.env) = (false, eval e X.env) :: backTo pos (starEach es X.env) := by rfl) (hpl : (backTo pos (starEach (e :: es) X.env)).any (·.1) = false := by rfl)
    (hall : (backToKw pos (keywordEach [⟨some "key", .Lambda params body scope lpos, kpos⟩] X.env)).all (·.1.isSome) = true := by rfl) (hnone : (backToKw pos (keywordEach [⟨some "key", .Lambda params body scope lpos, kpos⟩] X.env)).any (·.1.isNone) = false := by rfl) (hks : (backToKw pos (keywordEach [⟨some "key", .Lambda params body scope lpos, kpos⟩] X.env)).filterMap (·.1) = [Str.ofString "key"] := by rfl) :
    PE X (.Call (.Name "sorted" p) (e :: es) [⟨some "key", .Lambda params body scope lpos, kpos⟩] pos) (tCKw (rSortLam X.K q params body scope tb) t (tCons (tLam T q params body scope) tNil)) :=
  pe_callBK (cr_sortLam hr S hbind hbody) hg hm hv ha (pk_cons (pe_lam TB hcode hq hmem hu hdef hcl) pk_nil) (he := he) (hpl := hpl) (hall := hall) (hnone := hnone) (hks := hks)
end
section
variable {P : Program} {w : World} {K : PySem.W.Frag} {mg : Str → Option Value} {base : Heap}
/-- a def whose code object is known -/
structure DefAtC (K : PySem.W.Frag) (mg : Str → Option Value) (x : Str) (st : Stmt) (ps : List Str) (c : Addr) : Prop where
  ex : ∃ (f : Addr) (oc : Value) (od : Option Addr) (kV doc pm : Value) (an : Option Addr) (ct : Value) (osl : Array (Option Value)),
    K.lookup f = some ⟨oc, od, .func (PySem.W.fnOf x x (defArgs st) (defBody st) (defScope st) .none kV doc pm an (.ref c) ct), osl⟩ ∧ PySem.W.codeIn K (.ref c) x = true ∧ PySem.W.keepIn K (.ref f) = true ∧ mg x = some (.ref f) ∧ Binds K (PySem.W.fnOf x x (defArgs st) (defBody st) (defScope st) .none kV doc pm an (.ref c) ct) ps []
theorem DefAtC.cal {x : Str} {st : Stmt} {N ps : List Str} {k : Nat} {sp : Sp} {c : Addr} (F : DefAtC K mg x st ps c) (S : FnScope N ps (defScope st)) (len : ∀ vs H Q E, sp vs H Q E → vs.length = ps.length)
    (hbody : ∀ (f : Addr) (A : Around) (outer : List Env) (s : Shared) (H : Hp) (vs : List V) (Q : VK) (E : XK), Room k (A.deeper (envOfC x (defScope st) s.heap.objs.size f (.ref c))) → sp vs H Q E →
      ∃ t, PSs (cxOf CX0 P w K mg base N x (defScope st) f (.ref c) A outer s H E).nox (defBody st) t ∧ t { nx := fun _ H' => Q .non H', rt := Q } (start N vs) H) : Cal P w K mg base CX0 (k + 1) x sp := by
  obtain ⟨f, oc, od, kV, doc, pm, an, ct, osl, lk, hcd, kp, m, b⟩ := F.ex
  refine ⟨f, _, ps, ?_, m, kp, b⟩
  refine fn_of lk hcd S len fun A outer s H vs Q E hr hsp => ?_
  obtain ⟨t, h, q⟩ := hbody f A outer s H vs Q E hr hsp
  exact ⟨t, h.nox, q⟩
end
section
open PySem.W LamX NdefX
variable {α : Type} {R : Rep α} {MA : List Addr} {TL : List (Addr × Str)} {F0 H0 F H : Hp} {ss : List Sa} {cs : List (Addr × Ca)} {σ : L2.St} {K : PySem.W.Frag} {Q : VK} {v : V} {l : List α} {q : Str} {params : Arguments} {body : Expr} {scope : Scope} {tb : TE}
theorem x_ckw {r : List V → List V → Hp → VK → Prop} {t tk : TA} (h : t σ H fun vs H1 => tk σ H1 fun zs H2 => r vs zs H2 Q) : tCKw r t tk σ H Q := h
theorem ext_lam {H1 : Hp} (s : Same F H) (nt : NoT F) (e : ExtN H H1) (n : ∀ b, H1 b = none → H b = none) (t : LamX.Tabs TL H1) : Ext ⟨[], TL⟩ F H F H1 :=
  ⟨Same.refl F, fun a o h => e a o (s a o h) fun ps z => nt a ps (by rw [← z]; exact h), fun a o _ h z => e a o h z, fun a h _ => h, fun a h z => h (n a z), nt, fun _ => t⟩
theorem w_srtLamX (h : Wst ⟨MA, TL⟩ F0 H0 ss cs σ F H) (t0 : LamX.Tabs TL H0) (r : LV R F H v l) (d : α → PyData) (hal : ∀ a b, alike (d a) (d b) = true) (hok : (∀ a, ∃ x r, d a = .tuple (x :: r)) ∨ ∀ a, d a ≠ .none ∧ ∀ xs, d a ≠ .tuple xs) (hdep : ∀ a, (d a).depth ≤ 40)
    (hkey : ∀ (F' H' : Hp) (y : V) (a : α), Same F' H' → R.r F' y a → tb [some y] H' fun w H'' => Same H' H'' ∧ Dp K H'' w (d a))
    (q' : ∀ F' H' vs, Same F F' → Wst ⟨MA, TL⟩ F0 H0 ss cs σ F' H' → A2 (R.r F') vs (srtD d l) → ∀ p, H' p = none → Q (.ref p) (upd H' p (.lst vs))) :
    tCons (tLam TL q params body scope) tNil σ H fun zs H2 => rSortLam K q params body scope tb [v] zs H2 Q := by
  obtain ⟨a, vs, rfl, ha, hv⟩ := r
  refine ⟨h.tb t0, fun f c' H1 e n t hf h1 h2 => ?_⟩
  have x1 := ext_lam (TL := TL) h.fh h.nt e n t
  have w1 := h.grow x1
  have ha1 : H1 a = some (.lst vs) := e a _ ha (by intro ps z; cases z)
  refine ⟨a, f, c', vs, l.map d, rfl, rfl, sq_l ha1, h1, h2, by rw [List.length_map]; exact hv.len, fun j y dd hy hd H' sm => ?_, fun x hx y hy => ?_, ?_, fun x hx => ?_, fun H' p sm hp => ?_⟩
  · obtain ⟨b, hb, rb⟩ := hv.get hy
    rw [List.getElem?_map, hb] at hd
    cases hd
    exact hkey F H' y b (w1.fh.trans sm) rb
  · obtain ⟨a1, _, rfl⟩ := List.mem_map.mp hx
    obtain ⟨b1, _, rfl⟩ := List.mem_map.mp hy
    exact hal a1 b1
  · rcases hok with z | z
    · exact .inl fun x hx => by
        obtain ⟨a1, _, rfl⟩ := List.mem_map.mp hx
        exact z a1
    · exact .inr fun x hx => by
        obtain ⟨a1, _, rfl⟩ := List.mem_map.mp hx
        exact z a1
  · obtain ⟨a1, _, rfl⟩ := List.mem_map.mp hx
    exact hdep a1
  · have x2 := ext_gw (T := TL) w1.fh w1.nt sm
    exact q' _ H' _ x2.ff (w1.grow x2) (a2_srt (hv.imp fun _ _ => R.mono x2.ff)) p hp
theorem w_srtLamF (h : Wst ⟨MA, TL⟩ F0 H0 ss cs σ F H) (t0 : LamX.Tabs TL H0) (r : LV R F H v l) (d : α → PyData) (hal : ∀ a b, alike (d a) (d b) = true) (hok : (∀ a, ∃ x r, d a = .tuple (x :: r)) ∨ ∀ a, d a ≠ .none ∧ ∀ xs, d a ≠ .tuple xs) (hdep : ∀ a, (d a).depth ≤ 40)
    (hkey : ∀ (F' H' : Hp) (y : V) (a : α), Same F' H' → R.r F' y a → tb [some y] H' fun w H'' => Same H' H'' ∧ Dp K H'' w (d a))
    (q' : ∀ v' F' H', Same F F' → Wst ⟨MA, TL⟩ F0 H0 ss cs σ F' H' → (rL R).r F' v' (srtD d l) → Q v' H') : tCons (tLam TL q params body scope) tNil σ H fun zs H2 => rSortLam K q params body scope tb [v] zs H2 Q :=
  w_srtLamX h t0 r d hal hok hdep hkey fun F' H' vs s h' a => w_newF h' a fun v' F2 H2 s2 => q' v' F2 H2 (s.trans s2)
theorem w_srtLamC (h : Wst ⟨MA, TL⟩ F0 H0 ss cs σ F H) (t0 : LamX.Tabs TL H0) (r : LV R F H v l) (d : α → PyData) (hal : ∀ a b, alike (d a) (d b) = true) (hok : (∀ a, ∃ x r, d a = .tuple (x :: r)) ∨ ∀ a, d a ≠ .none ∧ ∀ xs, d a ≠ .tuple xs) (hdep : ∀ a, (d a).depth ≤ 40)
    (hkey : ∀ (F' H' : Hp) (y : V) (a : α), Same F' H' → R.r F' y a → tb [some y] H' fun w H'' => Same H' H'' ∧ Dp K H'' w (d a))
    (q' : ∀ p F' H', H0 p = none → Same F F' → Wst ⟨MA, TL⟩ F0 H0 ss ((p, cL R (srtD d l)) :: cs) σ F' H' → Q (.ref p) H') : tCons (tLam TL q params body scope) tNil σ H fun zs H2 => rSortLam K q params body scope tb [v] zs H2 Q :=
  w_srtLamX h t0 r d hal hok hdep hkey fun F' H' vs s h' a => w_newC h' a fun p H2 o h2 => q' p F' H2 o s h2
/-! the keys (len(row), row) and (-len(row), row) -/
def keyLen {S : Rep α} (D : Dat S) (row : List α) : PyData := (dtT2 dtN (dtL D)).d (row.length, row)
def keyNeg {S : Rep α} (D : Dat S) (row : List α) : PyData := (dtT2 dtZ (dtL D)).d (-(row.length : Int), row)
theorem key_len {S : Rep α} (D : Dat S) (F' H' : Hp) (y : V) (row : List α) (s : Same F' H') (r : (rL S).r F' y row) : tTup (tCons (tCB (rLen K) (tCons (tVar 0) tNil)) (tCons (tVar 0) tNil)) [some y] H' fun w H'' => Same H' H'' ∧ Dp K H'' w (keyLen D row) := by
  have hd : Dp K H' y ((dtL D).d row) := (dtL D).dp s r
  obtain ⟨a, vs, rfl, ha, hv⟩ := r
  refine x_cons (x_cb (x_cons (x_var rfl (x_nil (x_len (s _ _ ha) (x_cons (x_var rfl (x_nil ?_))))))))
  refine ⟨by show 2 ≤ sizeLine; decide, fun p hp => ⟨same_new hp, ?_⟩⟩
  exact .tup (sq_t upd_same) (.cons (by rw [hv.len]; exact .int _) (.cons (dp_mono (same_new hp) _ _ hd) .nil))
end
section
open PySem.W LamX NdefX
variable {α : Type} {K : PySem.W.Frag}
theorem key_neg {S : Rep α} (D : Dat S) (F' H' : Hp) (y : V) (row : List α) (s : Same F' H') (r : (rL S).r F' y row) : tTup (tCons (tUn (rU fun i => .int (-i)) (tCB (rLen K) (tCons (tVar 0) tNil))) (tCons (tVar 0) tNil)) [some y] H' fun w H'' => Same H' H'' ∧ Dp K H'' w (keyNeg D row) := by
  have hd : Dp K H' y ((dtL D).d row) := (dtL D).dp s r
  obtain ⟨a, vs, rfl, ha, hv⟩ := r
  refine x_cons (x_un (x_cb (x_cons (x_var rfl (x_nil (x_len (s _ _ ha) (x_U (x_cons (x_var rfl (x_nil ?_))))))))))
  refine ⟨by show 2 ≤ sizeLine; decide, fun p hp => ⟨same_new hp, ?_⟩⟩
  exact .tup (sq_t upd_same) (.cons (by rw [hv.len]; exact .int _) (.cons (dp_mono (same_new hp) _ _ hd) .nil))
end
theorem tabs_of_empty {TL : List (Addr × Str)} {H : Hp} (h : ∀ p ∈ TL, H p.1 = some (.tbl #[])) : LamX.Tabs TL H := fun p hp => ⟨#[], h p hp, trivial, fun pos cv hc => by cases hc⟩
/-! ### mirrors: tuples of any length, dicts whose keys are tuples of numbers, l[i] -= n -/
section
variable {α β : Type}
def rU (R : Rep α) : Rep (List α) := ⟨fun F v l => ∃ a vs, v = .ref a ∧ F a = some (.tup vs) ∧ A2 (R.r F) vs l, fun s ⟨a, vs, e, h, q⟩ => ⟨a, vs, e, s _ _ h, q.imp fun _ _ => R.mono s⟩⟩
def tk (l : List Nat) : List Key := l.map fun (n : Nat) => (Sum.inl (n : Int) : Key)
theorem tk_inj : ∀ {l m : List Nat}, tk l = tk m → l = m
  | [], [], _ => rfl
  | [], _ :: _, h => by cases h
  | _ :: _, [], h => by cases h
  | a :: l, b :: m, h => by
    have h1 := List.cons.inj h
    have := Sum.inl.inj h1.1
    rw [tk_inj (l := l) (m := m) h1.2, show a = b by omega]
theorem tk_kv (l : List Nat) : (tk l).map kV = nv l := by
  induction l with
  | nil => rfl
  | cons x r ih =>
    show V.int (x : Int) :: ((tk r).map kV) = _
    rw [ih]
    rfl
def KtR (B : Rep β) (F : Hp) (kv : List Key × V) (p : List Nat × β) : Prop := kv.1 = tk p.1 ∧ B.r F kv.2 p.2
def cDT (B : Rep β) (d : List (List Nat × β)) : Ca := ⟨fun F o => ∃ kvs, o = .dT kvs ∧ A2 (KtR B F) kvs d, fun s ⟨kvs, e, h⟩ => ⟨kvs, e, h.imp fun _ _ ⟨h1, h2⟩ => ⟨h1, B.mono s h2⟩⟩, fun ⟨kvs, e, _⟩ => by subst e; exact ⟨(fun _ z => by cases z), (fun _ z => by cases z)⟩⟩
def rDT (B : Rep β) : Rep (List (List Nat × β)) := ⟨fun F v d => ∃ a kvs, v = .ref a ∧ F a = some (.dT kvs) ∧ A2 (KtR B F) kvs d, fun s ⟨a, kvs, e, h, q⟩ => ⟨a, kvs, e, s _ _ h, q.imp fun _ _ ⟨h1, h2⟩ => ⟨h1, B.mono s h2⟩⟩⟩
def dputT (d : List (List Nat × β)) (k : List Nat) (v : β) : List (List Nat × β) := if (d.any fun p => decide (p.1 = k)) = true then d.map (fun p => if p.1 = k then (p.1, v) else p) else d ++ [(k, v)]
def dgetT : List (List Nat × β) → List Nat → Option β
  | [], _ => none
  | p :: d, k => if p.1 = k then some p.2 else dgetT d k
end
section
variable {M : Mx} {F0 H0 F H : Hp} {ss ss' : List Sa} {cs cs' : List (Addr × Ca)} {σ : St} {c : Addr} {k n : Nat} {α β : Type} {R : Rep α} {B : Rep β} {a : α} {b : β} {l l' : List α} {Q : VK} {K : PySem.W.Frag} {v x y : V} {d : List (List Nat × β)} {kl : List Nat} {P : Option V → Prop} {Pv : V → Prop}
theorem nn_U : NoN (rU R) := fun F v a r e => by
  obtain ⟨p, vs, rfl, _⟩ := r
  cases e
def rTupOf (K : PySem.W.Frag) : List V → Hp → VK → Prop := fun xs H Q => ∃ p ys, xs = [V.ref p] ∧ ((SqL K H p ys ∧ ∀ l, H l = none → Q (.ref l) (upd H l (.tup ys))) ∨ (SqT K H p ys ∧ Q (.ref p) H))
theorem cl_tupOf {X : Cx} (K : PySem.W.Frag) (hK : X.K = K := by rfl) : CallR X (.type "tuple") (rTupOf K) := by subst hK; exact call_tuple_of
theorem w_tupOf (h : Wst M F0 H0 ss cs σ F H) (r : LV R F H v l) (q : ∀ v F' H', Same F F' → Wst M F0 H0 ss cs σ F' H' → (rU R).r F' v l → Q v H') : rTupOf K [v] H Q := by
  obtain ⟨p, vs, rfl, hp, hv⟩ := r
  exact ⟨p, vs, rfl, .inl ⟨sq_l hp, fun t ht => by
    have e := ext_new (T := M.tl) (o := .tup vs) h.fh h.nt ht
    exact q _ _ _ e.ff (h.grow e) ⟨t, vs, rfl, upd_same, hv.imp fun _ _ => R.mono e.ff⟩⟩⟩
/-- a tuple that can be read -/
def UV (R : Rep α) (F H : Hp) (v : V) (l : List α) : Prop := ∃ a vs, v = .ref a ∧ H a = some (.tup vs) ∧ A2 (R.r F) vs l
theorem uv_f (s : Same F H) (r : (rU R).r F v l) : UV R F H v l := by
  obtain ⟨a, vs, e, h, q⟩ := r
  exact ⟨a, vs, e, s _ _ h, q⟩
theorem w_listUF (h : Wst M F0 H0 ss cs σ F H) (r : UV R F H v l) (q : ∀ v F' H', Same F F' → Wst M F0 H0 ss cs σ F' H' → (rL R).r F' v l → Q v H') : rListOf K [v] H Q := by
  obtain ⟨p, vs, rfl, hp, hv⟩ := r
  exact ⟨p, vs, rfl, .inr (sq_t hp), w_newF h hv q⟩
theorem w_listUC (h : Wst M F0 H0 ss cs σ F H) (r : UV R F H v l) (q : ∀ p H', H0 p = none → Wst M F0 H0 ss ((p, cL R l) :: cs) σ F H' → Q (.ref p) H') : rListOf K [v] H Q := by
  obtain ⟨p, vs, rfl, hp, hv⟩ := r
  exact ⟨p, vs, rfl, .inr (sq_t hp), w_newC h hv q⟩
theorem w_ixU (r : UV R F H v l) (e : l[n]? = some a) (q : ∀ x, R.r F x a → Q x H) : rIxT K v (.int (n : Int)) H Q := by
  obtain ⟨p, vs, rfl, hp, hv⟩ := r
  obtain ⟨x, hx, rx⟩ := hv.getB e
  exact x_ixT hp (atI_nat hx) (q x rx)
theorem w_lenU (r : UV R F H v l) (q : Q (.int (l.length : Int)) H) : rLen K [v] H Q := by
  obtain ⟨p, vs, rfl, hp, hv⟩ := r
  exact ⟨p, vs, rfl, .inr (sq_t hp), by rw [hv.len]; exact q⟩
/-- a dict that can be read -/
def DVT (B : Rep β) (F H : Hp) (v : V) (d : List (List Nat × β)) : Prop := ∃ a kvs, v = .ref a ∧ H a = some (.dT kvs) ∧ A2 (KtR B F) kvs d
theorem dwt_c (h : Wst M F0 H0 ss cs σ F H) (e : cs[k]? = some (c, cDT B d)) : DVT B F H (.ref c) d := by
  obtain ⟨o, h1, kvs, rfl, q⟩ := h.cell e
  exact ⟨c, kvs, rfl, h1, q⟩
theorem dwt_f (s : Same F H) (r : (rDT B).r F v d) : DVT B F H v d := by
  obtain ⟨a, kvs, e, h, q⟩ := r
  exact ⟨a, kvs, e, s _ _ h, q⟩
theorem dgetT_val {kvs : List (List Key × V)} (h : A2 (KtR B F) kvs d) (kl : List Nat) : (dgetT d kl = none ∧ valV kvs (tk kl) = none) ∨ ∃ b x, dgetT d kl = some b ∧ valV kvs (tk kl) = some x ∧ B.r F x b := by
  induction h with
  | nil => exact .inl ⟨rfl, rfl⟩
  | @cons kv p kvs d r _ ih =>
    obtain ⟨k0, v0⟩ := kv
    obtain ⟨m, b0⟩ := p
    obtain ⟨h1, h2⟩ := r
    simp only at h1 h2
    subst h1
    by_cases e : m = kl
    · subst e
      refine .inr ⟨b0, v0, ?_, ?_, h2⟩
      · unfold dgetT
        rw [if_pos rfl]
      · rw [valV_pos rfl]
    · have e1 : dgetT ((m, b0) :: d) kl = dgetT d kl := by
        conv => lhs; unfold dgetT
        rw [if_neg e]
      have e2 : valV ((tk m, v0) :: kvs) (tk kl) = valV kvs (tk kl) := valV_neg (fun z => e (tk_inj z))
      rw [e1, e2]
      exact ih
theorem u_key (s : Same F H) (r : (rU rN).r F y kl) : ∃ t, y = .ref t ∧ H t = some (.tup ((tk kl).map kV)) := by
  obtain ⟨t, vs, rfl, ht, hv⟩ := r
  rw [a2_nvN hv] at ht
  exact ⟨t, rfl, by rw [tk_kv]; exact s _ _ ht⟩
theorem w_dmemT (s : Same F H) (ry : (rU rN).r F y kl) (r : DVT B F H v d) (q : ∀ o : Option V, o.isSome = (dgetT d kl).isSome → P o) : ∃ a o, v = .ref a ∧ DGet H a y o ∧ P o := by
  obtain ⟨a, kvs, rfl, h, hv⟩ := r
  obtain ⟨t, rfl, ht⟩ := u_key s ry
  refine ⟨a, _, rfl, DGet.t h ht, q _ ?_⟩
  rcases dgetT_val hv kl with ⟨e1, e2⟩ | ⟨b, x, e1, e2, _⟩ <;> rw [e1, e2] <;> rfl
theorem w_dgetT (s : Same F H) (ry : (rU rN).r F y kl) (r : DVT B F H v d) (e : dgetT d kl = some b) (q : ∀ x, B.r F x b → Pv x) : ∃ a x, v = .ref a ∧ DGet H a y (some x) ∧ Pv x := by
  obtain ⟨a, kvs, rfl, h, hv⟩ := r
  obtain ⟨t, rfl, ht⟩ := u_key s ry
  rcases dgetT_val hv kl with ⟨e1, _⟩ | ⟨b', x, e1, e2, r⟩
  · rw [e] at e1; cases e1
  · rw [e] at e1
    cases e1
    refine ⟨a, x, rfl, ?_, q x r⟩
    rw [← e2]
    exact DGet.t h ht
theorem kt_any {kvs : List (List Key × V)} (h : A2 (KtR B F) kvs d) (kl : List Nat) : (kvs.any fun kv => decide (kv.1 = tk kl)) = d.any fun p => decide (p.1 = kl) := by
  induction h with
  | nil => rfl
  | @cons kv p kvs d r _ ih =>
    rw [List.any_cons, List.any_cons, ih, r.1, dec_cast (p := tk p.1 = tk kl) (q := p.1 = kl) ⟨tk_inj, fun z => by rw [z]⟩]
theorem putKt_rep {kvs : List (List Key × V)} (h : A2 (KtR B F) kvs d) (r : B.r F x b) : A2 (KtR B F) (putK kvs (tk kl) x) (dputT d kl b) := by
  unfold putK dputT
  rw [kt_any h]
  split
  · rename_i z
    clear z
    induction h with
    | nil => exact .nil
    | @cons kv p kvs d r0 _ ih =>
      rw [List.map_cons, List.map_cons]
      refine .cons ?_ ih
      by_cases e : p.1 = kl
      · rw [if_pos e, if_pos (by rw [r0.1, e])]
        exact ⟨r0.1, r⟩
      · rw [if_neg e, if_neg (by rw [r0.1]; exact fun z => e (tk_inj z))]
        exact r0
  · exact h.snoc ⟨rfl, r⟩
theorem w_dputT {P : Hp → Prop} (h : Wst M F0 H0 ss cs σ F H) (e : cs[k]? = some (c, cDT B d)) (ry : (rU rN).r F y kl) (z : d.length < 100000) (r : B.r F x b) (e2 : cs.set k (c, cDT B (dputT d kl b)) = cs') (q : ∀ H', Wst M F0 H0 ss cs' σ F H' → P H') : ∃ a H4, V.ref c = .ref a ∧ DPut H a y x H4 ∧ P H4 := by
  subst e2
  obtain ⟨o, h1, kvs, rfl, hv⟩ := h.cell e
  obtain ⟨t, rfl, ht⟩ := u_key h.fh ry
  exact ⟨c, _, rfl, DPut.t h1 ht (sz_lt (by rw [hv.len]; exact z)), q _ (h.mut e ⟨_, rfl, putKt_rep hv r⟩)⟩
theorem w_dnewT (h : Wst M F0 H0 ss cs σ F H) (q : ∀ p H', H0 p = none → Wst M F0 H0 ss ((p, cDT B []) :: cs) σ F H' → Q (.ref p) H') : tDNewT σ H Q := fun p hp => q p _ (h.own hp) (h.newC hp ⟨[], rfl, .nil⟩)
end
/-! l[i] -= n -/
def rGetN (K : PySem.W.Frag) : V → V → Hp → VK → Prop := fun x y H Q => ∃ (p : Addr) (xs : List V) (n : Nat) (z : V), x = .ref p ∧ y = .int (n : Int) ∧ SqL K H p xs ∧ xs[n]? = some z ∧ Q z H
theorem k_getN {X : Cx} (K : PySem.W.Frag) (hK : X.K = K := by rfl) : PGet X (rGetN K) := by
  subst hK
  intro pins s σ H x y v u Q I rx ry h
  obtain ⟨p, xs, n, z, rfl, rfl, hq, he, q⟩ := h
  cases rx
  obtain ⟨t, rfl⟩ := ry
  obtain ⟨its, r, pl, hz⟩ := I.list hq
  obtain ⟨w, ew, rw'⟩ := r.get he
  have hl := r.length
  have hn := line63
  have hlt : n < xs.length := (List.getElem?_eq_some_iff.mp he).1
  exact wpAny_getItem_list pl.isList (by omega) (by omega) (by rw [Int.toNat_natCast]; simpa using ew) ⟨z, H, I, rw', q⟩
section
variable {M : Mx} {F0 H0 F H : Hp} {ss : List Sa} {cs cs' : List (Addr × Ca)} {σ : St} {c : Addr} {k n : Nat} {α : Type} {R : Rep α} {a : α} {l : List α} {Q : VK} {K : PySem.W.Frag} {to ti te : TE} {tget : V → V → Hp → VK → Prop} {tip : TIp} {tset : TSet} {nx : St → Hp → Prop} {rt : VK} {bk ct : St → Hp → Prop}
theorem x_augS (h : to σ H fun o H1 => ti σ H1 fun i H2 => tget o i H2 fun x H3 => te σ H3 fun y H4 => tip x y H4 fun z H5 => tset o i z H5 fun H6 => nx σ H6) : tAugS to ti te tget tip tset ⟨nx, rt, bk, ct⟩ σ H := h
theorem w_getN (h : Wst M F0 H0 ss cs σ F H) (e : cs[k]? = some (c, cL R l)) (e1 : l[n]? = some a) (q : ∀ x, R.r F x a → Q x H) : rGetN K (.ref c) (.int (n : Int)) H Q := by
  obtain ⟨o, h1, vs, rfl, hv⟩ := h.cell e
  obtain ⟨x, hx, rx⟩ := hv.getB e1
  exact ⟨c, vs, n, x, rfl, rfl, sq_l h1, hx, q x rx⟩
end
/-! ### mirrors: == of instances by the text's own __eq__, isinstance of a class of one's own, `in` a list of strings, `<` of lists -/
def rEqO (C : Addr) (sp : Sp) (E : XK) : R2 := fun x y H Q => ∃ (a b dx dy : Addr) (fs gs : List (Str × V)), x = .ref a ∧ y = .ref b ∧ H a = some (.ins C dx fs) ∧ H b = some (.ins C dy gs) ∧ sp [.ref a, .ref b] H (fun v H' => ∃ c : Bool, v = .bl c ∧ Q (.bl c) H') E
theorem op_eqO {X : Cx} {CX : CXT} {k j : Nat} {C : Addr} {sp : Sp} {E : XK} (M : Met X.prog X.w X.K X.mg X.base CX k C "__eq__" sp) (hr : Room j X.A) (hk : k + 1 ≤ j) (hx : Passes CX X E) : OpR X (compareOp .Eq) (rEqO C sp E) := by
  intro pins s σ H x y v u Q I rx ry h
  obtain ⟨a, b, dx, dy, fs, gs, rfl, rfl, ha, hb', hsp⟩ := h
  cases rx
  cases ry
  obtain ⟨f, fd, ps, F, m1, m2, m3, bd⟩ := M.ex
  obtain ⟨mA, J, _⟩ := ins_get I.hok ha
  obtain ⟨mB, J', _⟩ := ins_get I.hok hb'
  obtain ⟨od, J, _⟩ := J.look
  obtain ⟨od', J', _⟩ := J'.look
  obtain ⟨mm, hF⟩ := I.fr
  show wpAny (model X.prog X.w) X.A (richCompare .Eq (.ref a) (.ref b)) (EP X pins σ Q) X.xe s
  refine PySem.W.cmp_K (op := .Eq) (tb := .ref C) hr.units0 hF I.ok.mod.kin J J'.type (by simp [PySem.W.notFirst]) m1 m2 ?_
  have hl := F.len _ _ _ _ hsp
  have r2 : Vals [V.ref a, V.ref b] [Value.ref a, Value.ref b] := .cons rfl (.cons rfl .nil)
  refine wpAny_call (codeAny_mono (F.run X.A X.stack s H ⟨[.ref a, .ref b], []⟩ [.ref a, .ref b] [.ref a, .ref b] _ E (hr.mono (by omega)) I.env0 (by
    have := bd s [.ref a, .ref b] I.kIn (by simpa using hl)
    simpa using this) r2 hsp) fun r s' hq => ?_)
  cases r with
  | error e => exact hx pins σ H s e s' I hq
  | ok fl =>
    cases fl with
    | ret w =>
      obtain ⟨z, H', I', rz, c, rfl, q⟩ := I.after hq
      cases rz
      exact ⟨.bl c, H', I', rfl, q⟩
    | next => exact False.elim hq
    | brk => exact False.elim hq
    | cont => exact False.elim hq
section
variable {F H : Hp} {C : Addr} {x y v : V} {w1 w2 : Wb} {sp : Sp} {E : XK} {Q : VK} {K : PySem.W.Frag}
theorem w_eqWb (s : Same F H) (r1 : (rWb C).r F x w1) (r2 : (rWb C).r F y w2) (q : ∀ a b, x = .ref a → y = .ref b → sp [.ref a, .ref b] H (fun v H' => ∃ c : Bool, v = .bl c ∧ Q (.bl c) H') E) : rEqO C sp E x y H Q := by
  obtain ⟨a, dx, d, rfl, h1, _⟩ := r1
  obtain ⟨b, dy, d', rfl, h2, _⟩ := r2
  exact ⟨a, b, dx, dy, _, _, rfl, rfl, s _ _ h1, s _ _ h2, q a b rfl rfl⟩
theorem w_isiWb (I : C8.InsC K C) (s : Same F H) (r : (rWb C).r F x w1) (q : Q (.bl true) H) : rIsi K [x, .ref C] H Q := by
  obtain ⟨a, dx, d, rfl, h1, _⟩ := r
  exact x_isi (.own C) (.base (.ins (s _ _ h1) I.cl I.ha I.hn I.htk I.hm)) I.me q
theorem a2_st {vs : List V} {l : List Str} (h : A2 (rSt.r F) vs l) : vs = l.map V.str := by
  induction h with
  | nil => rfl
  | cons r _ ih => rw [ih, show _ = _ from r]; rfl
theorem is_flat (l : List Str) : (l.map V.str).all flatV = true := by
  rw [List.all_eq_true]
  intro x h
  obtain ⟨i, _, rfl⟩ := List.mem_map.mp h
  rfl
theorem is_in (z : Str) (l : List Str) : inV (.str z) (l.map V.str) = decide (z ∈ l) := by
  unfold inV
  rw [List.any_map, Bool.eq_iff_iff, List.any_eq_true, decide_eq_true_eq]
  constructor
  · rintro ⟨a, ha, e⟩
    have e2 : a = z := by simpa [eqV] using e
    rw [← e2]; exact ha
  · intro h
    exact ⟨z, h, by simp [eqV]⟩
theorem w_inS {z : Str} {l : List Str} (r : LV rSt F H v l) (q : Q (.bl (decide (z ∈ l))) H) : rIn K false (.str z) v H Q := by
  obtain ⟨p, vs, rfl, hp, hv⟩ := r
  rw [a2_st hv] at hp
  refine x_in hp rfl (is_flat l) ?_
  rw [is_in]
  exact q
theorem w_ninS {z : Str} {l : List Str} (r : LV rSt F H v l) (q : Q (.bl (!decide (z ∈ l))) H) : rIn K true (.str z) v H Q := by
  obtain ⟨p, vs, rfl, hp, hv⟩ := r
  rw [a2_st hv] at hp
  refine x_nin hp rfl (is_flat l) ?_
  rw [is_in]
  exact q
end
section
open PySem.W
def rLtA (K : PySem.W.Frag) : R2 := fun x y H Q => ∃ da db, Dp K H x da ∧ Dp K H y db ∧ alike da db = true ∧ da ≠ .none ∧ da.depth ≤ 60 ∧ Q (.bl (dataLt da db)) H
theorem k_ltA {X : Cx} (K : PySem.W.Frag) (hu : X.A.units + 64 < cLine) (hK : X.K = K := by rfl) : OpR X (compareOp .Lt) (rLtA K) := by
  subst hK
  intro pins s σ H x y v u Q I rx ry h
  obtain ⟨da, db, hx, hy, hal, hn, hd, q⟩ := h
  obtain ⟨as, ra⟩ := Dp.reads I da x v hx rx
  obtain ⟨bs, rb⟩ := Dp.reads I db y u hy ry
  exact rcLt_alike da db X.A s v u as bs ra rb hal hn (by have := Nat.min_le_left da.depth db.depth; omega) X.prog X.w _ _ ⟨.bl _, H, I, rfl, q⟩
theorem lt_nats (a b : List Nat) : dataLt ((dtL dtN).d a) ((dtL dtN).d b) = decide (a < b) := by
  have h : ∀ l : List Nat, l.map dtN.d = (l.map fun n : Nat => (n : Int)).map PyData.int := fun l => by rw [List.map_map]; rfl
  have lt : ∀ a b : List Nat, (a.map fun n : Nat => (n : Int)) < (b.map fun n : Nat => (n : Int)) ↔ a < b := by
    intro a
    induction a with
    | nil => intro b; cases b <;> simp
    | cons x r ih =>
      intro b
      cases b with
      | nil => simp
      | cons y s =>
        rw [List.map_cons, List.map_cons, List.cons_lt_cons_iff, List.cons_lt_cons_iff, ih, Int.ofNat_lt, Int.ofNat_inj]
  show dataLt (.list (a.map dtN.d)) (.list (b.map dtN.d)) = _
  rw [dataLt_list]
  show rowLt (a.map dtN.d) (b.map dtN.d) = _
  rw [h, h, dataLt_ints]
  exact decide_eq_decide.mpr (lt _ _)
variable {F H : Hp} {x y : V} {Q : VK} {K : PySem.W.Frag} {a b : List Nat}
theorem w_ltL (s : Same F H) (r1 : LV rN F H x a) (r2 : LV rN F H y b) (q : Q (.bl (decide (a < b))) H) : rLtA K x y H Q := by
  have h1 : DV (dtL dtN) H x a := dv_l dtN s r1
  have h2 : DV (dtL dtN) H y b := dv_l dtN s r2
  refine ⟨(dtL dtN).d a, (dtL dtN).d b, h1 K, h2 K, (alkL alkN).al a b, (fun z => by cases z), Nat.le_trans ((dtL dtN).dep a) (by decide), ?_⟩
  rw [lt_nats]
  exact q
end
/-! ### two cells that are only looked at by a callee; an optional list that is not named at once -/
section
variable {M : Mx} {F0 H0 F H : Hp} {ss : List Sa} {cs : List (Addr × Ca)} {σ : L2.St} {c c2 : Addr} {k j : Nat} {α β : Type} {R : Rep α} {S : Rep β} {l : List α} {m : List β}
theorem borrow0 {vs : List V} (sF : Same F H) (nt : NoT F) (hc : H c = some (.lst vs)) (fc : F c = none) (hv : A2 (R.r F) vs l) : ∃ Fz, Same F Fz ∧ (Same Fz H ∧ NoT Fz) ∧ (rL R).r Fz (.ref c) l ∧ (∀ a, F a = none → a ≠ c → Fz a = none) ∧
    ∀ N F' H', Ext N Fz H F' H' → ∃ F2, Ext N F H F2 H' ∧ Same F2 F' ∧ ∀ a, F' a = none → F2 a = none := by
  have h : Wst ⟨[c], []⟩ F H [] [(c, cL R l)] [] F H := ⟨Ext.refl sF nt, .nil, fun p hp => by
    rw [List.mem_singleton.mp hp]
    exact ⟨⟨_, hc, vs, rfl, hv⟩, fc, .inl (List.mem_singleton.mpr rfl)⟩, List.nodup_cons.mpr ⟨(fun z => by cases z), List.nodup_nil⟩⟩
  exact h.borrow (k := 0) rfl
theorem Wst.borrow2 (h : Wst M F0 H0 ss cs σ F H) (e1 : cs[k]? = some (c, cL R l)) (e2 : cs[j]? = some (c2, cL S m)) (ne : k ≠ j) : ∃ Fz, Same F Fz ∧ (Same Fz H ∧ NoT Fz) ∧ (rL R).r Fz (.ref c) l ∧ (rL S).r Fz (.ref c2) m ∧
    ∀ N F' H', Ext N Fz H F' H' → ∃ F2, Ext N F H F2 H' ∧ Same F2 F' ∧ ∀ a, F' a = none → F2 a = none := by
  obtain ⟨Fz, s1, ⟨s2, n1⟩, r1, z1, back⟩ := h.borrow e1
  obtain ⟨o2, hc2, ws, rfl, hw⟩ := h.cell e2
  have f2 := h.apart e2
  have dif : c2 ≠ c := fun z => by
    have q1 : (cs.map (·.1))[k]? = some c := by rw [List.getElem?_map, e1]; rfl
    have q2 : (cs.map (·.1))[j]? = some c := by rw [List.getElem?_map, e2, z]; rfl
    exact ne (nd_ix h.nd q1 q2)
  obtain ⟨Fy, t1, ⟨t2, n2⟩, r2, _, back2⟩ := borrow0 (R := S) (l := m) s2 n1 hc2 (z1 c2 f2 dif) (hw.imp fun _ _ => S.mono s1)
  refine ⟨Fy, s1.trans t1, ⟨t2, n2⟩, (rL R).mono t1 r1, r2, fun N F' H' x => ?_⟩
  obtain ⟨F2, x2, s3, z2⟩ := back2 N F' H' x
  obtain ⟨F3, x3, s4, z3⟩ := back N F2 H' x2
  exact ⟨F3, x3, s4.trans s3, fun a q => z3 a (z2 a q)⟩
/-- an optional new list, taken as a value that stays -/
theorem optC_go {N : Mx} {rr : Option (List α)} {Q : VK} (q : ∀ v F' H', Ext N F H F' H' → (rO (rL R)).r F' v rr → Q v H') : OptC N F H R rr Q := by
  refine ⟨fun l e D F' H' x hD fD ⟨o, hd, vs, eo, hv⟩ => ?_, fun e F' H' x => q _ F' H' x (by rw [e]; rfl)⟩
  subst eo
  have sf : Same F' (upd F' D (.lst vs)) := same_new fD
  refine q (.ref D) (upd F' D (.lst vs)) H' ⟨x.ff.trans sf, fun b o e2 => ?_, x.hh, fun a h n => ?_, x.dm, x.nt.upd (fun _ z => by cases z), x.tb⟩ (by rw [e]; exact ⟨D, vs, rfl, upd_same, hv.imp fun _ _ => R.mono sf⟩)
  · by_cases z : b = D
    · rw [z, upd_same] at e2
      rw [z, ← e2]
      exact hd
    · rw [upd_ne z] at e2
      exact x.fh b o e2
  · rw [upd_ne (fun z => n (by rw [z]; exact hD))]
    exact x.ap a h n
end
theorem on_in {f : Option Nat → V} (h0 : f none = .non) (h1 : ∀ n : Nat, f (some n) = .int (n : Int)) (l : List (Option Nat)) : inV .non (l.map f) = memD none l := by
  unfold inV
  rw [List.any_map, Bool.eq_iff_iff, List.any_eq_true, memD_mem]
  constructor
  · rintro ⟨o, ho, e⟩
    cases o with
    | none => exact ho
    | some m =>
      have e : eqV (f (some m)) .non = true := e
      rw [h1] at e
      cases e
  · intro h
    refine ⟨none, h, ?_⟩
    show eqV (f none) .non = true
    rw [h0]
    rfl
section
variable {F H : Hp} {v : V} {Q : VK} {K : PySem.W.Frag} {l : List (Option Nat)}
theorem w_inNon (r : LV (rO rN) F H v l) (q : Q (.bl (memD none l)) H) : rIn K false .non v H Q := by
  obtain ⟨p, vs, rfl, hp, hv⟩ := r
  rw [a2_ov hv] at hp
  refine x_in hp rfl (ov_flat l) ?_
  rw [on_in rfl fun _ => rfl]
  exact q
theorem w_ninNon (r : LV (rO rN) F H v l) (q : Q (.bl (!memD none l)) H) : rIn K true .non v H Q := by
  obtain ⟨p, vs, rfl, hp, hv⟩ := r
  rw [a2_ov hv] at hp
  refine x_nin hp rfl (ov_flat l) ?_
  rw [on_in rfl fun _ => rfl]
  exact q
end
/-! ### new lists, or None, given back -/
section
variable {α : Type} {R S : Rep α} {M : Mx} {F0 H0 F H H1 : Hp} {ss : List Sa} {cs : List (Addr × Ca)} {σ : L2.St} {v : V}
theorem wkO (k : ∀ F v a, R.r F v a → S.r F v a) (F : Hp) (v : V) (o : Option α) (h : (rO R).r F v o) : (rO S).r F v o := by
  cases o with
  | none => exact h
  | some a => exact k F v a h
theorem Wst.thawO {o : Option (List α)} {Q : VK} (h : Wst M F0 H0 ss cs σ F H) (fl : ∀ F F' v a, R.r F v a → R.r F' v a) (r : (rO (rNw H0 (rL R))).r F v o)
    (q1 : ∀ l, o = some l → ∀ D F' H', Ext M F0 H0 F' H' → H0 D = none → F' D = none → (∃ o, H' D = some o ∧ (cL R l).p F' o) → Q (.ref D) H') (q2 : o = none → ∀ F' H', Ext M F0 H0 F' H' → Q .non H') (s0 : Same F0 H0 := by assumption) : Q v H := by
  cases o with
  | none =>
    rw [show v = _ from r]
    exact q2 rfl _ _ h.ex
  | some l => exact h.thaw fl r.1 r.2 (q1 l rfl) s0
theorem nn_nw (n : NoN R) : NoN (rNw H0 R) := fun F v a h => n F v a h.1
end
theorem dv_oN {α : Type} {R : Rep α} {D : Dat R} {H : Hp} : DV (dtOL D) H .non none := fun K => .non
abbrev s_WebD_lenD : Stmt := inClass (topS 10) 1
theorem sc_WebD_lenD : FnScope ["self"] ["self"] (defScope s_WebD_lenD) := ⟨rfl, rfl, rfl, by decide +kernel, rfl, by decide +kernel, by decide +kernel⟩
def f_WebD_lenD (p_self : Wb) : Option (Nat) :=
  some p_self.length
def q_WebD_lenD (TL : List (Addr × Str)) (C_Web : Addr) : Sp := fun vs H Q _ => ∃ (F : Hp) (v_self : V) (p_self : Wb) (rr : Nat), vs = [v_self] ∧ Same F H ∧ NoT F ∧ (rWb C_Web).r F v_self p_self ∧ f_WebD_lenD p_self = some rr ∧ ∀ v F' H', Ext ⟨[], TL⟩ F H F' H' → rN.r F' v rr → Q v H'
section
variable {P : Program} {w : World} {K : PySem.W.Frag} {mg : Str → Option Value} {base : Heap}
theorem t_WebD_lenD {C_Web : Addr} (T : Tx mg) (O_Web : Own K mg "Web" C_Web) (nB_Web : NoAttr K C_Web "beside") (F : MetAt K C_Web "__len__" "Web.__len__" s_WebD_lenD ["self"]) : Met P w K mg base CX0 1 C_Web "__len__" (q_WebD_lenD TL C_Web) := by
  refine F.met sc_WebD_lenD (fun vs H Q E h => ?_) (fun f cdv A outer s H vs Q E hr h => ?_)
  · obtain ⟨_, _, _, _, rfl, _⟩ := h
    rfl
  · obtain ⟨F, v_self, p_self, rr, rfl, sm0, nt0, r_self, hf, q⟩ := h
    have hf : _ = some rr := hf
    unfold f_WebD_lenD at hf
    refine ⟨_, (pss_one (ps_ret (pe_callB (cl_len K) (by rfl) T.z_len PySem.boot_len (pa_cons (k_fld K (pv 0) rfl) pa_nil)))), ?_⟩
    have hE0 : Wst ⟨[], TL⟩ F H [(rWb C_Web).at p_self] [] (start ["self"] [v_self]) F H := Wst.start (vs := [v_self]) (n := 0) (ss := [(rWb C_Web).at p_self]) (cs := []) sm0 nt0 (fun p hp => by cases hp) List.nodup_nil (.cons ⟨_, rfl, r_self⟩ .nil)
    revert hE0
    generalize start ["self"] [v_self] = σ0
    intro hE0
    refine x_ret ?_
    refine x_cb ?_
    refine x_cons ?_
    refine x_tfld ?_
    refine w_var hE0 (i := 0) rfl fun v1 r2 => ?_
    refine w_fldWeb hE0.fh r2 O_Web.cl nB_Web fun v3 r4 => ?_
    refine x_nil ?_
    refine w_len (lv_f hE0.fh r4) ?_
    have hf := Option.some.inj hf
    subst hf
    exact q _ _ _ hE0.ex rfl
end
section
variable {MA : List Addr} {F0 H0 F H : Hp} {ss : List Sa} {cs : List (Addr × Ca)} {σ : St} {Q : VK} {v : V} {C : Addr} {w : Wb} {E : XK}
theorem w_lenWeb (h : Wst ⟨MA, TL⟩ F0 H0 ss cs σ F H) (r : (rWb C).r F v w) (z : w.length < 2 ^ 62) (q : ∀ F' H', Same F F' → Wst ⟨MA, TL⟩ F0 H0 ss cs σ F' H' → Q (.int (w.length : Int)) H') : rLenO C (q_WebD_lenD TL C) E [v] H Q := by
  obtain ⟨a, dx, fs, rfl, ha⟩ := knWeb h.fh r
  refine ⟨a, dx, fs, rfl, ha, F, _, w, w.length, rfl, h.fh, h.nt, r, rfl, fun v F' H' e rv => ⟨w.length, rv, by omega, by omega, q F' H' e.ff (h.grow e)⟩⟩
end
abbrev s_l_draws : Stmt := topS 29
theorem sc_l_draws : FnScope ["script", "k", "sizes", "rest", "great", "found", "at", "value"] ["script", "k", "sizes"] (defScope s_l_draws) := ⟨rfl, rfl, rfl, by decide +kernel, rfl, by decide +kernel, by decide +kernel⟩
def f_l_draws (p_script : (List Int)) (p_k : Nat) (p_sizes : (List Nat)) : Option ((List Nat)) :=
  if (decide (p_script.length ≤ p_k)) = true then
    (gd ([0].length * p_sizes.length ≤ 100000 ∧ p_sizes.length < 2 ^ 62)).bind fun _ =>
    some ((List.replicate p_sizes.length [0]).flatten)
  else
    (p_script[p_k]?).bind fun x17 =>
    (gd (2 < 2 ^ 64 ∨ (Int.natAbs x17) < 2 ^ 64)).bind fun _ =>
    (p_script[p_k]?).bind fun x21 =>
    (gd (p_sizes.length < 2 ^ 62)).bind fun _ =>
    (foldO (fun (s32 : Nat × (List Nat)) (x33 : Nat) =>
      (
        if (!(decide ((2 * (10 ^ 18)) ≤ ((2 * (Int.natAbs x17)) + (decide (x21 < ((0 : Nat) : Int))).toNat)))) = true then
          (gd (2 < 2 ^ 64 ∨ x33 < 2 ^ 64)).bind fun _ =>
          (gd ((s32.1 + 3) < 2 ^ 64 ∨ ((2 * x33) + 1000003) < 2 ^ 64)).bind fun _ =>
          (gd (((s32.1 + 3) * ((2 * x33) + 1000003)) < 2 ^ 64 ∨ 6364136223846793005 < 2 ^ 64)).bind fun _ =>
          (gd (x33 < 2 ^ 64 ∨ x33 < 2 ^ 64)).bind fun _ =>
          (gd ((((((s32.1 + 3) * ((2 * x33) + 1000003)) * 6364136223846793005) + (x33 * x33)) % 18446744073709551557) < 2 ^ 64 ∨ (((((s32.1 + 3) * ((2 * x33) + 1000003)) * 6364136223846793005) + (x33 * x33)) % 18446744073709551557) < 2 ^ 64)).bind fun _ =>
          some ((((((((((s32.1 + 3) * ((2 * x33) + 1000003)) * 6364136223846793005) + (x33 * x33)) % 18446744073709551557) * (((((s32.1 + 3) * ((2 * x33) + 1000003)) * 6364136223846793005) + (x33 * x33)) % 18446744073709551557)) + s32.1) + x33) % 18446744073709551533) / 65536)
        else
          some s32.1
        : Option (Nat)).bind fun x50 =>
      (p_sizes[x33]?).bind fun x64 =>
      (gd (0 < x64)).bind fun _ =>
      (gd (s32.2.length < 100000)).bind fun _ =>
      if (decide ((2 * (10 ^ 18)) ≤ ((2 * (Int.natAbs x17)) + (decide (x21 < ((0 : Nat) : Int))).toNat))) = true then
        (p_sizes[x33]?).bind fun x73 =>
        (gd (0 < x73 ∧ x73 < 1073741824)).bind fun _ =>
        some ((s32.1 / x73), (s32.2 ++ [(x50 % x64)]))
      else
        some (s32.1, (s32.2 ++ [(x50 % x64)]))) (List.range p_sizes.length) (((2 * (Int.natAbs x17)) + (decide (x21 < ((0 : Nat) : Int))).toNat), ([] : List Nat))).bind fun x44 =>
    some x44.2
def q_l_draws (TL : List (Addr × Str)) (K : PySem.W.Frag) : Sp := fun vs H Q _ => ∃ (F : Hp) (v_script : V) (p_script : (List Int)) (p_k : Nat) (v_sizes : V) (p_sizes : (List Nat)) (rr : (List Nat)), vs = [v_script, (V.int ((p_k : Nat) : Int)), v_sizes] ∧ Same F H ∧ NoT F ∧ (rScr K).r F v_script p_script ∧ (rL rN).r F v_sizes p_sizes ∧ f_l_draws p_script p_k p_sizes = some rr ∧ ∀ D F' H', Ext ⟨[], TL⟩ F H F' H' → H D = none → F' D = none → (∃ o, H' D = some o ∧ (cL rN rr).p F' o) → Q (.ref D) H'
section
variable {P : Program} {w : World} {K : PySem.W.Frag} {mg : Str → Option Value} {base : Heap}
theorem t_l_draws (T : Tx mg) (F : DefAt K mg "_law_draws" s_l_draws ["script", "k", "sizes"]) : Cal P w K mg base CX0 1 "_law_draws" (q_l_draws TL K) := by
  refine F.cal sc_l_draws (fun vs H Q E h => ?_) (fun f cdv A outer s H vs Q E hr h => ?_)
  · obtain ⟨_, _, _, _, _, _, _, rfl, _⟩ := h
    rfl
  · obtain ⟨F, v_script, p_script, p_k, v_sizes, p_sizes, rr, rfl, sm0, nt0, r_script, r_sizes, hf, q⟩ := h
    have hf : _ = some rr := hf
    unfold f_l_draws at hf
    refine ⟨_, (pss_cons (ps_if (pt_cmpR op_ge (pv 1) (pe_callB (cl_len K) (by rfl) T.z_len PySem.boot_len (pa_cons (pv 0) pa_nil)) (nomark _))
        (pss_one (ps_ret (pe_op op_rep (pe_lst (pa_cons pe_int pa_nil)) (pe_callB (cl_len K) (by rfl) T.z_len PySem.boot_len (pa_cons (pv 2) pa_nil))))) pss_nil)
      (pss_cons (ps_set (i := 3) sc_l_draws.nd rfl (Or.inl rfl) (pe_op op_add (pe_op op_mul pe_int (pe_callB cl_abs (by rfl) T.z_abs (by decide +kernel) (pa_cons (pe_ix (ix_l K) (pv 0) (pv 1) (fun _ _ => rfl)) pa_nil))) (pe_callTy cl_int (by rfl) T.z_int (by decide +kernel) (pa_cons (pe_cmpR op_lt (pe_ix (ix_l K) (pv 0) (pv 1) (fun _ _ => rfl)) pe_int (nomark _)) pa_nil))))
      (pss_cons (ps_set (i := 4) sc_l_draws.nd rfl (Or.inl rfl) (pe_cmpR op_ge (pv 3) (pe_op op_mul pe_int (pe_op op_pow pe_int pe_int)) (nomark _)))
      (pss_cons (ps_set (i := 5) sc_l_draws.nd rfl (Or.inl rfl) (pe_lst pa_nil))
      (pss_cons (ps_for PassesOwn.never rfl (pi_range1 rfl T.z_range (pa_cons (pe_callB (cl_len K) (by rfl) T.z_len PySem.boot_len (pa_cons (pv 2) pa_nil)) pa_nil)) (pg_name (i := 6) sc_l_draws.nd rfl (Or.inl rfl))
        (pss_cons (ps_set (i := 7) sc_l_draws.nd rfl (Or.inl rfl) (pv 3))
      (Evl.pss_cut (ps_if (pt_not (pt_val (pv 4)))
        (pss_cons (ps_set (i := 7) sc_l_draws.nd rfl (Or.inl rfl) (pe_op op_mod (pe_callTy cl_int (by rfl) T.z_int (by decide +kernel) (pa_cons (pe_op op_add (pe_op op_mul (pe_op op_mul (pe_op op_add (pv 3) pe_int) (pe_op op_add (pe_op op_mul pe_int (pv 6)) pe_int)) pe_int) (pe_op op_mul (pv 6) (pv 6))) pa_nil)) pe_int))
      (pss_one (ps_set (i := 7) sc_l_draws.nd rfl (Or.inl rfl) (pe_op op_fdiv (pe_op op_mod (pe_callTy cl_int (by rfl) T.z_int (by decide +kernel) (pa_cons (pe_op op_add (pe_op op_add (pe_op op_mul (pv 7) (pv 7)) (pv 3)) (pv 6)) pa_nil)) pe_int) pe_int)))) pss_nil)
      (pss_cons (ps_expr (k_bm K PySem.F.plainAttrs_list PySem.F.slot_list_append PySem.F.type_list_append mt_append (pv 5) (pa_cons (pe_op op_mod (pe_callTy cl_int (by rfl) T.z_int (by decide +kernel) (pa_cons (pv 7) pa_nil)) (pe_ix (ix_l K) (pv 2) (pv 6) (fun _ _ => rfl))) pa_nil)))
      (pss_one (ps_if (pt_val (pv 4))
        (pss_one (ps_set (i := 3) sc_l_draws.nd rfl (Or.inl rfl) (pe_op op_fdiv (pe_callTy cl_int (by rfl) T.z_int (by decide +kernel) (pa_cons (pv 3) pa_nil)) (pe_ix (ix_l K) (pv 2) (pv 6) (fun _ _ => rfl))))) pss_nil))))))
      (pss_one (ps_ret (pv 5)))))))), ?_⟩
    have hE0 : Wst ⟨[], TL⟩ F H [(rScr K).at p_script, rN.at p_k, (rL rN).at p_sizes, sAny, sAny, sAny, sAny, sAny] [] (start ["script", "k", "sizes", "rest", "great", "found", "at", "value"] [v_script, (V.int ((p_k : Nat) : Int)), v_sizes]) F H := Wst.start (vs := [v_script, (V.int ((p_k : Nat) : Int)), v_sizes]) (n := 5) (ss := [(rScr K).at p_script, rN.at p_k, (rL rN).at p_sizes]) (cs := []) sm0 nt0 (fun p hp => by cases hp) List.nodup_nil (.cons ⟨_, rfl, r_script⟩ (.cons ⟨_, rfl, rfl⟩ (.cons ⟨_, rfl, r_sizes⟩ .nil)))
    revert hE0
    generalize start ["script", "k", "sizes", "rest", "great", "found", "at", "value"] [v_script, (V.int ((p_k : Nat) : Int)), v_sizes] = σ0
    intro hE0
    refine x_seq ?_
    refine x_ifs ?_
    refine x_test ?_
    refine x_op ?_
    refine w_vN hE0 (i := 1) rfl ?_
    refine x_cb ?_
    refine x_cons ?_
    refine w_var hE0 (i := 0) rfl fun v1 r2 => ?_
    refine x_nil ?_
    refine w_lenScr hE0.fh r2 ?_
    refine w_geN ?_
    refine x_bl ?_
    refine x_itb (fun hc3 => ?_) (fun hc3 => ?_)
    · have hf := ite_t hf hc3
      refine x_ret ?_
      refine x_op ?_
      refine m_lst ?_
      refine x_cons ?_
      refine w_cN 0 ?_
      refine x_nil ?_
      refine w_lstF hE0 (R := rN) (l := [0]) (by show 1 ≤ 100000; decide) (.cons rfl .nil) fun v4 _ _ s5 hE7 r6 => ?_
      refine x_cb ?_
      refine x_cons ?_
      refine w_var hE7 (i := 2) rfl fun v8 r9 => ?_
      refine x_nil ?_
      refine w_len (lv_f hE7.fh r9) ?_
      obtain ⟨_, u10, hf⟩ := bnd hf
      have u10 := gd_ok u10
      refine w_repC hE7 (lv_f hE7.fh r6) u10 fun c11 _ o12 hE13 => ?_
      have hE14 : Wst ⟨[], TL⟩ _ _ [(rScr K).at p_script, rN.at p_k, (rL rN).at p_sizes, sAny, sAny, sAny, sAny, sAny] [(c11, cL rN (List.replicate p_sizes.length [0]).flatten)] _ _ _ := hE13
      have hf := Option.some.inj hf
      subst hf
      exact q _ _ _ hE14.ex o12 (hE14.apart (k := 0) rfl) (hE14.cell (k := 0) rfl)
    · have hf := ite_f hf hc3
      refine x_next ?_
      refine x_seq ?_
      refine x_asg ?_
      refine x_op ?_
      refine x_op ?_
      refine w_cN 2 ?_
      refine x_cb ?_
      refine x_cons ?_
      refine x_op ?_
      refine w_var hE0 (i := 0) rfl fun v15 r16 => ?_
      refine w_vN hE0 (i := 1) rfl ?_
      obtain ⟨x17, hx17, hf⟩ := bnd hf
      refine w_ixScr hE0.fh r16 hx17 ?_
      refine x_nil ?_
      refine w_abs (i := x17) ?_
      obtain ⟨_, u18, hf⟩ := bnd hf
      have u18 := gd_ok u18
      refine w_mulN u18 ?_
      refine x_cb ?_
      refine x_cons ?_
      refine x_op ?_
      refine x_op ?_
      refine w_var hE0 (i := 0) rfl fun v19 r20 => ?_
      refine w_vN hE0 (i := 1) rfl ?_
      obtain ⟨x21, hx21, hf⟩ := bnd hf
      refine w_ixScr hE0.fh r20 hx21 ?_
      refine w_cN 0 ?_
      refine x_I0 ?_
      refine x_nil ?_
      refine w_intB ?_
      refine w_addN ?_
      refine w_name (R := rN) (ss' := [(rScr K).at p_script, rN.at p_k, (rL rN).at p_sizes, rN.at ((2 * (Int.natAbs x17)) + (decide (x21 < ((0 : Nat) : Int))).toNat), sAny, sAny, sAny, sAny]) hE0 rfl rfl fun _ hE22 => ?_
      refine x_seq ?_
      refine x_asg ?_
      refine x_op ?_
      refine w_vN hE22 (i := 3) rfl ?_
      refine x_op ?_
      refine w_cN 2 ?_
      refine x_op ?_
      refine w_cN 10 ?_
      refine w_cN 18 ?_
      refine w_powN (by decide) ?_
      refine w_mulN (by decide) ?_
      refine w_geN ?_
      refine w_name (R := rB) (ss' := [(rScr K).at p_script, rN.at p_k, (rL rN).at p_sizes, rN.at ((2 * (Int.natAbs x17)) + (decide (x21 < ((0 : Nat) : Int))).toNat), rB.at (decide ((2 * (10 ^ 18)) ≤ ((2 * (Int.natAbs x17)) + (decide (x21 < ((0 : Nat) : Int))).toNat))), sAny, sAny, sAny]) hE22 rfl rfl fun _ hE23 => ?_
      refine x_seq ?_
      refine x_asg ?_
      refine m_lst ?_
      refine x_nil ?_
      refine w_lstC hE23 (R := rN) (l := ([] : List Nat)) (by show 0 ≤ 100000; decide) .nil fun c24 _ o25 hE26 => ?_
      have hE27 : Wst ⟨[], TL⟩ _ _ [(rScr K).at p_script, rN.at p_k, (rL rN).at p_sizes, rN.at ((2 * (Int.natAbs x17)) + (decide (x21 < ((0 : Nat) : Int))).toNat), rB.at (decide ((2 * (10 ^ 18)) ≤ ((2 * (Int.natAbs x17)) + (decide (x21 < ((0 : Nat) : Int))).toNat))), sAny, sAny, sAny] [(c24, cL rN ([] : List Nat))] _ _ _ := hE26
      refine w_nameC (ss' := [(rScr K).at p_script, rN.at p_k, (rL rN).at p_sizes, rN.at ((2 * (Int.natAbs x17)) + (decide (x21 < ((0 : Nat) : Int))).toNat), rB.at (decide ((2 * (10 ^ 18)) ≤ ((2 * (Int.natAbs x17)) + (decide (x21 < ((0 : Nat) : Int))).toNat))), sRef c24, sAny, sAny]) hE27 rfl fun _ hE28 => ?_
      refine x_seq ?_
      refine x_for ?_
      refine x_rg1 ?_
      refine x_cons ?_
      refine x_cb ?_
      refine x_cons ?_
      refine w_var hE28 (i := 2) rfl fun v29 r30 => ?_
      refine x_nil ?_
      refine w_len (lv_f hE28.fh r30) ?_
      refine x_nil ?_
      obtain ⟨_, u31, hf⟩ := bnd hf
      have u31 := gd_ok u31
      refine w_r1 u31 ?_
      have hE42 : Wst ⟨[], TL⟩ _ _ [(rScr K).at p_script, rN.at p_k, (rL rN).at p_sizes, rN.at (((2 * (Int.natAbs x17)) + (decide (x21 < ((0 : Nat) : Int))).toNat), ([] : List Nat)).1, rB.at (decide ((2 * (10 ^ 18)) ≤ ((2 * (Int.natAbs x17)) + (decide (x21 < ((0 : Nat) : Int))).toNat))), sRef c24, sAny, sAny] [(c24, cL rN (((2 * (Int.natAbs x17)) + (decide (x21 < ((0 : Nat) : Int))).toNat), ([] : List Nat)).2)] _ _ _ := hE28
      obtain ⟨x44, hx44, hf⟩ := bnd hf
      refine w_for 0 (fun (s32 : Nat × (List Nat)) (ad40 : Nat → Addr) => [(rScr K).at p_script, rN.at p_k, (rL rN).at p_sizes, rN.at s32.1, rB.at (decide ((2 * (10 ^ 18)) ≤ ((2 * (Int.natAbs x17)) + (decide (x21 < ((0 : Nat) : Int))).toNat))), sRef c24, sAny, sAny]) (fun (s32 : Nat × (List Nat)) (ad40 : Nat → Addr) => [(c24, cL rN s32.2)]) hx44 adZ no_ad hE42 (fun _ ad40 _ _ _ sm w78 => jok_r0 w78.fh w78.nt) (fun s32 ad40 x33 v34 o35 _ _ _ ha41 s36 r37 hE38 hb39 => ?_) (fun ad40 _ _ _ ha41 s79 hE80 => ?_)
      · have hE43 : Wst ⟨[], TL⟩ _ _ [(rScr K).at p_script, rN.at p_k, (rL rN).at p_sizes, rN.at s32.1, rB.at (decide ((2 * (10 ^ 18)) ≤ ((2 * (Int.natAbs x17)) + (decide (x21 < ((0 : Nat) : Int))).toNat))), sRef c24, sAny, sAny] [(c24, cL rN s32.2)] _ _ _ := hE38
        obtain rfl := (show v34 = (V.int ((x33 : Nat) : Int)) from r37)
        refine w_name (R := rN) (ss' := [(rScr K).at p_script, rN.at p_k, (rL rN).at p_sizes, rN.at s32.1, rB.at (decide ((2 * (10 ^ 18)) ≤ ((2 * (Int.natAbs x17)) + (decide (x21 < ((0 : Nat) : Int))).toNat))), sRef c24, rN.at x33, sAny]) hE43 rfl rfl fun _ hE45 => ?_
        refine x_seq ?_
        refine x_asg ?_
        refine w_vN hE45 (i := 3) rfl ?_
        refine w_name (R := rN) (ss' := [(rScr K).at p_script, rN.at p_k, (rL rN).at p_sizes, rN.at s32.1, rB.at (decide ((2 * (10 ^ 18)) ≤ ((2 * (Int.natAbs x17)) + (decide (x21 < ((0 : Nat) : Int))).toNat))), sRef c24, rN.at x33, rN.at s32.1]) hE45 rfl rfl fun _ hE46 => ?_
        obtain ⟨x50, hx50, hb39⟩ := bnd hb39
        refine w_cut 0 (fun (s47 : Nat) (ad48 : Nat → Addr) => [(rScr K).at p_script, rN.at p_k, (rL rN).at p_sizes, rN.at s32.1, rB.at (decide ((2 * (10 ^ 18)) ≤ ((2 * (Int.natAbs x17)) + (decide (x21 < ((0 : Nat) : Int))).toNat))), sRef c24, rN.at x33, rN.at s47]) (fun (s47 : Nat) (ad48 : Nat → Addr) => [(c24, cL rN s32.2)]) x50 hE46 ?_ (fun ad48 _ _ _ ha49 s59 hE60 => ?_)
        · refine x_ifs ?_
          refine x_not ?_
          refine x_B ?_
          refine w_vB hE46 (i := 4) rfl ?_
          refine x_bl ?_
          refine x_itb (fun hc51 => ?_) (fun hc51 => ?_)
          · have hx50 := ite_t hx50 hc51
            refine x_seq ?_
            refine x_asg ?_
            refine x_op ?_
            refine x_cb ?_
            refine x_cons ?_
            refine x_op ?_
            refine x_op ?_
            refine x_op ?_
            refine x_op ?_
            refine w_vN hE46 (i := 3) rfl ?_
            refine w_cN 3 ?_
            refine w_addN ?_
            refine x_op ?_
            refine x_op ?_
            refine w_cN 2 ?_
            refine w_vN hE46 (i := 6) rfl ?_
            obtain ⟨_, u52, hx50⟩ := bnd hx50
            have u52 := gd_ok u52
            refine w_mulN u52 ?_
            refine w_cN 1000003 ?_
            refine w_addN ?_
            obtain ⟨_, u53, hx50⟩ := bnd hx50
            have u53 := gd_ok u53
            refine w_mulN u53 ?_
            refine w_cN 6364136223846793005 ?_
            obtain ⟨_, u54, hx50⟩ := bnd hx50
            have u54 := gd_ok u54
            refine w_mulN u54 ?_
            refine x_op ?_
            refine w_vN hE46 (i := 6) rfl ?_
            refine w_vN hE46 (i := 6) rfl ?_
            obtain ⟨_, u55, hx50⟩ := bnd hx50
            have u55 := gd_ok u55
            refine w_mulN u55 ?_
            refine w_addN ?_
            refine x_nil ?_
            refine x_int_i ?_
            refine w_cN 18446744073709551557 ?_
            refine w_modN (by decide) ?_
            refine w_name (R := rN) (ss' := [(rScr K).at p_script, rN.at p_k, (rL rN).at p_sizes, rN.at s32.1, rB.at (decide ((2 * (10 ^ 18)) ≤ ((2 * (Int.natAbs x17)) + (decide (x21 < ((0 : Nat) : Int))).toNat))), sRef c24, rN.at x33, rN.at (((((s32.1 + 3) * ((2 * x33) + 1000003)) * 6364136223846793005) + (x33 * x33)) % 18446744073709551557)]) hE46 rfl rfl fun _ hE56 => ?_
            refine x_asg ?_
            refine x_op ?_
            refine x_op ?_
            refine x_cb ?_
            refine x_cons ?_
            refine x_op ?_
            refine x_op ?_
            refine x_op ?_
            refine w_vN hE56 (i := 7) rfl ?_
            refine w_vN hE56 (i := 7) rfl ?_
            obtain ⟨_, u57, hx50⟩ := bnd hx50
            have u57 := gd_ok u57
            refine w_mulN u57 ?_
            refine w_vN hE56 (i := 3) rfl ?_
            refine w_addN ?_
            refine w_vN hE56 (i := 6) rfl ?_
            refine w_addN ?_
            refine x_nil ?_
            refine x_int_i ?_
            refine w_cN 18446744073709551533 ?_
            refine w_modN (by decide) ?_
            refine w_cN 65536 ?_
            refine w_divN (by decide) ?_
            refine w_name (R := rN) (ss' := [(rScr K).at p_script, rN.at p_k, (rL rN).at p_sizes, rN.at s32.1, rB.at (decide ((2 * (10 ^ 18)) ≤ ((2 * (Int.natAbs x17)) + (decide (x21 < ((0 : Nat) : Int))).toNat))), sRef c24, rN.at x33, rN.at ((((((((((s32.1 + 3) * ((2 * x33) + 1000003)) * 6364136223846793005) + (x33 * x33)) % 18446744073709551557) * (((((s32.1 + 3) * ((2 * x33) + 1000003)) * 6364136223846793005) + (x33 * x33)) % 18446744073709551557)) + s32.1) + x33) % 18446744073709551533) / 65536)]) hE56 rfl rfl fun _ hE58 => ?_
            have hx50 := Option.some.inj hx50
            subst hx50
            exact ⟨adZ, _, no_ad, (Same.refl _), hE58⟩
          · have hx50 := ite_f hx50 hc51
            refine x_next ?_
            have hx50 := Option.some.inj hx50
            subst hx50
            exact ⟨adZ, _, no_ad, (Same.refl _), hE46⟩
        have hE61 : Wst ⟨[], TL⟩ _ _ [(rScr K).at p_script, rN.at p_k, (rL rN).at p_sizes, rN.at s32.1, rB.at (decide ((2 * (10 ^ 18)) ≤ ((2 * (Int.natAbs x17)) + (decide (x21 < ((0 : Nat) : Int))).toNat))), sRef c24, rN.at x33, rN.at x50] [(c24, cL rN s32.2)] _ _ _ := hE60
        refine x_seq ?_
        refine x_drop ?_
        refine x_bm ?_
        refine w_ref hE61 (i := 5) rfl ?_
        refine w_tyC hE61 (k := 0) rfl ?_
        refine x_cons ?_
        refine x_op ?_
        refine x_cb ?_
        refine x_cons ?_
        refine w_vN hE61 (i := 7) rfl ?_
        refine x_nil ?_
        refine x_int_i ?_
        refine x_op ?_
        refine w_var hE61 (i := 2) rfl fun v62 r63 => ?_
        refine w_vN hE61 (i := 6) rfl ?_
        obtain ⟨x64, hx64, hb39⟩ := bnd hb39
        refine w_ix (lv_f hE61.fh r63) hx64 fun v65 r66 => ?_
        obtain rfl := (show v65 = (V.int ((x64 : Nat) : Int)) from r66)
        obtain ⟨_, u67, hb39⟩ := bnd hb39
        have u67 := gd_ok u67
        refine w_modN u67 ?_
        refine x_nil ?_
        obtain ⟨_, u68, hb39⟩ := bnd hb39
        have u68 := gd_ok u68
        refine w_app hE61 (k := 0) (a := (x50 % x64)) rfl u68 rfl (cs' := [(c24, cL rN (s32.2 ++ [(x50 % x64)]))]) rfl fun _ hE69 => ?_
        refine x_ifs ?_
        refine x_B ?_
        refine w_vB hE69 (i := 4) rfl ?_
        refine x_bl ?_
        refine x_itb (fun hc70 => ?_) (fun hc70 => ?_)
        · have hb39 := ite_t hb39 hc70
          refine x_asg ?_
          refine x_op ?_
          refine x_cb ?_
          refine x_cons ?_
          refine w_vN hE69 (i := 3) rfl ?_
          refine x_nil ?_
          refine x_int_i ?_
          refine x_op ?_
          refine w_var hE69 (i := 2) rfl fun v71 r72 => ?_
          refine w_vN hE69 (i := 6) rfl ?_
          obtain ⟨x73, hx73, hb39⟩ := bnd hb39
          refine w_ix (lv_f hE69.fh r72) hx73 fun v74 r75 => ?_
          obtain rfl := (show v74 = (V.int ((x73 : Nat) : Int)) from r75)
          obtain ⟨_, u76, hb39⟩ := bnd hb39
          have u76 := gd_ok u76
          refine w_divN u76 ?_
          refine w_name (R := rN) (ss' := [(rScr K).at p_script, rN.at p_k, (rL rN).at p_sizes, rN.at (s32.1 / x73), rB.at (decide ((2 * (10 ^ 18)) ≤ ((2 * (Int.natAbs x17)) + (decide (x21 < ((0 : Nat) : Int))).toNat))), sRef c24, rN.at x33, rN.at x50]) hE69 rfl rfl fun _ hE77 => ?_
          have hb39 := Option.some.inj hb39
          subst hb39
          exact ⟨adZ, _, no_ad, (s36.trans s59), ((hE77.toAny 6).toAny 7)⟩
        · have hb39 := ite_f hb39 hc70
          refine x_next ?_
          have hb39 := Option.some.inj hb39
          subst hb39
          exact ⟨adZ, _, no_ad, (s36.trans s59), ((hE69.toAny 6).toAny 7)⟩
      have hE81 : Wst ⟨[], TL⟩ _ _ [(rScr K).at p_script, rN.at p_k, (rL rN).at p_sizes, rN.at x44.1, rB.at (decide ((2 * (10 ^ 18)) ≤ ((2 * (Int.natAbs x17)) + (decide (x21 < ((0 : Nat) : Int))).toNat))), sRef c24, sAny, sAny] [(c24, cL rN x44.2)] _ _ _ := hE80
      refine x_ret ?_
      refine w_ref hE81 (i := 5) rfl ?_
      have hf := Option.some.inj hf
      subst hf
      exact q _ _ _ hE81.ex o25 (hE81.apart (k := 0) rfl) (hE81.cell (k := 0) rfl)
end
abbrev s_l_ties : Stmt := topS 30
theorem sc_l_ties : FnScope ["many", "kind", "marks", "ties", "v", "u", "ring"] ["many", "kind", "marks"] (defScope s_l_ties) := ⟨rfl, rfl, rfl, by decide +kernel, rfl, by decide +kernel, by decide +kernel⟩
def f_l_ties (p_many : Nat) (p_kind : Nat) (p_marks : (List Nat)) : Option ((List (Nat × Nat))) :=
  (gd (p_many < 2 ^ 62)).bind fun _ =>
  (foldO (fun (s7 : (List (Nat × Nat))) (x8 : Nat) =>
    (gd (x8 < 2 ^ 62)).bind fun _ =>
    (foldO (fun (s22 : (List (Nat × Nat))) (x23 : Nat) =>
      (if (decide (x8 = (x23 + 1))) = true then some true else (
          (if (decide (x23 = 0)) = true then (
              (gd (1 ≤ p_many)).bind fun _ =>
              some (decide (x8 = (p_many - 1)))
            ) else some false).bind fun b45 =>
          some b45
        )).bind fun b49 =>
      (gd (1 ≤ x8)).bind fun _ =>
      (gd (x8 < 2 ^ 64 ∨ (x8 - 1) < 2 ^ 64)).bind fun _ =>
      (p_marks[(((x8 * (x8 - 1)) / 2) + x23)]?).bind fun x56 =>
      (gd (5 < 2 ^ 64 ∨ b49.toNat < 2 ^ 64)).bind fun _ =>
      ([3, 1, 5, (1 + (5 * b49.toNat))][p_kind]?).bind fun x64 =>
      if (decide (x56 < x64)) = true then
        (gd (s22.length < 100000)).bind fun _ =>
        some (s22 ++ [(x23, x8)])
      else
        some s22) (List.range x8) s7).bind fun x34 =>
    some x34) (List.range p_many) ([] : List (Nat × Nat))).bind fun x19 =>
  some x19
def q_l_ties (TL : List (Addr × Str)) : Sp := fun vs H Q _ => ∃ (F : Hp) (p_many : Nat) (p_kind : Nat) (v_marks : V) (p_marks : (List Nat)) (rr : (List (Nat × Nat))), vs = [(V.int ((p_many : Nat) : Int)), (V.int ((p_kind : Nat) : Int)), v_marks] ∧ Same F H ∧ NoT F ∧ (rL rN).r F v_marks p_marks ∧ f_l_ties p_many p_kind p_marks = some rr ∧ ∀ D F' H', Ext ⟨[], TL⟩ F H F' H' → H D = none → F' D = none → (∃ o, H' D = some o ∧ (cL (rT2 rN rN) rr).p F' o) → Q (.ref D) H'
section
variable {P : Program} {w : World} {K : PySem.W.Frag} {mg : Str → Option Value} {base : Heap}
theorem t_l_ties (T : Tx mg) (F : DefAt K mg "_law_ties" s_l_ties ["many", "kind", "marks"]) : Cal P w K mg base CX0 1 "_law_ties" (q_l_ties TL) := by
  refine F.cal sc_l_ties (fun vs H Q E h => ?_) (fun f cdv A outer s H vs Q E hr h => ?_)
  · obtain ⟨_, _, _, _, _, _, rfl, _⟩ := h
    rfl
  · obtain ⟨F, p_many, p_kind, v_marks, p_marks, rr, rfl, sm0, nt0, r_marks, hf, q⟩ := h
    have hf : _ = some rr := hf
    unfold f_l_ties at hf
    refine ⟨_, (pss_cons (ps_set (i := 3) sc_l_ties.nd rfl (Or.inl rfl) (pe_lst pa_nil))
      (pss_cons (ps_for PassesOwn.never rfl (pi_range1 rfl T.z_range (pa_cons (pv 0) pa_nil)) (pg_name (i := 4) sc_l_ties.nd rfl (Or.inl rfl))
        (pss_one (ps_for PassesOwn.never rfl (pi_range1 rfl T.z_range (pa_cons (pv 4) pa_nil)) (pg_name (i := 5) sc_l_ties.nd rfl (Or.inl rfl))
        (pss_cons (ps_set (i := 6) sc_l_ties.nd rfl (Or.inl rfl) (pe_callTy cl_int (by rfl) T.z_int (by decide +kernel) (pa_cons (pe_or (pe_cmpR op_eq (pv 4) (pe_op op_add (pv 5) pe_int) (nomark _)) (pe_one (pe_and (pe_cmpR op_eq (pv 5) pe_int (nomark _)) (pe_one (pe_cmpR op_eq (pv 4) (pe_op op_sub (pv 0) pe_int) (nomark _)))))) pa_nil)))
      (pss_one (ps_if (pt_cmpR op_lt (pe_ix (ix_l K) (pv 2) (pe_op op_add (pe_op op_fdiv (pe_op op_mul (pv 4) (pe_op op_sub (pv 4) pe_int)) pe_int) (pv 5)) (fun _ _ => rfl)) (pe_ix (ix_l K) (pe_lst (pa_cons pe_int (pa_cons pe_int (pa_cons pe_int (pa_cons (pe_op op_add pe_int (pe_op op_mul pe_int (pv 6))) pa_nil))))) (pv 1) (fun _ _ => rfl)) (nomark _))
        (pss_one (ps_expr (k_bm K PySem.F.plainAttrs_list PySem.F.slot_list_append PySem.F.type_list_append mt_append (pv 3) (pa_cons (pe_tup (pa_cons (pv 5) (pa_cons (pv 4) pa_nil))) pa_nil)))) pss_nil))))))
      (pss_one (ps_ret (pv 3))))), ?_⟩
    have hE0 : Wst ⟨[], TL⟩ F H [rN.at p_many, rN.at p_kind, (rL rN).at p_marks, sAny, sAny, sAny, sAny] [] (start ["many", "kind", "marks", "ties", "v", "u", "ring"] [(V.int ((p_many : Nat) : Int)), (V.int ((p_kind : Nat) : Int)), v_marks]) F H := Wst.start (vs := [(V.int ((p_many : Nat) : Int)), (V.int ((p_kind : Nat) : Int)), v_marks]) (n := 4) (ss := [rN.at p_many, rN.at p_kind, (rL rN).at p_marks]) (cs := []) sm0 nt0 (fun p hp => by cases hp) List.nodup_nil (.cons ⟨_, rfl, rfl⟩ (.cons ⟨_, rfl, rfl⟩ (.cons ⟨_, rfl, r_marks⟩ .nil)))
    revert hE0
    generalize start ["many", "kind", "marks", "ties", "v", "u", "ring"] [(V.int ((p_many : Nat) : Int)), (V.int ((p_kind : Nat) : Int)), v_marks] = σ0
    intro hE0
    refine x_seq ?_
    refine x_asg ?_
    refine m_lst ?_
    refine x_nil ?_
    refine w_lstC hE0 (R := (rT2 rN rN)) (l := ([] : List (Nat × Nat))) (by show 0 ≤ 100000; decide) .nil fun c1 _ o2 hE3 => ?_
    have hE4 : Wst ⟨[], TL⟩ _ _ [rN.at p_many, rN.at p_kind, (rL rN).at p_marks, sAny, sAny, sAny, sAny] [(c1, cL (rT2 rN rN) ([] : List (Nat × Nat)))] _ _ _ := hE3
    refine w_nameC (ss' := [rN.at p_many, rN.at p_kind, (rL rN).at p_marks, sRef c1, sAny, sAny, sAny]) hE4 rfl fun _ hE5 => ?_
    refine x_seq ?_
    refine x_for ?_
    refine x_rg1 ?_
    refine x_cons ?_
    refine w_vN hE5 (i := 0) rfl ?_
    refine x_nil ?_
    obtain ⟨_, u6, hf⟩ := bnd hf
    have u6 := gd_ok u6
    refine w_r1 u6 ?_
    have hE17 : Wst ⟨[], TL⟩ _ _ [rN.at p_many, rN.at p_kind, (rL rN).at p_marks, sRef c1, sAny, sAny, sAny] [(c1, cL (rT2 rN rN) ([] : List (Nat × Nat)))] _ _ _ := hE5
    obtain ⟨x19, hx19, hf⟩ := bnd hf
    refine w_for 0 (fun (s7 : (List (Nat × Nat))) (ad15 : Nat → Addr) => [rN.at p_many, rN.at p_kind, (rL rN).at p_marks, sRef c1, sAny, sAny, sAny]) (fun (s7 : (List (Nat × Nat))) (ad15 : Nat → Addr) => [(c1, cL (rT2 rN rN) s7)]) hx19 adZ no_ad hE17 (fun _ ad15 _ _ _ sm w78 => jok_r0 w78.fh w78.nt) (fun s7 ad15 x8 v9 o10 _ _ _ ha16 s11 r12 hE13 hb14 => ?_) (fun ad15 _ _ _ ha16 s79 hE80 => ?_)
    · have hE18 : Wst ⟨[], TL⟩ _ _ [rN.at p_many, rN.at p_kind, (rL rN).at p_marks, sRef c1, sAny, sAny, sAny] [(c1, cL (rT2 rN rN) s7)] _ _ _ := hE13
      obtain rfl := (show v9 = (V.int ((x8 : Nat) : Int)) from r12)
      refine w_name (R := rN) (ss' := [rN.at p_many, rN.at p_kind, (rL rN).at p_marks, sRef c1, rN.at x8, sAny, sAny]) hE18 rfl rfl fun _ hE20 => ?_
      refine x_for ?_
      refine x_rg1 ?_
      refine x_cons ?_
      refine w_vN hE20 (i := 4) rfl ?_
      refine x_nil ?_
      obtain ⟨_, u21, hb14⟩ := bnd hb14
      have u21 := gd_ok u21
      refine w_r1 u21 ?_
      have hE32 : Wst ⟨[], TL⟩ _ _ [rN.at p_many, rN.at p_kind, (rL rN).at p_marks, sRef c1, rN.at x8, sAny, sAny] [(c1, cL (rT2 rN rN) s7)] _ _ _ := hE20
      obtain ⟨x34, hx34, hb14⟩ := bnd hb14
      refine w_for 0 (fun (s22 : (List (Nat × Nat))) (ad30 : Nat → Addr) => [rN.at p_many, rN.at p_kind, (rL rN).at p_marks, sRef c1, rN.at x8, sAny, sAny]) (fun (s22 : (List (Nat × Nat))) (ad30 : Nat → Addr) => [(c1, cL (rT2 rN rN) s22)]) hx34 adZ no_ad hE32 (fun _ ad30 _ _ _ sm w74 => jok_r0 w74.fh w74.nt) (fun s22 ad30 x23 v24 o25 _ _ _ ha31 s26 r27 hE28 hb29 => ?_) (fun ad30 _ _ _ ha31 s75 hE76 => ?_)
      · have hE33 : Wst ⟨[], TL⟩ _ _ [rN.at p_many, rN.at p_kind, (rL rN).at p_marks, sRef c1, rN.at x8, sAny, sAny] [(c1, cL (rT2 rN rN) s22)] _ _ _ := hE28
        obtain rfl := (show v24 = (V.int ((x23 : Nat) : Int)) from r27)
        refine w_name (R := rN) (ss' := [rN.at p_many, rN.at p_kind, (rL rN).at p_marks, sRef c1, rN.at x8, rN.at x23, sAny]) hE33 rfl rfl fun _ hE35 => ?_
        refine x_seq ?_
        refine x_asg ?_
        refine x_cb ?_
        refine x_cons ?_
        obtain ⟨b49, h50, hb29⟩ := bnd hb29
        refine w_orVO (cs := [(c1, cL (rT2 rN rN) s22)]) hE35 (ca := (decide (x8 = (x23 + 1)))) h50 (fun _ q0 => ?_) (fun _ _ s38 hE37 _ hkk36 _ q0 => ?_) (fun _ _ s47 hE48 => ?_)
        · refine x_op ?_
          refine w_vN hE35 (i := 4) rfl ?_
          refine x_op ?_
          refine w_vN hE35 (i := 5) rfl ?_
          refine w_cN 1 ?_
          refine w_addN ?_
          refine w_eqN ?_
          exact q0 _ _ (Same.refl _) hE35
        · obtain ⟨b45, h46, hkk36⟩ := bnd hkk36
          refine w_andVO (cs := [(c1, cL (rT2 rN rN) s22)]) hE37 (ca := (decide (x23 = 0))) h46 (fun _ q0 => ?_) (fun _ _ s41 hE40 _ hkk39 _ q0 => ?_) (fun _ _ s43 hE44 => ?_)
          · refine x_op ?_
            refine w_vN hE37 (i := 5) rfl ?_
            refine w_cN 0 ?_
            refine w_eqN ?_
            exact q0 _ _ (Same.refl _) hE37
          · refine x_op ?_
            refine w_vN hE40 (i := 4) rfl ?_
            refine x_op ?_
            refine w_vN hE40 (i := 0) rfl ?_
            refine w_cN 1 ?_
            obtain ⟨_, u42, hkk39⟩ := bnd hkk39
            have u42 := gd_ok u42
            refine w_subN u42 ?_
            refine w_eqN ?_
            have hkk39 := Option.some.inj hkk39
            subst hkk39
            exact q0 _ _ (Same.refl _) hE40
          have hkk36 := Option.some.inj hkk36
          subst hkk36
          exact q0 _ _ ((Same.refl _).trans s43) hE44
        refine x_nil ?_
        refine w_intB ?_
        refine w_name (R := rN) (ss' := [rN.at p_many, rN.at p_kind, (rL rN).at p_marks, sRef c1, rN.at x8, rN.at x23, rN.at b49.toNat]) hE48 rfl rfl fun _ hE51 => ?_
        refine x_ifs ?_
        refine x_test ?_
        refine x_op ?_
        refine x_op ?_
        refine w_var hE51 (i := 2) rfl fun v52 r53 => ?_
        refine x_op ?_
        refine x_op ?_
        refine x_op ?_
        refine w_vN hE51 (i := 4) rfl ?_
        refine x_op ?_
        refine w_vN hE51 (i := 4) rfl ?_
        refine w_cN 1 ?_
        obtain ⟨_, u54, hb29⟩ := bnd hb29
        have u54 := gd_ok u54
        refine w_subN u54 ?_
        obtain ⟨_, u55, hb29⟩ := bnd hb29
        have u55 := gd_ok u55
        refine w_mulN u55 ?_
        refine w_cN 2 ?_
        refine w_divN (by decide) ?_
        refine w_vN hE51 (i := 5) rfl ?_
        refine w_addN ?_
        obtain ⟨x56, hx56, hb29⟩ := bnd hb29
        refine w_ix (lv_f hE51.fh r53) hx56 fun v57 r58 => ?_
        obtain rfl := (show v57 = (V.int ((x56 : Nat) : Int)) from r58)
        refine x_op ?_
        refine m_lst ?_
        refine x_cons ?_
        refine w_cN 3 ?_
        refine x_cons ?_
        refine w_cN 1 ?_
        refine x_cons ?_
        refine w_cN 5 ?_
        refine x_cons ?_
        refine x_op ?_
        refine w_cN 1 ?_
        refine x_op ?_
        refine w_cN 5 ?_
        refine w_vN hE51 (i := 6) rfl ?_
        obtain ⟨_, u59, hb29⟩ := bnd hb29
        have u59 := gd_ok u59
        refine w_mulN u59 ?_
        refine w_addN ?_
        refine x_nil ?_
        refine w_lstF hE51 (R := rN) (l := [3, 1, 5, (1 + (5 * b49.toNat))]) (by show 4 ≤ 100000; decide) (.cons rfl (.cons rfl (.cons rfl (.cons rfl .nil)))) fun v60 _ _ s61 hE63 r62 => ?_
        refine w_vN hE63 (i := 1) rfl ?_
        obtain ⟨x64, hx64, hb29⟩ := bnd hb29
        refine w_ix (lv_f hE63.fh r62) hx64 fun v65 r66 => ?_
        obtain rfl := (show v65 = (V.int ((x64 : Nat) : Int)) from r66)
        refine w_ltN ?_
        refine x_bl ?_
        refine x_itb (fun hc67 => ?_) (fun hc67 => ?_)
        · have hb29 := ite_t hb29 hc67
          refine x_drop ?_
          refine x_bm ?_
          refine w_ref hE63 (i := 3) rfl ?_
          refine w_tyC hE63 (k := 0) rfl ?_
          refine x_cons ?_
          refine m_tup ?_
          refine x_cons ?_
          refine w_vN hE63 (i := 5) rfl ?_
          refine x_cons ?_
          refine w_vN hE63 (i := 4) rfl ?_
          refine x_nil ?_
          refine w_tup2 (R := rN) (S := rN) hE63 rfl rfl fun v68 _ _ s69 hE71 r70 => ?_
          refine x_nil ?_
          obtain ⟨_, u72, hb29⟩ := bnd hb29
          have u72 := gd_ok u72
          refine w_app hE71 (k := 0) (a := (x23, x8)) rfl u72 r70 (cs' := [(c1, cL (rT2 rN rN) (s22 ++ [(x23, x8)]))]) rfl fun _ hE73 => ?_
          have hb29 := Option.some.inj hb29
          subst hb29
          exact ⟨adZ, _, no_ad, (((s26.trans s47).trans s61).trans s69), ((hE73.toAny 5).toAny 6)⟩
        · have hb29 := ite_f hb29 hc67
          refine x_next ?_
          have hb29 := Option.some.inj hb29
          subst hb29
          exact ⟨adZ, _, no_ad, ((s26.trans s47).trans s61), ((hE63.toAny 5).toAny 6)⟩
      have hE77 : Wst ⟨[], TL⟩ _ _ [rN.at p_many, rN.at p_kind, (rL rN).at p_marks, sRef c1, rN.at x8, sAny, sAny] [(c1, cL (rT2 rN rN) x34)] _ _ _ := hE76
      have hb14 := Option.some.inj hb14
      subst hb14
      exact ⟨adZ, _, no_ad, (s11.trans s75), (hE77.toAny 4)⟩
    have hE81 : Wst ⟨[], TL⟩ _ _ [rN.at p_many, rN.at p_kind, (rL rN).at p_marks, sRef c1, sAny, sAny, sAny] [(c1, cL (rT2 rN rN) x19)] _ _ _ := hE80
    refine x_ret ?_
    refine w_ref hE81 (i := 3) rfl ?_
    have hf := Option.some.inj hf
    subst hf
    exact q _ _ _ hE81.ex o2 (hE81.apart (k := 0) rfl) (hE81.cell (k := 0) rfl)
end
abbrev s_is_length : Stmt := topS 12
theorem sc_is_length : FnScope ["value"] ["value"] (defScope s_is_length) := ⟨rfl, rfl, rfl, by decide +kernel, rfl, by decide +kernel, by decide +kernel⟩
def f_is_length (p_value : Nat) : Option (Bool) :=
  some (true && (decide (1 ≤ p_value)))
def q_is_length (TL : List (Addr × Str)) : Sp := fun vs H Q _ => ∃ (F : Hp) (p_value : Nat) (rr : Bool), vs = [(V.int ((p_value : Nat) : Int))] ∧ Same F H ∧ NoT F ∧ f_is_length p_value = some rr ∧ ∀ v F' H', Ext ⟨[], TL⟩ F H F' H' → rB.r F' v rr → Q v H'
section
variable {P : Program} {w : World} {K : PySem.W.Frag} {mg : Str → Option Value} {base : Heap}
theorem t_is_length (T : Tx mg) (F : DefAt K mg "is_length" s_is_length ["value"]) (c_is_integer : Cal P w K mg base CX0 1 "is_integer" (spIsInt K)) : Cal P w K mg base CX0 2 "is_length" (q_is_length TL) := by
  refine F.cal sc_is_length (fun vs H Q E h => ?_) (fun f cdv A outer s H vs Q E hr h => ?_)
  · obtain ⟨_, _, _, rfl, _⟩ := h
    rfl
  · obtain ⟨F, p_value, rr, rfl, sm0, nt0, hf, q⟩ := h
    have hf : _ = some rr := hf
    unfold f_is_length at hf
    refine ⟨_, (pss_one (ps_ret (pe_and (pe_cal c_is_integer hr (by decide) rfl pass0 (pa_cons (pv 0) pa_nil)) (pe_one (pe_cmpR op_ge (pv 0) pe_int (nomark _)))))), ?_⟩
    have hE0 : Wst ⟨[], TL⟩ F H [rN.at p_value] [] (start ["value"] [(V.int ((p_value : Nat) : Int))]) F H := Wst.start (vs := [(V.int ((p_value : Nat) : Int))]) (n := 0) (ss := [rN.at p_value]) (cs := []) sm0 nt0 (fun p hp => by cases hp) List.nodup_nil (.cons ⟨_, rfl, rfl⟩ .nil)
    revert hE0
    generalize start ["value"] [(V.int ((p_value : Nat) : Int))] = σ0
    intro hE0
    refine x_ret ?_
    refine w_andVP (cs := []) hE0 (ca := true) (cb := (decide (1 ≤ p_value))) (fun _ q0 => ?_) (fun _ _ s3 hE2 _ _ q0 => ?_) (fun _ _ s4 hE5 => ?_)
    · refine x_call ?_
      refine x_cons ?_
      refine w_vN hE0 (i := 0) rfl ?_
      refine x_nil ?_
      refine is_spInt (k := "int") (b := true) (knd_int _) rfl ?_
      exact q0 _ _ (Same.refl _) hE0
    · refine x_op ?_
      refine w_vN hE2 (i := 0) rfl ?_
      refine w_cN 1 ?_
      refine w_geN ?_
      exact q0 _ _ (Same.refl _) hE2
    have hf := Option.some.inj hf
    subst hf
    exact q _ _ _ hE5.ex rfl
end
abbrev s_check_lengths : Stmt := topS 13
theorem sc_check_lengths : FnScope ["web", "lengths", "length"] ["web", "lengths"] (defScope s_check_lengths) := ⟨rfl, rfl, rfl, by decide +kernel, rfl, by decide +kernel, by decide +kernel⟩
def f_check_lengths (p_web : Wb) (p_lengths : (List Nat)) : Option (Unit) :=
  (if false = true then some true else (
      (gd (p_web.length < 2 ^ 62)).bind fun _ =>
      some (!decide (p_lengths.length = p_web.length))
    )).bind fun b15 =>
  if b15 = true then
    none
  else
    (foldO (fun (s21 : Unit) (x22 : Nat) =>
      (f_is_length x22).bind fun x35 =>
      if (!x35) = true then
        none
      else
        some ()) p_lengths ()).bind fun x33 =>
    some ()
def q_check_lengths (TL : List (Addr × Str)) (C_Web : Addr) : Sp := fun vs H Q _ => ∃ (F : Hp) (v_web : V) (p_web : Wb) (v_lengths : V) (p_lengths : (List Nat)) (rr : Unit), vs = [v_web, v_lengths] ∧ Same F H ∧ NoT F ∧ (rWb C_Web).r F v_web p_web ∧ (rL rN).r F v_lengths p_lengths ∧ f_check_lengths p_web p_lengths = some rr ∧ ∀ v F' H', Ext ⟨[], TL⟩ F H F' H' → rNo.r F' v rr → Q v H'
section
variable {P : Program} {w : World} {K : PySem.W.Frag} {mg : Str → Option Value} {base : Heap}
theorem t_check_lengths {C_Web : Addr} (T : Tx mg) (O_Web : Own K mg "Web" C_Web) (F : DefAt K mg "check_lengths" s_check_lengths ["web", "lengths"]) (o_WebD_lenD : Met P w K mg base CX0 1 C_Web "__len__" (q_WebD_lenD TL C_Web)) (c_is_length : Cal P w K mg base CX0 2 "is_length" (q_is_length TL)) : Cal P w K mg base CX0 3 "check_lengths" (q_check_lengths TL C_Web) := by
  refine F.cal sc_check_lengths (fun vs H Q E h => ?_) (fun f cdv A outer s H vs Q E hr h => ?_)
  · obtain ⟨_, _, _, _, _, _, rfl, _⟩ := h
    rfl
  · obtain ⟨F, v_web, p_web, v_lengths, p_lengths, rr, rfl, sm0, nt0, r_web, r_lengths, hf, q⟩ := h
    have hf : _ = some rr := hf
    unfold f_check_lengths at hf
    refine ⟨_, (pss_cons (ps_if (PW.pt (pw_or (pt_not (pt_val (pe_callB (cl_isi K) (by rfl) T.z_isinstance (by decide +kernel) (pa_cons (pv 1) (pa_cons (pe_bltn (v := .ty "list") (by rfl) T.z_list (by decide +kernel) rfl) pa_nil))))) (pw_or1 (pt_cmpR op_ne (pe_callB (cl_len K) (by rfl) T.z_len PySem.boot_len (pa_cons (pv 1) pa_nil)) (pe_callB (call_lenO o_WebD_lenD hr (by decide) pass0) (by rfl) T.z_len PySem.boot_len (pa_cons (pv 0) pa_nil)) (nomark _)))))
        (pss_one ps_never) pss_nil)
      (pss_one (ps_for PassesOwn.never rfl (k_pil K (pv 1)) (pg_name (i := 2) sc_check_lengths.nd rfl (Or.inl rfl))
        (pss_one (ps_if (pt_not (pt_val (pe_cal c_is_length hr (by decide) rfl pass0 (pa_cons (pv 2) pa_nil))))
        (pss_one ps_never) pss_nil))))), ?_⟩
    have hE0 : Wst ⟨[], TL⟩ F H [(rWb C_Web).at p_web, (rL rN).at p_lengths, sAny] [] (start ["web", "lengths", "length"] [v_web, v_lengths]) F H := Wst.start (vs := [v_web, v_lengths]) (n := 1) (ss := [(rWb C_Web).at p_web, (rL rN).at p_lengths]) (cs := []) sm0 nt0 (fun p hp => by cases hp) List.nodup_nil (.cons ⟨_, rfl, r_web⟩ (.cons ⟨_, rfl, r_lengths⟩ .nil))
    revert hE0
    generalize start ["web", "lengths", "length"] [v_web, v_lengths] = σ0
    intro hE0
    refine x_seq ?_
    refine x_ifs ?_
    obtain ⟨b15, h16, hf⟩ := bnd hf
    refine w_orO (cs := []) hE0 (ca := false) h16 (fun _ q0 => ?_) (fun _ _ s5 hE4 _ hkk3 _ q0 => ?_) (fun _ _ s13 hE14 => ?_)
    · refine x_not ?_
      refine x_B ?_
      refine x_cb ?_
      refine x_cons ?_
      refine w_var hE0 (i := 1) rfl fun v1 r2 => ?_
      refine x_cons ?_
      refine x_c ?_
      refine x_nil ?_
      refine y_isList (b := true) (kn_l (lv_f hE0.fh r2)) (by decide) ?_
      refine x_bl ?_
      exact q0 _ _ (Same.refl _) hE0
    · refine x_test ?_
      refine x_op ?_
      refine x_cb ?_
      refine x_cons ?_
      refine w_var hE4 (i := 1) rfl fun v6 r7 => ?_
      refine x_nil ?_
      refine w_len (lv_f hE4.fh r7) ?_
      refine x_cb ?_
      refine x_cons ?_
      refine w_var hE4 (i := 0) rfl fun v8 r9 => ?_
      refine x_nil ?_
      obtain ⟨_, u12, hkk3⟩ := bnd hkk3
      have u12 := gd_ok u12
      refine w_lenWeb hE4 r9 u12 fun _ _ s10 hE11 => ?_
      refine w_neN ?_
      refine x_bl ?_
      have hkk3 := Option.some.inj hkk3
      subst hkk3
      exact q0 _ _ ((Same.refl _).trans s10) hE11
    refine x_itb (fun hc17 => ?_) (fun hc17 => ?_)
    · have hf := ite_t hf hc17
      cases hf
    · have hf := ite_f hf hc17
      refine x_next ?_
      refine x_for ?_
      refine x_il ?_
      refine w_var hE14 (i := 1) rfl fun v18 r19 => ?_
      refine w_il (lv_f hE14.fh r19) fun a20 ea => ?_
      cases ea
      have hE31 : Wst ⟨[], TL⟩ _ _ [(rWb C_Web).at p_web, (rL rN).at p_lengths, sAny] [] _ _ _ := hE14
      obtain ⟨x33, hx33, hf⟩ := bnd hf
      refine w_for 0 (fun (s21 : Unit) (ad29 : Nat → Addr) => [(rWb C_Web).at p_web, (rL rN).at p_lengths, sAny]) (fun (s21 : Unit) (ad29 : Nat → Addr) => []) hx33 adZ no_ad hE31 (fun _ ad29 _ _ _ sm w41 => jok_l w41.fh w41.nt (lv_f w41.fh ((rL rN).mono sm r19))) (fun s21 ad29 x22 v23 o24 _ _ _ ha30 s25 r26 hE27 hb28 => ?_) (fun ad29 _ _ _ ha30 s42 hE43 => ?_)
      · have hE32 : Wst ⟨[], TL⟩ _ _ [(rWb C_Web).at p_web, (rL rN).at p_lengths, sAny] [] _ _ _ := hE27
        obtain rfl := (show v23 = (V.int ((x22 : Nat) : Int)) from r26)
        refine w_name (R := rN) (ss' := [(rWb C_Web).at p_web, (rL rN).at p_lengths, rN.at x22]) hE32 rfl rfl fun _ hE34 => ?_
        refine x_ifs ?_
        refine x_not ?_
        refine x_B ?_
        refine x_call ?_
        refine x_cons ?_
        refine w_vN hE34 (i := 2) rfl ?_
        refine x_nil ?_
        obtain ⟨x35, hx35, hb28⟩ := bnd hb28
        refine ⟨_, x22, x35, rfl, hE34.fh, hE34.nt, hx35, fun v38 _ _ e36 r37 => ?_⟩
        have hE39 : Wst ⟨[], TL⟩ _ _ [(rWb C_Web).at p_web, (rL rN).at p_lengths, rN.at x22] [] _ _ _ := hE34.grow e36
        obtain rfl := (show v38 = (V.bl x35) from r37)
        refine x_bl ?_
        refine x_itb (fun hc40 => ?_) (fun hc40 => ?_)
        · have hb28 := ite_t hb28 hc40
          cases hb28
        · have hb28 := ite_f hb28 hc40
          refine x_next ?_
          have hb28 := Option.some.inj hb28
          subst hb28
          exact ⟨adZ, _, no_ad, (s25.trans e36.ff), (hE39.toAny 2)⟩
      have hE44 : Wst ⟨[], TL⟩ _ _ [(rWb C_Web).at p_web, (rL rN).at p_lengths, sAny] [] _ _ _ := hE43
      have hf := Option.some.inj hf
      subst hf
      exact q _ _ _ hE44.ex rfl
end
abbrev s_Web_is_place : Stmt := inClass (topS 10) 4
theorem sc_Web_is_place : FnScope ["self", "value"] ["self", "value"] (defScope s_Web_is_place) := ⟨rfl, rfl, rfl, by decide +kernel, rfl, by decide +kernel, by decide +kernel⟩
def f_Web_is_place (p_self : Wb) (p_value : Nat) : Option (Bool) :=
  some (true && ((decide (0 ≤ p_value)) && (decide (p_value < p_self.length))))
def q_Web_is_place (TL : List (Addr × Str)) (C_Web : Addr) : Sp := fun vs H Q _ => ∃ (F : Hp) (v_self : V) (p_self : Wb) (p_value : Nat) (rr : Bool), vs = [v_self, (V.int ((p_value : Nat) : Int))] ∧ Same F H ∧ NoT F ∧ (rWb C_Web).r F v_self p_self ∧ f_Web_is_place p_self p_value = some rr ∧ ∀ v F' H', Ext ⟨[], TL⟩ F H F' H' → rB.r F' v rr → Q v H'
section
variable {P : Program} {w : World} {K : PySem.W.Frag} {mg : Str → Option Value} {base : Heap}
theorem t_Web_is_place {C_Web : Addr} (T : Tx mg) (O_Web : Own K mg "Web" C_Web) (nB_Web : NoAttr K C_Web "beside") (F : MetAt K C_Web "is_place" "Web.is_place" s_Web_is_place ["self", "value"]) (c_is_integer : Cal P w K mg base CX0 1 "is_integer" (spIsInt K)) : Met P w K mg base CX0 2 C_Web "is_place" (q_Web_is_place TL C_Web) := by
  refine F.met sc_Web_is_place (fun vs H Q E h => ?_) (fun f cdv A outer s H vs Q E hr h => ?_)
  · obtain ⟨_, _, _, _, _, rfl, _⟩ := h
    rfl
  · obtain ⟨F, v_self, p_self, p_value, rr, rfl, sm0, nt0, r_self, hf, q⟩ := h
    have hf : _ = some rr := hf
    unfold f_Web_is_place at hf
    refine ⟨_, (pss_one (ps_ret (pe_and (pe_cal c_is_integer hr (by decide) rfl pass0 (pa_cons (pv 1) pa_nil)) (pe_and (pe_cmpR op_le pe_int (pv 1) (nomark _)) (pe_one (pe_cmpR op_lt (pv 1) (pe_callB (cl_len K) (by rfl) T.z_len PySem.boot_len (pa_cons (k_fld K (pv 0) rfl) pa_nil)) (nomark _))))))), ?_⟩
    have hE0 : Wst ⟨[], TL⟩ F H [(rWb C_Web).at p_self, rN.at p_value] [] (start ["self", "value"] [v_self, (V.int ((p_value : Nat) : Int))]) F H := Wst.start (vs := [v_self, (V.int ((p_value : Nat) : Int))]) (n := 0) (ss := [(rWb C_Web).at p_self, rN.at p_value]) (cs := []) sm0 nt0 (fun p hp => by cases hp) List.nodup_nil (.cons ⟨_, rfl, r_self⟩ (.cons ⟨_, rfl, rfl⟩ .nil))
    revert hE0
    generalize start ["self", "value"] [v_self, (V.int ((p_value : Nat) : Int))] = σ0
    intro hE0
    refine x_ret ?_
    refine w_andVP (cs := []) hE0 (ca := true) (cb := ((decide (0 ≤ p_value)) && (decide (p_value < p_self.length)))) (fun _ q0 => ?_) (fun _ _ s3 hE2 _ _ q0 => ?_) (fun _ _ s13 hE14 => ?_)
    · refine x_call ?_
      refine x_cons ?_
      refine w_vN hE0 (i := 1) rfl ?_
      refine x_nil ?_
      refine is_spInt (k := "int") (b := true) (knd_int _) rfl ?_
      exact q0 _ _ (Same.refl _) hE0
    · refine w_andVP (cs := []) hE2 (ca := (decide (0 ≤ p_value))) (cb := (decide (p_value < p_self.length))) (fun _ q0 => ?_) (fun _ _ s6 hE5 _ _ q0 => ?_) (fun _ _ s11 hE12 => ?_)
      · refine x_op ?_
        refine w_cN 0 ?_
        refine w_vN hE2 (i := 1) rfl ?_
        refine w_leN ?_
        exact q0 _ _ (Same.refl _) hE2
      · refine x_op ?_
        refine w_vN hE5 (i := 1) rfl ?_
        refine x_cb ?_
        refine x_cons ?_
        refine x_tfld ?_
        refine w_var hE5 (i := 0) rfl fun v7 r8 => ?_
        refine w_fldWeb hE5.fh r8 O_Web.cl nB_Web fun v9 r10 => ?_
        refine x_nil ?_
        refine w_len (lv_f hE5.fh r10) ?_
        refine w_ltN ?_
        exact q0 _ _ (Same.refl _) hE5
      exact q0 _ _ ((Same.refl _).trans s11) hE12
    have hf := Option.some.inj hf
    subst hf
    exact q _ _ _ hE14.ex rfl
end
abbrev s_Web_neighbours : Stmt := inClass (topS 10) 5
theorem sc_Web_neighbours : FnScope ["self", "place"] ["self", "place"] (defScope s_Web_neighbours) := ⟨rfl, rfl, rfl, by decide +kernel, rfl, by decide +kernel, by decide +kernel⟩
def f_Web_neighbours (p_self : Wb) (p_place : Nat) : Option ((List Nat)) :=
  (f_Web_is_place p_self p_place).bind fun x4 =>
  if (!x4) = true then
    none
  else
    (p_self[p_place]?).bind fun x14 =>
    some x14
def q_Web_neighbours (TL : List (Addr × Str)) (C_Web : Addr) : Sp := fun vs H Q _ => ∃ (F : Hp) (v_self : V) (p_self : Wb) (p_place : Nat) (rr : (List Nat)), vs = [v_self, (V.int ((p_place : Nat) : Int))] ∧ Same F H ∧ NoT F ∧ (rWb C_Web).r F v_self p_self ∧ f_Web_neighbours p_self p_place = some rr ∧ ∀ D F' H', Ext ⟨[], TL⟩ F H F' H' → H D = none → F' D = none → (∃ o, H' D = some o ∧ (cL rN rr).p F' o) → Q (.ref D) H'
section
variable {P : Program} {w : World} {K : PySem.W.Frag} {mg : Str → Option Value} {base : Heap}
theorem t_Web_neighbours {C_Web : Addr} (T : Tx mg) (O_Web : Own K mg "Web" C_Web) (nB_Web : NoAttr K C_Web "beside") (F : MetAt K C_Web "neighbours" "Web.neighbours" s_Web_neighbours ["self", "place"]) (m_Web_is_place : Met P w K mg base CX0 2 C_Web "is_place" (q_Web_is_place TL C_Web)) : Met P w K mg base CX0 3 C_Web "neighbours" (q_Web_neighbours TL C_Web) := by
  refine F.met sc_Web_neighbours (fun vs H Q E h => ?_) (fun f cdv A outer s H vs Q E hr h => ?_)
  · obtain ⟨_, _, _, _, _, rfl, _⟩ := h
    rfl
  · obtain ⟨F, v_self, p_self, p_place, rr, rfl, sm0, nt0, r_self, hf, q⟩ := h
    have hf : _ = some rr := hf
    unfold f_Web_neighbours at hf
    refine ⟨_, (pss_cons (ps_if (pt_not (pt_val (pe_mth m_Web_is_place O_Web hr (by decide) pass0 (pv 0) (pa_cons (pv 1) pa_nil))))
        (pss_one ps_never) pss_nil)
      (pss_one (ps_ret (pe_callTy (cl_listOf K) (by rfl) T.z_list (by decide +kernel) (pa_cons (pe_ix (ix_l K) (k_fld K (pv 0) rfl) (pv 1) (fun _ _ => rfl)) pa_nil))))), ?_⟩
    have hE0 : Wst ⟨[], TL⟩ F H [(rWb C_Web).at p_self, rN.at p_place] [] (start ["self", "place"] [v_self, (V.int ((p_place : Nat) : Int))]) F H := Wst.start (vs := [v_self, (V.int ((p_place : Nat) : Int))]) (n := 0) (ss := [(rWb C_Web).at p_self, rN.at p_place]) (cs := []) sm0 nt0 (fun p hp => by cases hp) List.nodup_nil (.cons ⟨_, rfl, r_self⟩ (.cons ⟨_, rfl, rfl⟩ .nil))
    revert hE0
    generalize start ["self", "place"] [v_self, (V.int ((p_place : Nat) : Int))] = σ0
    intro hE0
    refine x_seq ?_
    refine x_ifs ?_
    refine x_not ?_
    refine x_B ?_
    refine x_meth ?_
    refine w_var hE0 (i := 0) rfl fun v1 r2 => ?_
    refine w_insWeb hE0.fh r2 (by decide) fun a3 ea => ?_
    cases ea
    refine x_cons ?_
    refine w_vN hE0 (i := 1) rfl ?_
    refine x_nil ?_
    obtain ⟨x4, hx4, hf⟩ := bnd hf
    refine ⟨_, (V.ref a3), p_self, p_place, x4, rfl, hE0.fh, hE0.nt, r2, hx4, fun v7 _ _ e5 r6 => ?_⟩
    have hE8 : Wst ⟨[], TL⟩ _ _ [(rWb C_Web).at p_self, rN.at p_place] [] _ _ _ := hE0.grow e5
    obtain rfl := (show v7 = (V.bl x4) from r6)
    refine x_bl ?_
    refine x_itb (fun hc9 => ?_) (fun hc9 => ?_)
    · have hf := ite_t hf hc9
      cases hf
    · have hf := ite_f hf hc9
      refine x_next ?_
      refine x_ret ?_
      refine x_cb ?_
      refine x_cons ?_
      refine x_op ?_
      refine x_tfld ?_
      refine w_var hE8 (i := 0) rfl fun v10 r11 => ?_
      refine w_fldWeb hE8.fh r11 O_Web.cl nB_Web fun v12 r13 => ?_
      refine w_vN hE8 (i := 1) rfl ?_
      obtain ⟨x14, hx14, hf⟩ := bnd hf
      refine w_ix (lv_f hE8.fh r13) hx14 fun v15 r16 => ?_
      refine x_nil ?_
      refine w_listC hE8 (lv_f hE8.fh r16) fun c17 _ o18 hE19 => ?_
      have hE20 : Wst ⟨[], TL⟩ _ _ [(rWb C_Web).at p_self, rN.at p_place] [(c17, cL rN x14)] _ _ _ := hE19
      have hf := Option.some.inj hf
      subst hf
      exact q _ _ _ hE20.ex o18 (hE20.apart (k := 0) rfl) (hE20.cell (k := 0) rfl)
end
abbrev s_beside_of : Stmt := topS 23
theorem sc_beside_of : FnScope ["web", "place"] ["web"] (defScope s_beside_of) := ⟨rfl, rfl, rfl, by decide +kernel, rfl, by decide +kernel, by decide +kernel⟩
def f_beside_of (p_web : Wb) : Option ((List (List Nat))) :=
  (gd (p_web.length < 2 ^ 62)).bind fun _ =>
  (gd (p_web.length < 2 ^ 62)).bind fun _ =>
  (compO (β := (List Nat)) (fun (x9 : Nat) =>
    (f_Web_neighbours p_web x9).bind fun x25 =>
    some (some x25)) (List.range p_web.length)).bind fun x40 =>
  (gd (x40.length ≤ 100000)).bind fun _ =>
  some x40
def q_beside_of (TL : List (Addr × Str)) (C_Web : Addr) : Sp := fun vs H Q _ => ∃ (F : Hp) (v_web : V) (p_web : Wb) (rr : (List (List Nat))), vs = [v_web] ∧ Same F H ∧ NoT F ∧ (rWb C_Web).r F v_web p_web ∧ f_beside_of p_web = some rr ∧ ∀ D F' H', Ext ⟨[], TL⟩ F H F' H' → H D = none → F' D = none → (∃ o, H' D = some o ∧ (cL (rL rN) rr).p F' o) → Q (.ref D) H'
section
variable {P : Program} {w : World} {K : PySem.W.Frag} {mg : Str → Option Value} {base : Heap}
theorem t_beside_of {C_Web : Addr} (T : Tx mg) (O_Web : Own K mg "Web" C_Web) (F : DefAt K mg "beside_of" s_beside_of ["web"]) (o_WebD_lenD : Met P w K mg base CX0 1 C_Web "__len__" (q_WebD_lenD TL C_Web)) (m_Web_neighbours : Met P w K mg base CX0 3 C_Web "neighbours" (q_Web_neighbours TL C_Web)) : Cal P w K mg base CX0 4 "beside_of" (q_beside_of TL C_Web) := by
  refine F.cal sc_beside_of (fun vs H Q E h => ?_) (fun f cdv A outer s H vs Q E hr h => ?_)
  · obtain ⟨_, _, _, _, rfl, _⟩ := h
    rfl
  · obtain ⟨F, v_web, p_web, rr, rfl, sm0, nt0, r_web, hf, q⟩ := h
    have hf : _ = some rr := hf
    unfold f_beside_of at hf
    refine ⟨_, (pss_one (ps_ret (pe_lc (own := [("place", 1)]) (g := gName 1) rfl sc_beside_of.nd (pi_range1 rfl T.z_range (pa_cons (pe_callB (call_lenO o_WebD_lenD hr (by decide) pass0) (by rfl) T.z_len PySem.boot_len (pa_cons (pv 0) pa_nil)) pa_nil)) (blkOk_by (own := [("place", 1)]) (N := ["web", "place"]) (sc := defScope s_beside_of) (by decide +kernel)) (fun _ _ _ _ _ => (pg_name (i := 1) sc_beside_of.nd rfl (Or.inl rfl))) (fun _ _ _ _ _ => pts_nil) (fun _ _ _ _ _ => (pe_mth m_Web_neighbours O_Web hr (by decide) pass0 (pv 0) (pa_cons (pv 1) pa_nil)))))), ?_⟩
    have hE0 : Wst ⟨[], TL⟩ F H [(rWb C_Web).at p_web, sAny] [] (start ["web", "place"] [v_web]) F H := Wst.start (vs := [v_web]) (n := 1) (ss := [(rWb C_Web).at p_web]) (cs := []) sm0 nt0 (fun p hp => by cases hp) List.nodup_nil (.cons ⟨_, rfl, r_web⟩ .nil)
    revert hE0
    generalize start ["web", "place"] [v_web] = σ0
    intro hE0
    refine x_ret ?_
    refine x_lc ?_
    refine x_rg1 ?_
    refine x_cons ?_
    refine x_cb ?_
    refine x_cons ?_
    refine w_var hE0 (i := 0) rfl fun v1 r2 => ?_
    refine x_nil ?_
    obtain ⟨_, u5, hf⟩ := bnd hf
    have u5 := gd_ok u5
    refine w_lenWeb hE0 r2 u5 fun _ _ s3 hE4 => ?_
    refine x_nil ?_
    obtain ⟨_, u6, hf⟩ := bnd hf
    have u6 := gd_ok u6
    refine w_r1 u6 ?_
    obtain ⟨x40, hx40, hf⟩ := bnd hf
    obtain ⟨_, u41, hf⟩ := bnd hf
    have u41 := gd_ok u41
    intro c7 d8
    refine w_lc (B := (rL rN)) hx40 u41 hE4 d8 (fun _ _ _ sm w47 => jok_r0 w47.fh w47.nt) (fun x9 v11 o12 ac19 _ _ s13 r14 hE15 hb16 z17 ew18 => ?_) (fun _ _ o44 s45 hE46 => ?_)
    · have hE15 : Wst ⟨[], TL⟩ _ _ [(rWb C_Web).at p_web, sAny] [(c7, cL (rL rN) ac19)] _ _ _ := hE15
      refine w_nameW (ss' := [(rWb C_Web).at p_web, rN.at x9]) hE15 rfl r14 (by decide) ew18 fun _ ew21 hE20 => ?_
      refine ⟨ew21, ?_⟩
      refine x_yes ?_
      refine x_T ?_
      refine x_meth ?_
      refine w_var hE20 (i := 0) rfl fun v22 r23 => ?_
      refine w_insWeb hE20.fh r23 (by decide) fun a24 ea => ?_
      cases ea
      refine x_cons ?_
      refine w_vN hE20 (i := 1) rfl ?_
      refine x_nil ?_
      obtain ⟨x25, hx25, hb16⟩ := bnd hb16
      refine ⟨_, (V.ref a24), p_web, x9, x25, rfl, hE20.fh, hE20.nt, r23, hx25, fun c28 _ _ e26 o29 p30 q31 => ?_⟩
      have hE32 : Wst ⟨[], TL⟩ _ _ [(rWb C_Web).at p_web, rN.at x9] [(c7, cL (rL rN) ac19)] _ _ _ := hE20.grow e26
      have o33 := hE20.own o29
      have hE34 : Wst ⟨[], TL⟩ _ _ [(rWb C_Web).at p_web, rN.at x9] [(c28, cL rN x25), (c7, cL (rL rN) ac19)] _ _ _ := hE32.addC (A := cL rN x25) o33 p30 q31 (hE20.fresh_ne o29)
      obtain ⟨F35, s36, hE38, r37⟩ := hE34.freeze (k := 0) rfl o33
      have hE39 : Wst ⟨[], TL⟩ _ _ [(rWb C_Web).at p_web, rN.at x9] [(c7, cL (rL rN) ac19)] _ _ _ := hE38
      have hb16 := Option.some.inj hb16
      subst hb16
      exact w_acc (s := ()) hE39 ((s13.trans e26.ff).trans s36) r37 z17 ew21 rfl
    have hE48 : Wst ⟨[], TL⟩ _ _ [(rWb C_Web).at p_web, sAny] [(c7, cL (rL rN) x40)] _ _ _ := hE46
    have hf := Option.some.inj hf
    subst hf
    exact q _ _ _ hE48.ex o44 (hE48.apart (k := 0) rfl) (hE48.cell (k := 0) rfl)
end
abbrev s_without_safe : Stmt := topS 20
theorem sc_without_safe : FnScope ["beside", "state", "tokens", "changed", "place", "many", "other"] ["beside", "state"] (defScope s_without_safe) := ⟨rfl, rfl, rfl, by decide +kernel, rfl, by decide +kernel, by decide +kernel⟩
def f_without_safe (p_beside : (List (List Nat))) (p_state : (List Nat)) : Option ((List Nat)) :=
  (whlO (S := Bool × (List Nat)) (fun s9 =>
    some s9.1) (fun s9 =>
    (foldO (fun (s28 : Bool × (List Nat)) (x29 : (Nat × Nat)) =>
      (p_beside[x29.1]?).bind fun x49 =>
      (compO (β := Nat) (fun (x55 : Nat) =>
        (s28.2[x55]?).bind fun x68 =>
        if (decide (0 < x68)) = true then
          some (some x55)
        else some none) x49).bind fun x72 =>
      (gd (x72.length ≤ 100000)).bind fun _ =>
      if (decide (x72.length < x29.2)) = true then
        (gd (x29.1 < s28.2.length)).bind fun _ =>
        some (true, (s28.2.set x29.1 0))
      else
        some (s28.1, s28.2)) (enumL s9.2) (false, s9.2)).bind fun x40 =>
    some (x40.1, x40.2)) 100000 (true, p_state)).bind fun x21 =>
  some x21.2
def q_without_safe (TL : List (Addr × Str)) : Sp := fun vs H Q _ => ∃ (F : Hp) (v_beside : V) (p_beside : (List (List Nat))) (v_state : V) (p_state : (List Nat)) (rr : (List Nat)), vs = [v_beside, v_state] ∧ Same F H ∧ NoT F ∧ (rL (rL rN)).r F v_beside p_beside ∧ (rU rN).r F v_state p_state ∧ f_without_safe p_beside p_state = some rr ∧ ∀ v F' H', Ext ⟨[], TL⟩ F H F' H' → (rU rN).r F' v rr → Q v H'
section
variable {P : Program} {w : World} {K : PySem.W.Frag} {mg : Str → Option Value} {base : Heap}
theorem t_without_safe (T : Tx mg) (F : DefAt K mg "without_safe" s_without_safe ["beside", "state"]) : Cal P w K mg base CX0 1 "without_safe" (q_without_safe TL) := by
  refine F.cal sc_without_safe (fun vs H Q E h => ?_) (fun f cdv A outer s H vs Q E hr h => ?_)
  · obtain ⟨_, _, _, _, _, _, rfl, _⟩ := h
    rfl
  · obtain ⟨F, v_beside, p_beside, v_state, p_state, rr, rfl, sm0, nt0, r_beside, r_state, hf, q⟩ := h
    have hf : _ = some rr := hf
    unfold f_without_safe at hf
    refine ⟨_, (pss_cons (ps_set (i := 2) sc_without_safe.nd rfl (Or.inr rfl) (pe_callTy (cl_listOf K) (by rfl) T.z_list (by decide +kernel) (pa_cons (pv 1) pa_nil)))
      (pss_cons (ps_set (i := 3) sc_without_safe.nd rfl (Or.inl rfl) pe_bl)
      (pss_cons (ps_while PassesOwn.never (pt_val (pv 3))
        (pss_cons (ps_set (i := 3) sc_without_safe.nd rfl (Or.inl rfl) pe_bl)
      (pss_one (ps_for PassesOwn.never rfl (k_enum K (by rfl) T.z_enumerate (pa_cons (pe_callTy (cl_listOf K) (by rfl) T.z_list (by decide +kernel) (pa_cons (pv 2) pa_nil)) pa_nil)) (k_tup (n := 2) K rfl (pgs_cons (pg_name (i := 4) sc_without_safe.nd rfl (Or.inl rfl)) (pgs_cons (pg_name (i := 5) sc_without_safe.nd rfl (Or.inl rfl)) pgs_nil)))
        (pss_one (ps_if (pt_cmpR op_gt (pv 5) (pe_callB (cl_len K) (by rfl) T.z_len PySem.boot_len (pa_cons (pe_lc (own := [("other", 6)]) (g := gName 6) rfl sc_without_safe.nd (k_pil K (pe_ix (ix_l K) (pv 0) (pv 4) (fun _ _ => rfl))) (blkOk_by (own := [("other", 6)]) (N := ["beside", "state", "tokens", "changed", "place", "many", "other"]) (sc := defScope s_without_safe) (by decide +kernel)) (fun _ _ _ _ _ => (pg_name (i := 6) sc_without_safe.nd rfl (Or.inl rfl))) (fun _ _ _ _ _ => pts_one (pt_cmpR op_gt (pe_ix (ix_l K) (pv 2) (pv 6) (fun _ _ => rfl)) pe_int (nomark _))) (fun _ _ _ _ _ => (pv 6))) pa_nil)) (nomark _))
        (pss_cons (ps_asg pe_int (pg_sub (pv 2) (pv 4) set_list))
      (pss_one (ps_set (i := 3) sc_without_safe.nd rfl (Or.inl rfl) pe_bl))) pss_nil))))))
      (pss_one (ps_ret (pe_callTy (cl_tupOf K) (by rfl) T.z_tuple (by decide +kernel) (pa_cons (pv 2) pa_nil))))))), ?_⟩
    have hE0 : Wst ⟨[], TL⟩ F H [(rL (rL rN)).at p_beside, (rU rN).at p_state, sAny, sAny, sAny, sAny, sAny] [] (start ["beside", "state", "tokens", "changed", "place", "many", "other"] [v_beside, v_state]) F H := Wst.start (vs := [v_beside, v_state]) (n := 5) (ss := [(rL (rL rN)).at p_beside, (rU rN).at p_state]) (cs := []) sm0 nt0 (fun p hp => by cases hp) List.nodup_nil (.cons ⟨_, rfl, r_beside⟩ (.cons ⟨_, rfl, r_state⟩ .nil))
    revert hE0
    generalize start ["beside", "state", "tokens", "changed", "place", "many", "other"] [v_beside, v_state] = σ0
    intro hE0
    refine x_seq ?_
    refine x_asg ?_
    refine x_cb ?_
    refine x_cons ?_
    refine w_var hE0 (i := 1) rfl fun v1 r2 => ?_
    refine x_nil ?_
    refine w_listUC hE0 (uv_f hE0.fh r2) fun c3 _ o4 hE5 => ?_
    have hE6 : Wst ⟨[], TL⟩ _ _ [(rL (rL rN)).at p_beside, (rU rN).at p_state, sAny, sAny, sAny, sAny, sAny] [(c3, cL rN p_state)] _ _ _ := hE5
    refine w_nameC (ss' := [(rL (rL rN)).at p_beside, (rU rN).at p_state, sRef c3, sAny, sAny, sAny, sAny]) hE6 rfl fun _ hE7 => ?_
    refine x_seq ?_
    refine x_asg ?_
    refine x_c ?_
    refine w_name (R := rB) (ss' := [(rL (rL rN)).at p_beside, (rU rN).at p_state, sRef c3, rB.at true, sAny, sAny, sAny]) hE7 rfl rfl fun _ hE8 => ?_
    refine x_seq ?_
    have hE19 : Wst ⟨[], TL⟩ _ _ [(rL (rL rN)).at p_beside, (rU rN).at p_state, sRef c3, rB.at (true, p_state).1, sAny, sAny, sAny] [(c3, cL rN (true, p_state).2)] _ _ _ := hE8
    obtain ⟨x21, hx21, hf⟩ := bnd hf
    refine w_while 0 (fun (s9 : Bool × (List Nat)) (ad17 : Nat → Addr) => [(rL (rL rN)).at p_beside, (rU rN).at p_state, sRef c3, rB.at s9.1, sAny, sAny, sAny]) (fun (s9 : Bool × (List Nat)) (ad17 : Nat → Addr) => [(c3, cL rN s9.2)]) hx21 adZ no_ad hE19 (fun s9 ad17 _ _ _ _ s93 hE92 hc91 _ qc => ?_) (fun s9 ad17 o12 _ _ _ ha18 s13 hE15 _ hb16 => ?_) (fun ad17 _ _ _ ha18 s95 hE96 => ?_)
    · have hE94 : Wst ⟨[], TL⟩ _ _ [(rL (rL rN)).at p_beside, (rU rN).at p_state, sRef c3, rB.at s9.1, sAny, sAny, sAny] [(c3, cL rN s9.2)] _ _ _ := hE92
      refine x_B ?_
      refine w_vB hE94 (i := 3) rfl ?_
      refine x_bl ?_
      have hc91 := Option.some.inj hc91
      subst hc91
      exact qc _ _ (Same.refl _) hE94
    · have hE20 : Wst ⟨[], TL⟩ _ _ [(rL (rL rN)).at p_beside, (rU rN).at p_state, sRef c3, rB.at s9.1, sAny, sAny, sAny] [(c3, cL rN s9.2)] _ _ _ := hE15
      refine x_seq ?_
      refine x_asg ?_
      refine x_c ?_
      refine w_name (R := rB) (ss' := [(rL (rL rN)).at p_beside, (rU rN).at p_state, sRef c3, rB.at false, sAny, sAny, sAny]) hE20 rfl rfl fun _ hE22 => ?_
      refine x_for ?_
      refine x_enum ?_
      refine x_cons ?_
      refine x_cb ?_
      refine x_cons ?_
      refine w_ref hE22 (i := 2) rfl ?_
      refine x_nil ?_
      refine w_listF hE22 (lv_c hE22 (k := 0) rfl) fun v23 _ _ s24 hE26 r25 => ?_
      refine x_nil ?_
      refine w_ze (lv_f hE26.fh r25) fun a27 ea => ?_
      cases ea
      have hE38 : Wst ⟨[], TL⟩ _ _ [(rL (rL rN)).at p_beside, (rU rN).at p_state, sRef c3, rB.at (false, s9.2).1, sAny, sAny, sAny] [(c3, cL rN (false, s9.2).2)] _ _ _ := hE26
      obtain ⟨x40, hx40, hb16⟩ := bnd hb16
      refine w_for 0 (fun (s28 : Bool × (List Nat)) (ad36 : Nat → Addr) => [(rL (rL rN)).at p_beside, (rU rN).at p_state, sRef c3, rB.at s28.1, sAny, sAny, sAny]) (fun (s28 : Bool × (List Nat)) (ad36 : Nat → Addr) => [(c3, cL rN s28.2)]) hx40 adZ no_ad hE38 (fun _ ad36 _ _ _ sm w86 => jok_e w86.fh w86.nt (lv_f w86.fh ((rL rN).mono sm r25))) (fun s28 ad36 x29 v30 o31 _ _ _ ha37 s32 r33 hE34 hb35 => ?_) (fun ad36 _ _ _ ha37 s87 hE88 => ?_)
      · have hE39 : Wst ⟨[], TL⟩ _ _ [(rL (rL rN)).at p_beside, (rU rN).at p_state, sRef c3, rB.at s28.1, sAny, sAny, sAny] [(c3, cL rN s28.2)] _ _ _ := hE34
        refine w_gT2 hE39.fh r33 fun v41 v42 r43 r44 => ?_
        refine x_gCons ?_
        obtain rfl := (show v41 = (V.int ((x29.1 : Nat) : Int)) from r43)
        refine w_name (R := rN) (ss' := [(rL (rL rN)).at p_beside, (rU rN).at p_state, sRef c3, rB.at s28.1, rN.at x29.1, sAny, sAny]) hE39 rfl rfl fun _ hE45 => ?_
        refine x_gCons ?_
        obtain rfl := (show v42 = (V.int ((x29.2 : Nat) : Int)) from r44)
        refine w_name (R := rN) (ss' := [(rL (rL rN)).at p_beside, (rU rN).at p_state, sRef c3, rB.at s28.1, rN.at x29.1, rN.at x29.2, sAny]) hE45 rfl rfl fun _ hE46 => ?_
        refine x_gNil ?_
        refine x_ifs ?_
        refine x_test ?_
        refine x_op ?_
        refine w_vN hE46 (i := 5) rfl ?_
        refine x_cb ?_
        refine x_cons ?_
        refine x_lc ?_
        refine x_il ?_
        refine x_op ?_
        refine w_var hE46 (i := 0) rfl fun v47 r48 => ?_
        refine w_vN hE46 (i := 4) rfl ?_
        obtain ⟨x49, hx49, hb35⟩ := bnd hb35
        refine w_ix (lv_f hE46.fh r48) hx49 fun v50 r51 => ?_
        refine w_il (lv_f hE46.fh r51) fun a52 ea => ?_
        cases ea
        obtain ⟨x72, hx72, hb35⟩ := bnd hb35
        obtain ⟨_, u73, hb35⟩ := bnd hb35
        have u73 := gd_ok u73
        intro c53 d54
        refine w_lc (B := rN) hx72 u73 hE46 d54 (fun _ _ _ sm w79 => jok_l w79.fh w79.nt (lv_f w79.fh ((rL rN).mono sm r51))) (fun x55 v57 o58 ac65 _ _ s59 r60 hE61 hb62 z63 ew64 => ?_) (fun _ _ o76 s77 hE78 => ?_)
        · have hE61 : Wst ⟨[], TL⟩ _ _ [(rL (rL rN)).at p_beside, (rU rN).at p_state, sRef c3, rB.at s28.1, rN.at x29.1, rN.at x29.2, sAny] [(c53, cL rN ac65), (c3, cL rN s28.2)] _ _ _ := hE61
          refine w_nameW (ss' := [(rL (rL rN)).at p_beside, (rU rN).at p_state, sRef c3, rB.at s28.1, rN.at x29.1, rN.at x29.2, rN.at x55]) hE61 rfl r60 (by decide) ew64 fun _ ew67 hE66 => ?_
          refine ⟨ew67, ?_⟩
          refine x_test ?_
          refine x_op ?_
          refine x_op ?_
          refine w_ref hE66 (i := 2) rfl ?_
          refine w_vN hE66 (i := 6) rfl ?_
          obtain ⟨x68, hx68, hb62⟩ := bnd hb62
          refine w_ix (lv_c hE66 (k := 1) rfl) hx68 fun v69 r70 => ?_
          obtain rfl := (show v69 = (V.int ((x68 : Nat) : Int)) from r70)
          refine w_cN 0 ?_
          refine w_gtN ?_
          refine x_bl ?_
          refine x_itb (fun hc71 => ?_) (fun hc71 => ?_)
          · have hb62 := ite_t hb62 hc71
            refine w_vN hE66 (i := 6) rfl ?_
            have hb62 := Option.some.inj hb62
            subst hb62
            exact w_acc (s := ()) hE66 s59 rfl z63 ew67 rfl
          · have hb62 := ite_f hb62 hc71
            have hb62 := Option.some.inj hb62
            subst hb62
            exact w_skip (s := ()) hE66 s59 ew67 rfl
        have hE80 : Wst ⟨[], TL⟩ _ _ [(rL (rL rN)).at p_beside, (rU rN).at p_state, sRef c3, rB.at s28.1, rN.at x29.1, rN.at x29.2, sAny] [(c53, cL rN x72), (c3, cL rN s28.2)] _ _ _ := hE78
        refine x_nil ?_
        refine w_len (lv_c hE80 (k := 0) rfl) ?_
        have hE81 : Wst ⟨[], TL⟩ _ _ [(rL (rL rN)).at p_beside, (rU rN).at p_state, sRef c3, rB.at s28.1, rN.at x29.1, rN.at x29.2, sAny] [(c3, cL rN s28.2)] _ _ _ := hE80.dropC 0
        refine w_gtN ?_
        refine x_bl ?_
        refine x_itb (fun hc82 => ?_) (fun hc82 => ?_)
        · have hb35 := ite_t hb35 hc82
          refine x_seq ?_
          refine x_asg ?_
          refine w_cN 0 ?_
          refine x_sub ?_
          refine w_ref hE81 (i := 2) rfl ?_
          refine w_vN hE81 (i := 4) rfl ?_
          obtain ⟨_, u83, hb35⟩ := bnd hb35
          have u83 := gd_ok u83
          refine w_set hE81 (k := 0) (a := 0) rfl u83 rfl (cs' := [(c3, cL rN (s28.2.set x29.1 0))]) rfl fun _ hE84 => ?_
          refine x_asg ?_
          refine x_c ?_
          refine w_name (R := rB) (ss' := [(rL (rL rN)).at p_beside, (rU rN).at p_state, sRef c3, rB.at true, rN.at x29.1, rN.at x29.2, sAny]) hE84 rfl rfl fun _ hE85 => ?_
          have hb35 := Option.some.inj hb35
          subst hb35
          exact ⟨adZ, _, no_ad, (s32.trans s77), ((hE85.toAny 4).toAny 5)⟩
        · have hb35 := ite_f hb35 hc82
          refine x_next ?_
          have hb35 := Option.some.inj hb35
          subst hb35
          exact ⟨adZ, _, no_ad, (s32.trans s77), ((hE81.toAny 4).toAny 5)⟩
      have hE89 : Wst ⟨[], TL⟩ _ _ [(rL (rL rN)).at p_beside, (rU rN).at p_state, sRef c3, rB.at x40.1, sAny, sAny, sAny] [(c3, cL rN x40.2)] _ _ _ := hE88
      have hb16 := Option.some.inj hb16
      subst hb16
      exact ⟨adZ, _, no_ad, ((s13.trans s24).trans s87), hE89⟩
    have hE97 : Wst ⟨[], TL⟩ _ _ [(rL (rL rN)).at p_beside, (rU rN).at p_state, sRef c3, rB.at x21.1, sAny, sAny, sAny] [(c3, cL rN x21.2)] _ _ _ := hE96
    refine x_ret ?_
    refine x_cb ?_
    refine x_cons ?_
    refine w_ref hE97 (i := 2) rfl ?_
    refine x_nil ?_
    refine w_tupOf hE97 (lv_c hE97 (k := 0) rfl) fun v98 _ _ s99 hE101 r100 => ?_
    have hf := Option.some.inj hf
    subst hf
    exact q _ _ _ hE101.ex r100
end
abbrev s_subsets : Stmt := topS 15
theorem sc_subsets : FnScope ["places", "rows", "place", "row"] ["places"] (defScope s_subsets) := ⟨rfl, rfl, rfl, by decide +kernel, rfl, by decide +kernel, by decide +kernel⟩
def f_subsets (p_places : (List Nat)) : Option ((List (List Nat))) :=
  (foldO (fun (s18 : (List (List Nat))) (x19 : Nat) =>
    (compO (β := (List Nat)) (fun (x39 : (List Nat)) =>
      (gd (x39.length + [x19].length ≤ 100000)).bind fun _ =>
      some (some (x39 ++ [x19]))) s18).bind fun x68 =>
    (gd (x68.length ≤ 100000)).bind fun _ =>
    (gd (s18.length + x68.length ≤ 100000)).bind fun _ =>
    some (s18 ++ x68)) p_places [([] : List Nat)]).bind fun x30 =>
  some x30
def q_subsets (TL : List (Addr × Str)) : Sp := fun vs H Q _ => ∃ (F : Hp) (v_places : V) (p_places : (List Nat)) (rr : (List (List Nat))), vs = [v_places] ∧ Same F H ∧ NoT F ∧ (rL rN).r F v_places p_places ∧ f_subsets p_places = some rr ∧ ∀ v F' H', Ext ⟨[], TL⟩ F H F' H' → (rL (rNw H (rL rN))).r F' v rr → Q v H'
section
variable {P : Program} {w : World} {K : PySem.W.Frag} {mg : Str → Option Value} {base : Heap}
theorem t_subsets (T : Tx mg) (F : DefAt K mg "subsets" s_subsets ["places"]) : Cal P w K mg base CX0 1 "subsets" (q_subsets TL) := by
  refine F.cal sc_subsets (fun vs H Q E h => ?_) (fun f cdv A outer s H vs Q E hr h => ?_)
  · obtain ⟨_, _, _, _, rfl, _⟩ := h
    rfl
  · obtain ⟨F, v_places, p_places, rr, rfl, sm0, nt0, r_places, hf, q⟩ := h
    have hf : _ = some rr := hf
    unfold f_subsets at hf
    refine ⟨_, (pss_cons (ps_set (i := 1) sc_subsets.nd rfl (Or.inl rfl) (pe_lst (pa_cons (pe_lst pa_nil) pa_nil)))
      (pss_cons (ps_for PassesOwn.never rfl (k_pil K (pv 0)) (pg_name (i := 2) sc_subsets.nd rfl (Or.inr rfl))
        (pss_one (ps_set (i := 1) sc_subsets.nd rfl (Or.inl rfl) (pe_op op_cat (pv 1) (pe_lc (own := [("row", 3)]) (g := gName 3) rfl sc_subsets.nd (k_pil K (pv 1)) (blkOk_by (own := [("row", 3)]) (N := ["places", "rows", "place", "row"]) (sc := defScope s_subsets) (by decide +kernel)) (fun _ _ _ _ _ => (pg_name (i := 3) sc_subsets.nd rfl (Or.inl rfl))) (fun _ _ _ _ _ => pts_nil) (fun _ _ _ _ _ => (pe_op op_cat (pv 3) (pe_lst (pa_cons (pv 2) pa_nil)))))))))
      (pss_one (ps_ret (pv 1))))), ?_⟩
    have hE0 : Wst ⟨[], TL⟩ F H [(rL rN).at p_places, sAny, sAny, sAny] [] (start ["places", "rows", "place", "row"] [v_places]) F H := Wst.start (vs := [v_places]) (n := 3) (ss := [(rL rN).at p_places]) (cs := []) sm0 nt0 (fun p hp => by cases hp) List.nodup_nil (.cons ⟨_, rfl, r_places⟩ .nil)
    revert hE0
    generalize start ["places", "rows", "place", "row"] [v_places] = σ0
    intro hE0
    refine x_seq ?_
    refine x_asg ?_
    refine m_lst ?_
    refine x_cons ?_
    refine m_lst ?_
    refine x_nil ?_
    refine w_lstC hE0 (R := rN) (l := ([] : List Nat)) (by show 0 ≤ 100000; decide) .nil fun c1 _ o2 hE3 => ?_
    have hE4 : Wst ⟨[], TL⟩ _ _ [(rL rN).at p_places, sAny, sAny, sAny] [(c1, cL rN ([] : List Nat))] _ _ _ := hE3
    obtain ⟨F5, s6, hE8, r7⟩ := hE4.freeze (k := 0) rfl o2
    have hE9 : Wst ⟨[], TL⟩ _ _ [(rL rN).at p_places, sAny, sAny, sAny] [] _ _ _ := hE8
    refine x_nil ?_
    refine w_lstF hE9 (R := (rNw H (rL rN))) (l := [([] : List Nat)]) (by show 1 ≤ 100000; decide) (.cons ⟨r7, ⟨_, rfl, o2⟩⟩ .nil) fun v10 _ _ s11 hE13 r12 => ?_
    refine w_name (R := (rL (rNw H (rL rN)))) (ss' := [(rL rN).at p_places, (rL (rNw H (rL rN))).at [([] : List Nat)], sAny, sAny]) hE13 rfl r12 fun _ hE14 => ?_
    refine x_seq ?_
    refine x_for ?_
    refine x_il ?_
    refine w_var hE14 (i := 0) rfl fun v15 r16 => ?_
    refine w_il (lv_f hE14.fh r16) fun a17 ea => ?_
    cases ea
    have hE28 : Wst ⟨[], TL⟩ _ _ [(rL rN).at p_places, (rL (rNw H (rL rN))).at ([([] : List Nat)]), sAny, sAny] [] _ _ _ := hE14
    obtain ⟨x30, hx30, hf⟩ := bnd hf
    refine w_for 0 (fun (s18 : (List (List Nat))) (ad26 : Nat → Addr) => [(rL rN).at p_places, (rL (rNw H (rL rN))).at s18, sAny, sAny]) (fun (s18 : (List (List Nat))) (ad26 : Nat → Addr) => []) hx30 adZ no_ad hE28 (fun _ ad26 _ _ _ sm w83 => jok_l w83.fh w83.nt (lv_f w83.fh ((rL rN).mono sm r16))) (fun s18 ad26 x19 v20 o21 _ _ _ ha27 s22 r23 hE24 hb25 => ?_) (fun ad26 _ _ _ ha27 s84 hE85 => ?_)
    · have hE29 : Wst ⟨[], TL⟩ _ _ [(rL rN).at p_places, (rL (rNw H (rL rN))).at s18, sAny, sAny] [] _ _ _ := hE24
      obtain rfl := (show v20 = (V.int ((x19 : Nat) : Int)) from r23)
      refine w_name (R := rN) (ss' := [(rL rN).at p_places, (rL (rNw H (rL rN))).at s18, rN.at x19, sAny]) hE29 rfl rfl fun _ hE31 => ?_
      refine x_asg ?_
      refine x_op ?_
      refine w_var hE31 (i := 1) rfl fun v32 r33 => ?_
      refine x_lc ?_
      refine x_il ?_
      refine w_var hE31 (i := 1) rfl fun v34 r35 => ?_
      refine w_il (lv_f hE31.fh r35) fun a36 ea => ?_
      cases ea
      obtain ⟨x68, hx68, hb25⟩ := bnd hb25
      obtain ⟨_, u69, hb25⟩ := bnd hb25
      have u69 := gd_ok u69
      intro c37 d38
      refine w_lc (B := (rNw H (rL rN))) hx68 u69 hE31 d38 (fun _ _ _ sm w75 => jok_l w75.fh w75.nt (lv_f w75.fh ((rL (rNw H (rL rN))).mono sm r35))) (fun x39 v41 o42 ac49 _ _ s43 r44 hE45 hb46 z47 ew48 => ?_) (fun _ _ o72 s73 hE74 => ?_)
      · have hE45 : Wst ⟨[], TL⟩ _ _ [(rL rN).at p_places, (rL (rNw H (rL rN))).at s18, rN.at x19, sAny] [(c37, cL (rNw H (rL rN)) ac49)] _ _ _ := hE45
        refine w_nameW (ss' := [(rL rN).at p_places, (rL (rNw H (rL rN))).at s18, rN.at x19, (rNw H (rL rN)).at x39]) hE45 rfl r44 (by decide) ew48 fun _ ew51 hE50 => ?_
        refine ⟨ew51, ?_⟩
        refine x_yes ?_
        refine x_T ?_
        refine x_op ?_
        refine w_var hE50 (i := 3) rfl fun v52 r53 => ?_
        refine m_lst ?_
        refine x_cons ?_
        refine w_vN hE50 (i := 2) rfl ?_
        refine x_nil ?_
        refine w_lstF hE50 (R := rN) (l := [x19]) (by show 1 ≤ 100000; decide) (.cons rfl .nil) fun v54 _ _ s55 hE57 r56 => ?_
        obtain ⟨_, u58, hb46⟩ := bnd hb46
        have u58 := gd_ok u58
        refine w_catC hE57 (lv_f hE57.fh ((rL rN).mono s55 (r53).1)) (lv_f hE57.fh r56) u58 fun c59 _ o60 hE61 => ?_
        have hE62 : Wst ⟨[], TL⟩ _ _ [(rL rN).at p_places, (rL (rNw H (rL rN))).at s18, rN.at x19, (rNw H (rL rN)).at x39] [(c59, cL rN (x39 ++ [x19])), (c37, cL (rNw H (rL rN)) ac49)] _ _ _ := hE61
        obtain ⟨F63, s64, hE66, r65⟩ := hE62.freeze (k := 0) rfl o60
        have hE67 : Wst ⟨[], TL⟩ _ _ [(rL rN).at p_places, (rL (rNw H (rL rN))).at s18, rN.at x19, (rNw H (rL rN)).at x39] [(c37, cL (rNw H (rL rN)) ac49)] _ _ _ := hE66
        have hb46 := Option.some.inj hb46
        subst hb46
        exact w_acc (s := ()) hE67 ((s43.trans s55).trans s64) ⟨r65, ⟨_, rfl, o60⟩⟩ z47 ew51 rfl
      have hE76 : Wst ⟨[], TL⟩ _ _ [(rL rN).at p_places, (rL (rNw H (rL rN))).at s18, rN.at x19, sAny] [(c37, cL (rNw H (rL rN)) x68)] _ _ _ := hE74
      obtain ⟨_, u77, hb25⟩ := bnd hb25
      have u77 := gd_ok u77
      refine w_catF hE76 (lv_f hE76.fh ((rL (rNw H (rL rN))).mono s73 r33)) (lv_c hE76 (k := 0) rfl) u77 fun v78 _ _ s79 hE81 r80 => ?_
      refine w_name (R := (rL (rNw H (rL rN)))) (ss' := [(rL rN).at p_places, (rL (rNw H (rL rN))).at (s18 ++ x68), rN.at x19, sAny]) hE81 rfl r80 fun _ hE82 => ?_
      have hb25 := Option.some.inj hb25
      subst hb25
      exact ⟨adZ, _, no_ad, ((s22.trans s73).trans s79), ((hE82.dropC 0).toAny 2)⟩
    have hE86 : Wst ⟨[], TL⟩ _ _ [(rL rN).at p_places, (rL (rNw H (rL rN))).at x30, sAny, sAny] [] _ _ _ := hE85
    refine x_ret ?_
    refine w_var hE86 (i := 1) rfl fun v87 r88 => ?_
    have hf := Option.some.inj hf
    subst hf
    exact q _ _ _ hE86.ex r88
end
abbrev s_shortest_first : Stmt := topS 16
theorem sc_shortest_first : FnScope ["rows"] ["rows"] (defScope s_shortest_first) := ⟨rfl, rfl, rfl, by decide +kernel, rfl, by decide +kernel, by decide +kernel⟩
def f_shortest_first (p_rows : (List (List Nat))) : Option ((List (List Nat))) :=
  some (srtD (keyLen dtN) p_rows)
def q_shortest_first (TL : List (Addr × Str)) : Sp := fun vs H Q _ => ∃ (F : Hp) (HB : Hp) (v_rows : V) (p_rows : (List (List Nat))) (rr : (List (List Nat))), vs = [v_rows] ∧ Same F H ∧ NoT F ∧ LamX.Tabs TL H ∧ (∀ a, H a = none → HB a = none) ∧ (rL (rNw HB (rL rN))).r F v_rows p_rows ∧ f_shortest_first p_rows = some rr ∧ ∀ v F' H', Ext ⟨[], TL⟩ F H F' H' → (rL (rNw HB (rL rN))).r F' v rr → Q v H'
section
variable {P : Program} {w : World} {K : PySem.W.Frag} {mg : Str → Option Value} {base : Heap}
theorem t_shortest_first {cC_shortest_first pP_shortest_first : Addr} (T : Tx mg) (F : DefAtC K mg "shortest_first" s_shortest_first ["rows"] cC_shortest_first) (TB_shortest_first : TabB base mg cC_shortest_first pP_shortest_first) (LM_shortest_first : (pP_shortest_first, ("shortest_first.<locals>.<lambda>" : Str)) ∈ TL) (LU_shortest_first : ∀ p ∈ TL, p.1 = pP_shortest_first → p.2 = ("shortest_first.<locals>.<lambda>" : Str)) : Cal P w K mg base CX0 4 "shortest_first" (q_shortest_first TL) := by
  refine F.cal sc_shortest_first (fun vs H Q E h => ?_) (fun f A outer s H vs Q E hr h => ?_)
  · obtain ⟨_, _, _, _, _, rfl, _⟩ := h
    rfl
  · obtain ⟨F, HB, v_rows, p_rows, rr, rfl, sm0, nt0, tb0, hbB, r_rows, hf, q⟩ := h
    have hf : _ = some rr := hf
    unfold f_shortest_first at hf
    refine ⟨_, (pss_one (ps_ret (pe_sortLam (k := 0) (x := "row") (hr.mono (by decide)) (by rfl) T.z_sorted (by decide +kernel) (pa_cons (pv 0) pa_nil) TB_shortest_first rfl rfl LM_shortest_first LU_shortest_first (by exact NdefX.nscope_by (by decide +kernel)) (by intro _ _ _ _; rfl) (by intro f c' A outer s H hr; exact (pe_tup (pa_cons (pe_callB (cl_len K) (by rfl) T.z_len PySem.boot_len (pa_cons (pv 0) pa_nil)) (pa_cons (pv 0) pa_nil))))))), ?_⟩
    have hE0 : Wst ⟨[], TL⟩ F H [(rL (rNw HB (rL rN))).at p_rows] [] (start ["rows"] [v_rows]) F H := Wst.start (vs := [v_rows]) (n := 0) (ss := [(rL (rNw HB (rL rN))).at p_rows]) (cs := []) sm0 nt0 (fun p hp => by cases hp) List.nodup_nil (.cons ⟨_, rfl, r_rows⟩ .nil)
    revert hE0
    generalize start ["rows"] [v_rows] = σ0
    intro hE0
    refine x_ret ?_
    refine x_ckw ?_
    refine x_cons ?_
    refine w_var hE0 (i := 0) rfl fun v1 r2 => ?_
    refine x_nil ?_
    refine w_srtLamF hE0 tb0 (lv_f hE0.fh r2) (keyLen dtN) (fun _ _ => (alkT2 alkN (alkL alkN)).al _ _) (.inl fun _ => ⟨_, _, rfl⟩) (fun _ => Nat.le_trans ((dtT2 dtN (dtL dtN)).dep _) (by decide)) (fun F' H' y a s r => key_len dtN F' H' y a s r.1) fun v3 _ _ s4 hE6 r5 => ?_
    have hf := Option.some.inj hf
    subst hf
    exact q _ _ _ hE6.ex r5
end
abbrev s_longest_first : Stmt := topS 17
theorem sc_longest_first : FnScope ["rows"] ["rows"] (defScope s_longest_first) := ⟨rfl, rfl, rfl, by decide +kernel, rfl, by decide +kernel, by decide +kernel⟩
def f_longest_first (p_rows : (List (List Nat))) : Option ((List (List Nat))) :=
  some (srtD (keyNeg dtN) p_rows)
def q_longest_first (TL : List (Addr × Str)) : Sp := fun vs H Q _ => ∃ (F : Hp) (HB : Hp) (v_rows : V) (p_rows : (List (List Nat))) (rr : (List (List Nat))), vs = [v_rows] ∧ Same F H ∧ NoT F ∧ LamX.Tabs TL H ∧ (∀ a, H a = none → HB a = none) ∧ (rL (rNw HB (rL rN))).r F v_rows p_rows ∧ f_longest_first p_rows = some rr ∧ ∀ v F' H', Ext ⟨[], TL⟩ F H F' H' → (rL (rNw HB (rL rN))).r F' v rr → Q v H'
section
variable {P : Program} {w : World} {K : PySem.W.Frag} {mg : Str → Option Value} {base : Heap}
theorem t_longest_first {cC_longest_first pP_longest_first : Addr} (T : Tx mg) (F : DefAtC K mg "longest_first" s_longest_first ["rows"] cC_longest_first) (TB_longest_first : TabB base mg cC_longest_first pP_longest_first) (LM_longest_first : (pP_longest_first, ("longest_first.<locals>.<lambda>" : Str)) ∈ TL) (LU_longest_first : ∀ p ∈ TL, p.1 = pP_longest_first → p.2 = ("longest_first.<locals>.<lambda>" : Str)) : Cal P w K mg base CX0 4 "longest_first" (q_longest_first TL) := by
  refine F.cal sc_longest_first (fun vs H Q E h => ?_) (fun f A outer s H vs Q E hr h => ?_)
  · obtain ⟨_, _, _, _, _, rfl, _⟩ := h
    rfl
  · obtain ⟨F, HB, v_rows, p_rows, rr, rfl, sm0, nt0, tb0, hbB, r_rows, hf, q⟩ := h
    have hf : _ = some rr := hf
    unfold f_longest_first at hf
    refine ⟨_, (pss_one (ps_ret (pe_sortLam (k := 0) (x := "row") (hr.mono (by decide)) (by rfl) T.z_sorted (by decide +kernel) (pa_cons (pv 0) pa_nil) TB_longest_first rfl rfl LM_longest_first LU_longest_first (by exact NdefX.nscope_by (by decide +kernel)) (by intro _ _ _ _; rfl) (by intro f c' A outer s H hr; exact (pe_tup (pa_cons (pe_un un_neg (pe_callB (cl_len K) (by rfl) T.z_len PySem.boot_len (pa_cons (pv 0) pa_nil))) (pa_cons (pv 0) pa_nil))))))), ?_⟩
    have hE0 : Wst ⟨[], TL⟩ F H [(rL (rNw HB (rL rN))).at p_rows] [] (start ["rows"] [v_rows]) F H := Wst.start (vs := [v_rows]) (n := 0) (ss := [(rL (rNw HB (rL rN))).at p_rows]) (cs := []) sm0 nt0 (fun p hp => by cases hp) List.nodup_nil (.cons ⟨_, rfl, r_rows⟩ .nil)
    revert hE0
    generalize start ["rows"] [v_rows] = σ0
    intro hE0
    refine x_ret ?_
    refine x_ckw ?_
    refine x_cons ?_
    refine w_var hE0 (i := 0) rfl fun v1 r2 => ?_
    refine x_nil ?_
    refine w_srtLamF hE0 tb0 (lv_f hE0.fh r2) (keyNeg dtN) (fun _ _ => (alkT2 alkZ (alkL alkN)).al _ _) (.inl fun _ => ⟨_, _, rfl⟩) (fun _ => Nat.le_trans ((dtT2 dtZ (dtL dtN)).dep _) (by decide)) (fun F' H' y a s r => key_neg dtN F' H' y a s r.1) fun v3 _ _ s4 hE6 r5 => ?_
    have hf := Option.some.inj hf
    subst hf
    exact q _ _ _ hE6.ex r5
end
abbrev s_are_apart : Stmt := topS 18
theorem sc_are_apart : FnScope ["beside", "places", "place", "other"] ["beside", "places"] (defScope s_are_apart) := ⟨rfl, rfl, rfl, by decide +kernel, rfl, by decide +kernel, by decide +kernel⟩
def f_are_apart (p_beside : (List (List Nat))) (p_places : (List Nat)) : Option (Bool) :=
  (loopO (S := Unit) (T := Bool) (fun s4 (x5 : Nat) =>
    (loopO (S := Unit) (T := Bool) (fun s21 (x22 : Nat) =>
      (p_beside[x5]?).bind fun x37 =>
      if (decide (x22 ∈ x37)) = true then
        some (Stp.rt false)
      else
        some (Stp.nx ())) p_places ()).bind fun x33 =>
    match x33 with
    | .rt t => some (Stp.rt t)
    | .bk _ => none
    | .nx x33s =>
      some (Stp.nx ())) p_places ()).bind fun x16 =>
  match x16 with
  | .rt t => some t
  | .bk _ => none
  | .nx x16s =>
    some true
def q_are_apart (TL : List (Addr × Str)) : Sp := fun vs H Q _ => ∃ (F : Hp) (v_beside : V) (p_beside : (List (List Nat))) (v_places : V) (p_places : (List Nat)) (rr : Bool), vs = [v_beside, v_places] ∧ Same F H ∧ NoT F ∧ (rL (rL rN)).r F v_beside p_beside ∧ (rL rN).r F v_places p_places ∧ f_are_apart p_beside p_places = some rr ∧ ∀ v F' H', Ext ⟨[], TL⟩ F H F' H' → rB.r F' v rr → Q v H'
section
variable {P : Program} {w : World} {K : PySem.W.Frag} {mg : Str → Option Value} {base : Heap}
theorem t_are_apart (T : Tx mg) (F : DefAt K mg "are_apart" s_are_apart ["beside", "places"]) : Cal P w K mg base CX0 1 "are_apart" (q_are_apart TL) := by
  refine F.cal sc_are_apart (fun vs H Q E h => ?_) (fun f cdv A outer s H vs Q E hr h => ?_)
  · obtain ⟨_, _, _, _, _, _, rfl, _⟩ := h
    rfl
  · obtain ⟨F, v_beside, p_beside, v_places, p_places, rr, rfl, sm0, nt0, r_beside, r_places, hf, q⟩ := h
    have hf : _ = some rr := hf
    unfold f_are_apart at hf
    refine ⟨_, (pss_cons (ps_for PassesOwn.never rfl (k_pil K (pv 1)) (pg_name (i := 2) sc_are_apart.nd rfl (Or.inl rfl))
        (pss_one (ps_for PassesOwn.never rfl (k_pil K (pv 1)) (pg_name (i := 3) sc_are_apart.nd rfl (Or.inl rfl))
        (pss_one (ps_if (pt_cmpR (k_in K) (pv 3) (pe_ix (ix_l K) (pv 0) (pv 2) (fun _ _ => rfl)) (by first | exact nomark _ | rfl))
        (pss_one (ps_ret pe_bl)) pss_nil)))))
      (pss_one (ps_ret pe_bl))), ?_⟩
    have hE0 : Wst ⟨[], TL⟩ F H [(rL (rL rN)).at p_beside, (rL rN).at p_places, sAny, sAny] [] (start ["beside", "places", "place", "other"] [v_beside, v_places]) F H := Wst.start (vs := [v_beside, v_places]) (n := 2) (ss := [(rL (rL rN)).at p_beside, (rL rN).at p_places]) (cs := []) sm0 nt0 (fun p hp => by cases hp) List.nodup_nil (.cons ⟨_, rfl, r_beside⟩ (.cons ⟨_, rfl, r_places⟩ .nil))
    revert hE0
    generalize start ["beside", "places", "place", "other"] [v_beside, v_places] = σ0
    intro hE0
    refine x_seq ?_
    refine x_for ?_
    refine x_il ?_
    refine w_var hE0 (i := 1) rfl fun v1 r2 => ?_
    refine w_il (lv_f hE0.fh r2) fun a3 ea => ?_
    cases ea
    have hE14 : Wst ⟨[], TL⟩ _ _ [(rL (rL rN)).at p_beside, (rL rN).at p_places, sAny, sAny] [] _ _ _ := hE0
    obtain ⟨x16, hx16, hf⟩ := bnd hf
    refine w_forS 0 (fun (s4 : Unit) (ad12 : Nat → Addr) => [(rL (rL rN)).at p_beside, (rL rN).at p_places, sAny, sAny]) (fun (s4 : Unit) (ad12 : Nat → Addr) => []) hx16 adZ no_ad hE14 (fun _ ad12 _ _ _ sm w45 => jok_l w45.fh w45.nt (lv_f w45.fh ((rL rN).mono sm r2))) (fun s4 ad12 x5 v6 o7 _ _ _ ha13 s8 r9 hE10 hb11 hrx16 hkx16 => ?_) (fun x16s ad12 _ _ _ eex16 ha13 s46 hE47 => ?_)
    · have hE15 : Wst ⟨[], TL⟩ _ _ [(rL (rL rN)).at p_beside, (rL rN).at p_places, sAny, sAny] [] _ _ _ := hE10
      obtain rfl := (show v6 = (V.int ((x5 : Nat) : Int)) from r9)
      refine w_name (R := rN) (ss' := [(rL (rL rN)).at p_beside, (rL rN).at p_places, rN.at x5, sAny]) hE15 rfl rfl fun _ hE17 => ?_
      refine x_for ?_
      refine x_il ?_
      refine w_var hE17 (i := 1) rfl fun v18 r19 => ?_
      refine w_il (lv_f hE17.fh r19) fun a20 ea => ?_
      cases ea
      have hE31 : Wst ⟨[], TL⟩ _ _ [(rL (rL rN)).at p_beside, (rL rN).at p_places, rN.at x5, sAny] [] _ _ _ := hE17
      obtain ⟨x33, hx33, hb11⟩ := bnd hb11
      refine w_forS 0 (fun (s21 : Unit) (ad29 : Nat → Addr) => [(rL (rL rN)).at p_beside, (rL rN).at p_places, rN.at x5, sAny]) (fun (s21 : Unit) (ad29 : Nat → Addr) => []) hx33 adZ no_ad hE31 (fun _ ad29 _ _ _ sm w41 => jok_l w41.fh w41.nt (lv_f w41.fh ((rL rN).mono sm r19))) (fun s21 ad29 x22 v23 o24 _ _ _ ha30 s25 r26 hE27 hb28 hrx33 hkx33 => ?_) (fun x33s ad29 _ _ _ eex33 ha30 s42 hE43 => ?_)
      · have hE32 : Wst ⟨[], TL⟩ _ _ [(rL (rL rN)).at p_beside, (rL rN).at p_places, rN.at x5, sAny] [] _ _ _ := hE27
        obtain rfl := (show v23 = (V.int ((x22 : Nat) : Int)) from r26)
        refine w_name (R := rN) (ss' := [(rL (rL rN)).at p_beside, (rL rN).at p_places, rN.at x5, rN.at x22]) hE32 rfl rfl fun _ hE34 => ?_
        refine x_ifs ?_
        refine x_test ?_
        refine x_op ?_
        refine w_vN hE34 (i := 3) rfl ?_
        refine x_op ?_
        refine w_var hE34 (i := 0) rfl fun v35 r36 => ?_
        refine w_vN hE34 (i := 2) rfl ?_
        obtain ⟨x37, hx37, hb28⟩ := bnd hb28
        refine w_ix (lv_f hE34.fh r36) hx37 fun v38 r39 => ?_
        refine w_inN (lv_f hE34.fh r39) ?_
        refine x_bl ?_
        refine x_itb (fun hc40 => ?_) (fun hc40 => ?_)
        · have hb28 := ite_t hb28 hc40
          refine x_ret ?_
          refine x_c ?_
          have hb28 := Option.some.inj hb28
          subst hb28
          cases (hrx33 _ rfl)
          have hb11 := Option.some.inj hb11
          subst hb11
          cases (hrx16 _ rfl)
          have hf := Option.some.inj hf
          subst hf
          exact q _ _ _ hE34.ex rfl
        · have hb28 := ite_f hb28 hc40
          refine x_next ?_
          have hb28 := Option.some.inj hb28
          subst hb28
          exact ⟨_, rfl, ⟨adZ, _, no_ad, s25, (hE34.toAny 3)⟩⟩
      subst eex33
      have hE44 : Wst ⟨[], TL⟩ _ _ [(rL (rL rN)).at p_beside, (rL rN).at p_places, rN.at x5, sAny] [] _ _ _ := hE43
      have hb11 := Option.some.inj hb11
      subst hb11
      exact ⟨_, rfl, ⟨adZ, _, no_ad, (s8.trans s42), (hE44.toAny 2)⟩⟩
    subst eex16
    have hE48 : Wst ⟨[], TL⟩ _ _ [(rL (rL rN)).at p_beside, (rL rN).at p_places, sAny, sAny] [] _ _ _ := hE47
    refine x_ret ?_
    refine x_c ?_
    have hf := Option.some.inj hf
    subst hf
    exact q _ _ _ hE48.ex rfl
end
abbrev s_after_round : Stmt := topS 19
theorem sc_after_round : FnScope ["state", "shown", "painted", "tokens", "place"] ["state", "shown", "painted"] (defScope s_after_round) := ⟨rfl, rfl, rfl, by decide +kernel, rfl, by decide +kernel, by decide +kernel⟩
def f_after_round (p_state : (List Nat)) (p_shown : (List Nat)) (p_painted : (List Nat)) : Option ((Option (List Nat))) :=
  (loopO (S := (List Nat)) (T := (Option (List Nat))) (fun s11 (x12 : Nat) =>
    if (decide (x12 ∈ p_painted)) = true then
      (gd (x12 < s11.length)).bind fun _ =>
      some (Stp.nx (s11.set x12 0))
    else
      (s11[x12]?).bind fun x30 =>
      if (decide (x30 = 1)) = true then
        some (Stp.rt (none : (Option (List Nat))))
      else
        (s11[x12]?).bind fun x34 =>
        (gd (1 ≤ x34)).bind fun _ =>
        (gd (x12 < s11.length)).bind fun _ =>
        some (Stp.nx (s11.set x12 (x34 - 1)))) p_shown p_state).bind fun x23 =>
  match x23 with
  | .rt t => some t
  | .bk _ => none
  | .nx x23s =>
    some (some x23s)
def q_after_round (TL : List (Addr × Str)) : Sp := fun vs H Q _ => ∃ (F : Hp) (v_state : V) (p_state : (List Nat)) (v_shown : V) (p_shown : (List Nat)) (v_painted : V) (p_painted : (List Nat)) (rr : (Option (List Nat))), vs = [v_state, v_shown, v_painted] ∧ Same F H ∧ NoT F ∧ (rU rN).r F v_state p_state ∧ (rL rN).r F v_shown p_shown ∧ (rL rN).r F v_painted p_painted ∧ f_after_round p_state p_shown p_painted = some rr ∧ ∀ v F' H', Ext ⟨[], TL⟩ F H F' H' → (rO (rU rN)).r F' v rr → Q v H'
section
variable {P : Program} {w : World} {K : PySem.W.Frag} {mg : Str → Option Value} {base : Heap}
theorem t_after_round (T : Tx mg) (F : DefAt K mg "after_round" s_after_round ["state", "shown", "painted"]) : Cal P w K mg base CX0 1 "after_round" (q_after_round TL) := by
  refine F.cal sc_after_round (fun vs H Q E h => ?_) (fun f cdv A outer s H vs Q E hr h => ?_)
  · obtain ⟨_, _, _, _, _, _, _, _, rfl, _⟩ := h
    rfl
  · obtain ⟨F, v_state, p_state, v_shown, p_shown, v_painted, p_painted, rr, rfl, sm0, nt0, r_state, r_shown, r_painted, hf, q⟩ := h
    have hf : _ = some rr := hf
    unfold f_after_round at hf
    refine ⟨_, (pss_cons (ps_set (i := 3) sc_after_round.nd rfl (Or.inl rfl) (pe_callTy (cl_listOf K) (by rfl) T.z_list (by decide +kernel) (pa_cons (pv 0) pa_nil)))
      (pss_cons (ps_for PassesOwn.never rfl (k_pil K (pv 1)) (pg_name (i := 4) sc_after_round.nd rfl (Or.inl rfl))
        (pss_one (ps_if (pt_cmpR (k_in K) (pv 4) (pv 2) (by first | exact nomark _ | rfl))
        (pss_one (ps_asg pe_int (pg_sub (pv 3) (pv 4) set_list))) (pss_one (ps_if (pt_cmpR op_eq (pe_ix (ix_l K) (pv 3) (pv 4) (fun _ _ => rfl)) pe_int (nomark _))
        (pss_one (ps_ret pe_non)) (pss_one (ps_augS (pv 3) (pv 4) (k_getN K) pe_int ip_sub set_list)))))))
      (pss_one (ps_ret (pe_callTy (cl_tupOf K) (by rfl) T.z_tuple (by decide +kernel) (pa_cons (pv 3) pa_nil)))))), ?_⟩
    have hE0 : Wst ⟨[], TL⟩ F H [(rU rN).at p_state, (rL rN).at p_shown, (rL rN).at p_painted, sAny, sAny] [] (start ["state", "shown", "painted", "tokens", "place"] [v_state, v_shown, v_painted]) F H := Wst.start (vs := [v_state, v_shown, v_painted]) (n := 2) (ss := [(rU rN).at p_state, (rL rN).at p_shown, (rL rN).at p_painted]) (cs := []) sm0 nt0 (fun p hp => by cases hp) List.nodup_nil (.cons ⟨_, rfl, r_state⟩ (.cons ⟨_, rfl, r_shown⟩ (.cons ⟨_, rfl, r_painted⟩ .nil)))
    revert hE0
    generalize start ["state", "shown", "painted", "tokens", "place"] [v_state, v_shown, v_painted] = σ0
    intro hE0
    refine x_seq ?_
    refine x_asg ?_
    refine x_cb ?_
    refine x_cons ?_
    refine w_var hE0 (i := 0) rfl fun v1 r2 => ?_
    refine x_nil ?_
    refine w_listUC hE0 (uv_f hE0.fh r2) fun c3 _ o4 hE5 => ?_
    have hE6 : Wst ⟨[], TL⟩ _ _ [(rU rN).at p_state, (rL rN).at p_shown, (rL rN).at p_painted, sAny, sAny] [(c3, cL rN p_state)] _ _ _ := hE5
    refine w_nameC (ss' := [(rU rN).at p_state, (rL rN).at p_shown, (rL rN).at p_painted, sRef c3, sAny]) hE6 rfl fun _ hE7 => ?_
    refine x_seq ?_
    refine x_for ?_
    refine x_il ?_
    refine w_var hE7 (i := 1) rfl fun v8 r9 => ?_
    refine w_il (lv_f hE7.fh r9) fun a10 ea => ?_
    cases ea
    have hE21 : Wst ⟨[], TL⟩ _ _ [(rU rN).at p_state, (rL rN).at p_shown, (rL rN).at p_painted, sRef c3, sAny] [(c3, cL rN p_state)] _ _ _ := hE7
    obtain ⟨x23, hx23, hf⟩ := bnd hf
    refine w_forS 0 (fun (s11 : (List Nat)) (ad19 : Nat → Addr) => [(rU rN).at p_state, (rL rN).at p_shown, (rL rN).at p_painted, sRef c3, sAny]) (fun (s11 : (List Nat)) (ad19 : Nat → Addr) => [(c3, cL rN s11)]) hx23 adZ no_ad hE21 (fun _ ad19 _ _ _ sm w40 => jok_l w40.fh w40.nt (lv_f w40.fh ((rL rN).mono sm r9))) (fun s11 ad19 x12 v13 o14 _ _ _ ha20 s15 r16 hE17 hb18 hrx23 hkx23 => ?_) (fun x23s ad19 _ _ _ eex23 ha20 s41 hE42 => ?_)
    · have hE22 : Wst ⟨[], TL⟩ _ _ [(rU rN).at p_state, (rL rN).at p_shown, (rL rN).at p_painted, sRef c3, sAny] [(c3, cL rN s11)] _ _ _ := hE17
      obtain rfl := (show v13 = (V.int ((x12 : Nat) : Int)) from r16)
      refine w_name (R := rN) (ss' := [(rU rN).at p_state, (rL rN).at p_shown, (rL rN).at p_painted, sRef c3, rN.at x12]) hE22 rfl rfl fun _ hE24 => ?_
      refine x_ifs ?_
      refine x_test ?_
      refine x_op ?_
      refine w_vN hE24 (i := 4) rfl ?_
      refine w_var hE24 (i := 2) rfl fun v25 r26 => ?_
      refine w_inN (lv_f hE24.fh r26) ?_
      refine x_bl ?_
      refine x_itb (fun hc27 => ?_) (fun hc27 => ?_)
      · have hb18 := ite_t hb18 hc27
        refine x_asg ?_
        refine w_cN 0 ?_
        refine x_sub ?_
        refine w_ref hE24 (i := 3) rfl ?_
        refine w_vN hE24 (i := 4) rfl ?_
        obtain ⟨_, u28, hb18⟩ := bnd hb18
        have u28 := gd_ok u28
        refine w_set hE24 (k := 0) (a := 0) rfl u28 rfl (cs' := [(c3, cL rN (s11.set x12 0))]) rfl fun _ hE29 => ?_
        have hb18 := Option.some.inj hb18
        subst hb18
        exact ⟨_, rfl, ⟨adZ, _, no_ad, s15, (hE29.toAny 4)⟩⟩
      · have hb18 := ite_f hb18 hc27
        refine x_ifs ?_
        refine x_test ?_
        refine x_op ?_
        refine x_op ?_
        refine w_ref hE24 (i := 3) rfl ?_
        refine w_vN hE24 (i := 4) rfl ?_
        obtain ⟨x30, hx30, hb18⟩ := bnd hb18
        refine w_ix (lv_c hE24 (k := 0) rfl) hx30 fun v31 r32 => ?_
        obtain rfl := (show v31 = (V.int ((x30 : Nat) : Int)) from r32)
        refine w_cN 1 ?_
        refine w_eqN ?_
        refine x_bl ?_
        refine x_itb (fun hc33 => ?_) (fun hc33 => ?_)
        · have hb18 := ite_t hb18 hc33
          refine x_ret ?_
          refine x_c ?_
          have hb18 := Option.some.inj hb18
          subst hb18
          cases (hrx23 _ rfl)
          have hf := Option.some.inj hf
          subst hf
          exact q _ _ _ hE24.ex rfl
        · have hb18 := ite_f hb18 hc33
          refine x_augS ?_
          refine w_ref hE24 (i := 3) rfl ?_
          refine w_vN hE24 (i := 4) rfl ?_
          obtain ⟨x34, hx34, hb18⟩ := bnd hb18
          refine w_getN hE24 (k := 0) rfl hx34 fun v35 r36 => ?_
          obtain rfl := (show v35 = (V.int ((x34 : Nat) : Int)) from r36)
          refine w_cN 1 ?_
          obtain ⟨_, u37, hb18⟩ := bnd hb18
          have u37 := gd_ok u37
          refine w_ipS u37 ?_
          obtain ⟨_, u38, hb18⟩ := bnd hb18
          have u38 := gd_ok u38
          refine w_set hE24 (k := 0) (a := (x34 - 1)) rfl u38 rfl (cs' := [(c3, cL rN (s11.set x12 (x34 - 1)))]) rfl fun _ hE39 => ?_
          have hb18 := Option.some.inj hb18
          subst hb18
          exact ⟨_, rfl, ⟨adZ, _, no_ad, s15, (hE39.toAny 4)⟩⟩
    subst eex23
    have hE43 : Wst ⟨[], TL⟩ _ _ [(rU rN).at p_state, (rL rN).at p_shown, (rL rN).at p_painted, sRef c3, sAny] [(c3, cL rN x23s)] _ _ _ := hE42
    refine x_ret ?_
    refine x_cb ?_
    refine x_cons ?_
    refine w_ref hE43 (i := 3) rfl ?_
    refine x_nil ?_
    refine w_tupOf hE43 (lv_c hE43 (k := 0) rfl) fun v44 _ _ s45 hE47 r46 => ?_
    have hf := Option.some.inj hf
    subst hf
    exact q _ _ _ hE47.ex (ro_some r46)
end
abbrev s_best_painting : Stmt := topS 22
theorem sc_best_painting : FnScope ["beside", "state", "shown", "known", "painted", "after"] ["beside", "state", "shown", "known"] (defScope s_best_painting) := ⟨rfl, rfl, rfl, by decide +kernel, rfl, by decide +kernel, by decide +kernel⟩
def f_best_painting (Fv : (List (List Nat)) → (List Nat) → (List ((List Nat) × Bool)) → Option (Bool × (List ((List Nat) × Bool)))) (p_beside : (List (List Nat))) (p_state : (List Nat)) (p_shown : (List Nat)) (U_known : (List ((List Nat) × Bool))) : Option ((Option (List Nat)) × (List ((List Nat) × Bool))) :=
  (f_subsets p_shown).bind fun x3 =>
  (f_longest_first x3).bind fun x8 =>
  (loopO (S := (List ((List Nat) × Bool))) (T := ((Option (List Nat)) × (List ((List Nat) × Bool)))) (fun s14 (x15 : (List Nat)) =>
    (f_are_apart p_beside x15).bind fun x32 =>
    if x32 = true then
      (f_after_round p_state p_shown x15).bind fun x44 =>
      (if x44.isSome = true then (
          (x44).bind fun x59 =>
          (Fv p_beside x59 s14).bind fun x61 =>
          some (x61.1, x61.2)
        ) else some (false, s14)).bind fun b69 =>
      if b69.1 = true then
        some (Stp.rt ((some x15), b69.2))
      else
        some (Stp.nx b69.2)
    else
      some (Stp.nx s14)) x8 U_known).bind fun x26 =>
  match x26 with
  | .rt t => some t
  | .bk _ => none
  | .nx x26s =>
    some ((none : (Option (List Nat))), x26s)
def q_painter_wins (TL : List (Addr × Str)) (Fv : (List (List Nat)) → (List Nat) → (List ((List Nat) × Bool)) → Option (Bool × (List ((List Nat) × Bool)))) : Sp := fun vs H Q _ => ∃ (F : Hp) (v_beside : V) (p_beside : (List (List Nat))) (v_tokens : V) (p_tokens : (List Nat)) (u : Addr) (U : (List ((List Nat) × Bool))) (rr : Bool × (List ((List Nat) × Bool))), vs = [v_beside, v_tokens, V.ref u] ∧ Same F H ∧ NoT F ∧ LamX.Tabs TL H ∧ F u = none ∧ (∃ o, H u = some o ∧ (cDT rB U).p F o) ∧ (rL (rL rN)).r F v_beside p_beside ∧ (rU rN).r F v_tokens p_tokens ∧ Fv p_beside p_tokens U = some rr ∧ ∀ v F' H', Ext ⟨[u], TL⟩ F H F' H' → (∃ o, H' u = some o ∧ (cDT rB rr.2).p F' o) → rB.r F' v rr.1 → Q v H'
def q_best_painting (TL : List (Addr × Str)) (Fv : (List (List Nat)) → (List Nat) → (List ((List Nat) × Bool)) → Option (Bool × (List ((List Nat) × Bool)))) : Sp := fun vs H Q _ => ∃ (F : Hp) (v_beside : V) (p_beside : (List (List Nat))) (v_state : V) (p_state : (List Nat)) (v_shown : V) (p_shown : (List Nat)) (u : Addr) (U : (List ((List Nat) × Bool))) (rr : (Option (List Nat)) × (List ((List Nat) × Bool))), vs = [v_beside, v_state, v_shown, V.ref u] ∧ Same F H ∧ NoT F ∧ LamX.Tabs TL H ∧ F u = none ∧ (∃ o, H u = some o ∧ (cDT rB U).p F o) ∧ (rL (rL rN)).r F v_beside p_beside ∧ (rU rN).r F v_state p_state ∧ (rL rN).r F v_shown p_shown ∧ f_best_painting Fv p_beside p_state p_shown U = some rr ∧ ∀ v F' H', Ext ⟨[u], TL⟩ F H F' H' → (∃ o, H' u = some o ∧ (cDT rB rr.2).p F' o) → (rO (rNw H (rL rN))).r F' v rr.1 → Q v H'
section
variable {P : Program} {w : World} {K : PySem.W.Frag} {mg : Str → Option Value} {base : Heap}
theorem t_best_painting (T : Tx mg) (F : DefAt K mg "best_painting" s_best_painting ["beside", "state", "shown", "known"]) (c_subsets : Cal P w K mg base CX0 1 "subsets" (q_subsets TL)) (c_longest_first : Cal P w K mg base CX0 4 "longest_first" (q_longest_first TL)) (c_are_apart : Cal P w K mg base CX0 1 "are_apart" (q_are_apart TL)) (c_after_round : Cal P w K mg base CX0 1 "after_round" (q_after_round TL)) {kv : Nat} {Fv : (List (List Nat)) → (List Nat) → (List ((List Nat) × Bool)) → Option (Bool × (List ((List Nat) × Bool)))} (hkv : 4 ≤ kv) (c_painter_wins : Cal P w K mg base CX0 kv "painter_wins" (q_painter_wins TL Fv)) : Cal P w K mg base CX0 (kv + 1) "best_painting" (q_best_painting TL Fv) := by
  refine F.cal sc_best_painting (fun vs H Q E h => ?_) (fun f cdv A outer s H vs Q E hr h => ?_)
  · obtain ⟨_, _, _, _, _, _, _, _, _, _, rfl, _⟩ := h
    rfl
  · obtain ⟨F, v_beside, p_beside, v_state, p_state, v_shown, p_shown, u_known, U_known, rr, rfl, sm0, nt0, tb0, ap, uc, r_beside, r_state, r_shown, hf, q⟩ := h
    have hf : _ = some rr := hf
    unfold f_best_painting at hf
    refine ⟨_, (pss_cons (ps_for PassesOwn.never rfl (k_pil K (pe_cal c_longest_first hr (by omega) rfl pass0 (pa_cons (pe_cal c_subsets hr (by omega) rfl pass0 (pa_cons (pv 2) pa_nil)) pa_nil))) (pg_name (i := 4) sc_best_painting.nd rfl (Or.inl rfl))
        (pss_one (ps_if (pt_val (pe_cal c_are_apart hr (by omega) rfl pass0 (pa_cons (pv 0) (pa_cons (pv 4) pa_nil))))
        (pss_cons (ps_set (i := 5) sc_best_painting.nd rfl (Or.inl rfl) (pe_cal c_after_round hr (by omega) rfl pass0 (pa_cons (pv 1) (pa_cons (pv 2) (pa_cons (pv 4) pa_nil)))))
      (pss_one (ps_if (PW.pt (pw_and (pt_cmpR k_notN (pv 5) pe_non (nomark _)) (pw_and1 (pt_val (pe_cal c_painter_wins hr (by omega) rfl pass0 (pa_cons (pv 0) (pa_cons (pv 5) (pa_cons (pv 3) pa_nil))))))))
        (pss_one (ps_ret (pv 4))) pss_nil))) pss_nil)))
      (pss_one (ps_ret pe_non))), ?_⟩
    have hE0 : Wst ⟨[u_known], TL⟩ F H [(rL (rL rN)).at p_beside, (rU rN).at p_state, (rL rN).at p_shown, sRef u_known, sAny, sAny] [(u_known, cDT rB U_known)] (start ["beside", "state", "shown", "known", "painted", "after"] [v_beside, v_state, v_shown, V.ref u_known]) F H := Wst.start (vs := [v_beside, v_state, v_shown, V.ref u_known]) (n := 2) (ss := [(rL (rL rN)).at p_beside, (rU rN).at p_state, (rL rN).at p_shown, sRef u_known]) (cs := [(u_known, cDT rB U_known)]) sm0 nt0 (fun p hp => by rw [List.mem_singleton.mp hp]; exact ⟨uc, ap, List.mem_singleton.mpr rfl⟩) (List.nodup_cons.mpr ⟨(fun z => by cases z), List.nodup_nil⟩) (.cons ⟨_, rfl, r_beside⟩ (.cons ⟨_, rfl, r_state⟩ (.cons ⟨_, rfl, r_shown⟩ (.cons rfl .nil))))
    revert hE0
    generalize start ["beside", "state", "shown", "known", "painted", "after"] [v_beside, v_state, v_shown, V.ref u_known] = σ0
    intro hE0
    refine x_seq ?_
    refine x_for ?_
    refine x_il ?_
    refine x_call ?_
    refine x_cons ?_
    refine x_call ?_
    refine x_cons ?_
    refine w_var hE0 (i := 2) rfl fun v1 r2 => ?_
    refine x_nil ?_
    obtain ⟨x3, hx3, hf⟩ := bnd hf
    refine ⟨_, v1, p_shown, x3, rfl, hE0.fh, hE0.nt, r2, hx3, fun v6 _ _ e4 r5 => ?_⟩
    have hE7 : Wst ⟨[u_known], TL⟩ _ _ [(rL (rL rN)).at p_beside, (rU rN).at p_state, (rL rN).at p_shown, sRef u_known, sAny, sAny] [(u_known, cDT rB U_known)] _ _ _ := hE0.grow e4
    refine x_nil ?_
    obtain ⟨x8, hx8, hf⟩ := bnd hf
    refine ⟨_, H, v6, x3, x8, rfl, hE7.fh, hE7.nt, (hE7.tb tb0), (fun a e => hE7.own e), ((wkL (wkN hE0.own wkI)) _ _ _ r5), hx8, fun v11 _ _ e9 r10 => ?_⟩
    have hE12 : Wst ⟨[u_known], TL⟩ _ _ [(rL (rL rN)).at p_beside, (rU rN).at p_state, (rL rN).at p_shown, sRef u_known, sAny, sAny] [(u_known, cDT rB U_known)] _ _ _ := hE7.grow e9
    refine w_il (lv_f hE12.fh r10) fun a13 ea => ?_
    cases ea
    have hE24 : Wst ⟨[u_known], TL⟩ _ _ [(rL (rL rN)).at p_beside, (rU rN).at p_state, (rL rN).at p_shown, sRef u_known, sAny, sAny] [(u_known, cDT rB U_known)] _ _ _ := hE12
    obtain ⟨x26, hx26, hf⟩ := bnd hf
    refine w_forS 0 (fun (s14 : (List ((List Nat) × Bool))) (ad22 : Nat → Addr) => [(rL (rL rN)).at p_beside, (rU rN).at p_state, (rL rN).at p_shown, sRef u_known, sAny, sAny]) (fun (s14 : (List ((List Nat) × Bool))) (ad22 : Nat → Addr) => [(u_known, cDT rB s14)]) hx26 adZ no_ad hE24 (fun _ ad22 _ _ _ sm w76 => jok_l w76.fh w76.nt (lv_f w76.fh ((rL (rNw H (rL rN))).mono sm r10))) (fun s14 ad22 x15 v16 o17 _ _ _ ha23 s18 r19 hE20 hb21 hrx26 hkx26 => ?_) (fun x26s ad22 _ _ _ eex26 ha23 s77 hE78 => ?_)
    · have hE25 : Wst ⟨[u_known], TL⟩ _ _ [(rL (rL rN)).at p_beside, (rU rN).at p_state, (rL rN).at p_shown, sRef u_known, sAny, sAny] [(u_known, cDT rB s14)] _ _ _ := hE20
      refine w_name (R := (rNw H (rL rN))) (ss' := [(rL (rL rN)).at p_beside, (rU rN).at p_state, (rL rN).at p_shown, sRef u_known, (rNw H (rL rN)).at x15, sAny]) hE25 rfl ⟨(r19).1, (r19).2⟩ fun _ hE27 => ?_
      refine x_ifs ?_
      refine x_B ?_
      refine x_call ?_
      refine x_cons ?_
      refine w_var hE27 (i := 0) rfl fun v28 r29 => ?_
      refine x_cons ?_
      refine w_var hE27 (i := 4) rfl fun v30 r31 => ?_
      refine x_nil ?_
      obtain ⟨x32, hx32, hb21⟩ := bnd hb21
      refine ⟨_, v28, p_beside, v30, x15, x32, rfl, hE27.fh, hE27.nt, r29, (r31).1, hx32, fun v35 _ _ e33 r34 => ?_⟩
      have hE36 : Wst ⟨[u_known], TL⟩ _ _ [(rL (rL rN)).at p_beside, (rU rN).at p_state, (rL rN).at p_shown, sRef u_known, (rNw H (rL rN)).at x15, sAny] [(u_known, cDT rB s14)] _ _ _ := hE27.grow e33
      obtain rfl := (show v35 = (V.bl x32) from r34)
      refine x_bl ?_
      refine x_itb (fun hc37 => ?_) (fun hc37 => ?_)
      · have hb21 := ite_t hb21 hc37
        refine x_seq ?_
        refine x_asg ?_
        refine x_call ?_
        refine x_cons ?_
        refine w_var hE36 (i := 1) rfl fun v38 r39 => ?_
        refine x_cons ?_
        refine w_var hE36 (i := 2) rfl fun v40 r41 => ?_
        refine x_cons ?_
        refine w_var hE36 (i := 4) rfl fun v42 r43 => ?_
        refine x_nil ?_
        obtain ⟨x44, hx44, hb21⟩ := bnd hb21
        refine ⟨_, v38, p_state, v40, p_shown, v42, x15, x44, rfl, hE36.fh, hE36.nt, r39, r41, (r43).1, hx44, fun v47 _ _ e45 r46 => ?_⟩
        have hE48 : Wst ⟨[u_known], TL⟩ _ _ [(rL (rL rN)).at p_beside, (rU rN).at p_state, (rL rN).at p_shown, sRef u_known, (rNw H (rL rN)).at x15, sAny] [(u_known, cDT rB s14)] _ _ _ := hE36.grow e45
        refine w_name (R := (rO (rU rN))) (ss' := [(rL (rL rN)).at p_beside, (rU rN).at p_state, (rL rN).at p_shown, sRef u_known, (rNw H (rL rN)).at x15, (rO (rU rN)).at x44]) hE48 rfl r46 fun _ hE49 => ?_
        refine x_ifs ?_
        obtain ⟨b69, h70, hb21⟩ := bnd hb21
        refine w_andS (fun U71 => [(u_known, cDT rB U71)]) hE49 (ca := x44.isSome) h70 (fun _ q0 => ?_) (fun _ _ s54 hE53 _ hkk52 _ q0 => ?_) (fun _ _ s67 hE68 => ?_)
        · refine x_test ?_
          refine x_op ?_
          refine w_var hE49 (i := 5) rfl fun v50 r51 => ?_
          refine x_c ?_
          refine w_isnotN nn_U r51 ?_
          refine x_bl ?_
          exact q0 _ _ (Same.refl _) hE49
        · refine x_B ?_
          refine x_call ?_
          refine x_cons ?_
          refine w_var hE53 (i := 0) rfl fun v55 r56 => ?_
          refine x_cons ?_
          refine w_var hE53 (i := 5) rfl fun v57 r58 => ?_
          refine x_cons ?_
          refine w_ref hE53 (i := 3) rfl ?_
          refine x_nil ?_
          obtain ⟨x59, hx59, hkk52⟩ := bnd hkk52
          have r60 := ro_s r58 hx59
          obtain ⟨x61, hx61, hkk52⟩ := bnd hkk52
          refine ⟨_, v55, p_beside, v57, x59, u_known, s14, x61, rfl, hE53.fh, hE53.nt, (hE53.tb tb0), hE53.apart (k := 0) rfl, hE53.cell (k := 0) rfl, r56, r60, hx61, fun v64 _ _ e62 w65 r63 => ?_⟩
          have hE66 : Wst ⟨[u_known], TL⟩ _ _ [(rL (rL rN)).at p_beside, (rU rN).at p_state, (rL rN).at p_shown, sRef u_known, (rNw H (rL rN)).at x15, (rO (rU rN)).at x44] [(u_known, cDT rB x61.2)] _ _ _ := hE53.call1 (k := 0) (A' := cDT rB x61.2) rfl e62 w65
          obtain rfl := (show v64 = (V.bl x61.1) from r63)
          refine x_bl ?_
          have hkk52 := Option.some.inj hkk52
          subst hkk52
          exact q0 _ _ ((Same.refl _).trans e62.ff) hE66
        have hE72 : Wst ⟨[u_known], TL⟩ _ _ [(rL (rL rN)).at p_beside, (rU rN).at p_state, (rL rN).at p_shown, sRef u_known, (rNw H (rL rN)).at x15, (rO (rU rN)).at x44] [(u_known, cDT rB b69.2)] _ _ _ := hE68
        refine x_itb (fun hc73 => ?_) (fun hc73 => ?_)
        · have hb21 := ite_t hb21 hc73
          refine x_ret ?_
          refine w_var hE72 (i := 4) rfl fun v74 r75 => ?_
          have hb21 := Option.some.inj hb21
          subst hb21
          cases (hrx26 _ rfl)
          have hf := Option.some.inj hf
          subst hf
          exact q _ _ _ hE72.ex (hE72.cell (k := 0) rfl) (ro_some ⟨(r75).1, (r75).2⟩)
        · have hb21 := ite_f hb21 hc73
          refine x_next ?_
          have hb21 := Option.some.inj hb21
          subst hb21
          exact ⟨_, rfl, ⟨adZ, _, no_ad, (((s18.trans e33.ff).trans e45.ff).trans s67), ((hE72.toAny 4).toAny 5)⟩⟩
      · have hb21 := ite_f hb21 hc37
        refine x_next ?_
        have hb21 := Option.some.inj hb21
        subst hb21
        exact ⟨_, rfl, ⟨adZ, _, no_ad, (s18.trans e33.ff), (hE36.toAny 4)⟩⟩
    subst eex26
    have hE79 : Wst ⟨[u_known], TL⟩ _ _ [(rL (rL rN)).at p_beside, (rU rN).at p_state, (rL rN).at p_shown, sRef u_known, sAny, sAny] [(u_known, cDT rB x26s)] _ _ _ := hE78
    refine x_ret ?_
    refine x_c ?_
    have hf := Option.some.inj hf
    subst hf
    exact q _ _ _ hE79.ex (hE79.cell (k := 0) rfl) rfl
end
abbrev s_painter_wins : Stmt := topS 21
theorem sc_painter_wins : FnScope ["beside", "tokens", "known", "state", "left", "shown", "place"] ["beside", "tokens", "known"] (defScope s_painter_wins) := ⟨rfl, rfl, rfl, by decide +kernel, rfl, by decide +kernel, by decide +kernel⟩
def f_painter_wins : Nat → (List (List Nat)) → (List Nat) → (List ((List Nat) × Bool)) → Option (Bool × (List ((List Nat) × Bool)))
  | 0, _, _, _ => none
  | fu + 1, p_beside, p_tokens, U_known =>
  (f_without_safe p_beside p_tokens).bind fun x5 =>
  (
    if (!(dgetT U_known x5).isSome) = true then
      (gd (x5.length < 2 ^ 62)).bind fun _ =>
      (compO (β := Nat) (fun (x25 : Nat) =>
        (x5[x25]?).bind fun x40 =>
        if (decide (0 < x40)) = true then
          some (some x25)
        else some none) (List.range x5.length)).bind fun x44 =>
      (gd (x44.length ≤ 100000)).bind fun _ =>
      (gd (U_known.length < 100000)).bind fun _ =>
      (f_subsets x44).bind fun x65 =>
      (f_shortest_first x65).bind fun x70 =>
      (loopO (S := (List ((List Nat) × Bool))) (T := Unit) (fun s76 (x77 : (List Nat)) =>
        (if (!eqD x77 ([] : List Nat)) = true then (
            ((f_best_painting (f_painter_wins fu)) p_beside x5 x77 s76).bind fun x105 =>
            some (x105.1.isNone, x105.2)
          ) else some (false, s76)).bind fun b113 =>
        if b113.1 = true then
          (gd (b113.2.length < 100000)).bind fun _ =>
          some (Stp.bk (dputT b113.2 x5 false))
        else
          some (Stp.nx b113.2)) x70 (dputT U_known x5 true)).bind fun x88 =>
      match x88 with
      | .rt _ => none
      | .bk x88s =>
        some x88s
      | .nx x88s =>
        some x88s
    else
      some U_known
    : Option ((List ((List Nat) × Bool)))).bind fun x14 =>
  (dgetT x14 x5).bind fun x132 =>
  some (x132, x14)
section
variable {P : Program} {w : World} {K : PySem.W.Frag} {mg : Str → Option Value} {base : Heap}
theorem t_painter_wins (T : Tx mg) (F : DefAt K mg "painter_wins" s_painter_wins ["beside", "tokens", "known"]) (c_without_safe : Cal P w K mg base CX0 1 "without_safe" (q_without_safe TL)) (c_subsets : Cal P w K mg base CX0 1 "subsets" (q_subsets TL)) (c_shortest_first : Cal P w K mg base CX0 4 "shortest_first" (q_shortest_first TL)) (Fb_best_painting : DefAt K mg "best_painting" s_best_painting ["beside", "state", "shown", "known"]) (c_longest_first : Cal P w K mg base CX0 4 "longest_first" (q_longest_first TL)) (c_are_apart : Cal P w K mg base CX0 1 "are_apart" (q_are_apart TL)) (c_after_round : Cal P w K mg base CX0 1 "after_round" (q_after_round TL)) : ∀ fu : Nat, Cal P w K mg base CX0 (2 * fu + 6) "painter_wins" (q_painter_wins TL (f_painter_wins fu)) := by
  intro fu
  induction fu with
  | zero =>
  show Cal P w K mg base CX0 (5 + 1) _ _
  refine F.cal sc_painter_wins (fun vs H Q E h => ?_) (fun f cdv A outer s H vs Q E hr h => ?_)
  · obtain ⟨_, _, _, _, _, _, _, _, rfl, _⟩ := h
    rfl
  · obtain ⟨F, v_beside, p_beside, v_tokens, p_tokens, u_known, U_known, rr, rfl, sm0, nt0, tb0, ap, uc, r_beside, r_tokens, hf, q⟩ := h
    rw [f_painter_wins] at hf
    cases hf
  | succ fu c_painter_wins =>
  rw [show 2 * (fu + 1) + 6 = (2 * fu + 7) + 1 by omega]
  have c_best_painting := t_best_painting T Fb_best_painting c_subsets c_longest_first c_are_apart c_after_round (by omega) c_painter_wins
  refine F.cal sc_painter_wins (fun vs H Q E h => ?_) (fun f cdv A outer s H vs Q E hr h => ?_)
  · obtain ⟨_, _, _, _, _, _, _, _, rfl, _⟩ := h
    rfl
  · obtain ⟨F, v_beside, p_beside, v_tokens, p_tokens, u_known, U_known, rr, rfl, sm0, nt0, tb0, ap, uc, r_beside, r_tokens, hf, q⟩ := h
    have hf : _ = some rr := hf
    rw [f_painter_wins] at hf
    refine ⟨_, (pss_cons (ps_set (i := 3) sc_painter_wins.nd rfl (Or.inr rfl) (pe_cal c_without_safe hr (by omega) rfl pass0 (pa_cons (pv 0) (pa_cons (pv 1) pa_nil))))
      (Evl.pss_cut (ps_if (pt_cmp (pc_dnotin (hu_of hr) (pv 3) (pv 2)))
        (pss_cons (ps_setLc (i := 4) (own := [("place", 6)]) (g := gName 6) rfl sc_painter_wins.nd rfl rfl (sw_true rfl rfl rfl (by decide +kernel)) (pi_range1 rfl T.z_range (pa_cons (pe_callB (cl_len K) (by rfl) T.z_len PySem.boot_len (pa_cons (pv 3) pa_nil)) pa_nil)) (blkOk_by (own := [("place", 6)]) (N := ["beside", "tokens", "known", "state", "left", "shown", "place"]) (sc := defScope s_painter_wins) (by decide +kernel)) (fun _ _ _ _ _ => (pg_name (i := 6) sc_painter_wins.nd rfl (Or.inl rfl))) (fun _ _ _ _ _ => pts_one (pt_cmpR op_gt (pe_ix (ix_t K) (pv 3) (pv 6) (fun _ _ => rfl)) pe_int (nomark _))) (fun _ _ _ _ _ => (pv 6)))
      (pss_cons (ps_dput (hu_of hr) (pv 2) (pv 3) pe_bl rfl)
      (pss_one (ps_for PassesOwn.never rfl (k_pil K (pe_cal c_shortest_first hr (by omega) rfl pass0 (pa_cons (pe_cal c_subsets hr (by omega) rfl pass0 (pa_cons (pv 4) pa_nil)) pa_nil))) (pg_name (i := 5) sc_painter_wins.nd rfl (Or.inl rfl))
        (pss_one (ps_if (PW.pt (pw_and (pt_cmpR (k_neD K hr.units) (pv 5) (pe_lst pa_nil) (nomark _)) (pw_and1 (pt_cmpR k_isN (pe_cal c_best_painting hr (by omega) rfl pass0 (pa_cons (pv 0) (pa_cons (pv 3) (pa_cons (pv 5) (pa_cons (pv 2) pa_nil))))) pe_non (nomark _)))))
        (pss_cons (ps_dput (hu_of hr) (pv 2) (pv 3) pe_bl rfl)
      (pss_one ps_break)) pss_nil)))))) pss_nil)
      (pss_one (ps_ret (pe_dget (hu_of hr) (pv 2) (pv 3) (fun _ _ => rfl)))))), ?_⟩
    have hE0 : Wst ⟨[u_known], TL⟩ F H [(rL (rL rN)).at p_beside, (rU rN).at p_tokens, sRef u_known, sAny, sAny, sAny, sAny] [(u_known, cDT rB U_known)] (start ["beside", "tokens", "known", "state", "left", "shown", "place"] [v_beside, v_tokens, V.ref u_known]) F H := Wst.start (vs := [v_beside, v_tokens, V.ref u_known]) (n := 4) (ss := [(rL (rL rN)).at p_beside, (rU rN).at p_tokens, sRef u_known]) (cs := [(u_known, cDT rB U_known)]) sm0 nt0 (fun p hp => by rw [List.mem_singleton.mp hp]; exact ⟨uc, ap, List.mem_singleton.mpr rfl⟩) (List.nodup_cons.mpr ⟨(fun z => by cases z), List.nodup_nil⟩) (.cons ⟨_, rfl, r_beside⟩ (.cons ⟨_, rfl, r_tokens⟩ (.cons rfl .nil)))
    revert hE0
    generalize start ["beside", "tokens", "known", "state", "left", "shown", "place"] [v_beside, v_tokens, V.ref u_known] = σ0
    intro hE0
    refine x_seq ?_
    refine x_asg ?_
    refine x_call ?_
    refine x_cons ?_
    refine w_var hE0 (i := 0) rfl fun v1 r2 => ?_
    refine x_cons ?_
    refine w_var hE0 (i := 1) rfl fun v3 r4 => ?_
    refine x_nil ?_
    obtain ⟨x5, hx5, hf⟩ := bnd hf
    refine ⟨_, v1, p_beside, v3, p_tokens, x5, rfl, hE0.fh, hE0.nt, r2, r4, hx5, fun v8 _ _ e6 r7 => ?_⟩
    have hE9 : Wst ⟨[u_known], TL⟩ _ _ [(rL (rL rN)).at p_beside, (rU rN).at p_tokens, sRef u_known, sAny, sAny, sAny, sAny] [(u_known, cDT rB U_known)] _ _ _ := hE0.grow e6
    refine w_name (R := (rU rN)) (ss' := [(rL (rL rN)).at p_beside, (rU rN).at p_tokens, sRef u_known, (rU rN).at x5, sAny, sAny, sAny]) hE9 rfl r7 fun _ hE10 => ?_
    obtain ⟨x14, hx14, hf⟩ := bnd hf
    refine w_cut 0 (fun (s11 : (List ((List Nat) × Bool))) (ad12 : Nat → Addr) => [(rL (rL rN)).at p_beside, (rU rN).at p_tokens, sRef u_known, (rU rN).at x5, sAny, sAny, sAny]) (fun (s11 : (List ((List Nat) × Bool))) (ad12 : Nat → Addr) => [(u_known, cDT rB s11)]) x14 hE10 ?_ (fun ad12 _ _ _ ha13 s127 hE128 => ?_)
    · refine x_ifs ?_
      refine x_test ?_
      refine x_dnin ?_
      refine w_var hE10 (i := 3) rfl fun v15 r16 => ?_
      refine w_ref hE10 (i := 2) rfl ?_
      refine w_dmemT hE10.fh r16 (dwt_c hE10 (k := 0) rfl) fun o17 e18 => ?_
      rw [e18]
      refine x_bl ?_
      refine x_itb (fun hc19 => ?_) (fun hc19 => ?_)
      · have hx14 := ite_t hx14 hc19
        refine x_seq ?_
        refine x_asg ?_
        refine x_lc ?_
        refine x_rg1 ?_
        refine x_cons ?_
        refine x_cb ?_
        refine x_cons ?_
        refine w_var hE10 (i := 3) rfl fun v20 r21 => ?_
        refine x_nil ?_
        refine w_lenU (uv_f hE10.fh r21) ?_
        refine x_nil ?_
        obtain ⟨_, u22, hx14⟩ := bnd hx14
        have u22 := gd_ok u22
        refine w_r1 u22 ?_
        obtain ⟨x44, hx44, hx14⟩ := bnd hx14
        obtain ⟨_, u45, hx14⟩ := bnd hx14
        have u45 := gd_ok u45
        intro c23 d24
        refine w_lc (B := rN) hx44 u45 hE10 d24 (fun _ _ _ sm w51 => jok_r0 w51.fh w51.nt) (fun x25 v27 o28 ac35 _ _ s29 r30 hE31 hb32 z33 ew34 => ?_) (fun _ _ o48 s49 hE50 => ?_)
        · have hE31 : Wst ⟨[u_known], TL⟩ _ _ [(rL (rL rN)).at p_beside, (rU rN).at p_tokens, sRef u_known, (rU rN).at x5, sAny, sAny, sAny] [(c23, cL rN ac35), (u_known, cDT rB U_known)] _ _ _ := hE31
          refine w_nameW (ss' := [(rL (rL rN)).at p_beside, (rU rN).at p_tokens, sRef u_known, (rU rN).at x5, sAny, sAny, rN.at x25]) hE31 rfl r30 (by decide) ew34 fun _ ew37 hE36 => ?_
          refine ⟨ew37, ?_⟩
          refine x_test ?_
          refine x_op ?_
          refine x_op ?_
          refine w_var hE36 (i := 3) rfl fun v38 r39 => ?_
          refine w_vN hE36 (i := 6) rfl ?_
          obtain ⟨x40, hx40, hb32⟩ := bnd hb32
          refine w_ixU (uv_f hE36.fh r39) hx40 fun v41 r42 => ?_
          obtain rfl := (show v41 = (V.int ((x40 : Nat) : Int)) from r42)
          refine w_cN 0 ?_
          refine w_gtN ?_
          refine x_bl ?_
          refine x_itb (fun hc43 => ?_) (fun hc43 => ?_)
          · have hb32 := ite_t hb32 hc43
            refine w_vN hE36 (i := 6) rfl ?_
            have hb32 := Option.some.inj hb32
            subst hb32
            exact w_acc (s := ()) hE36 s29 rfl z33 ew37 rfl
          · have hb32 := ite_f hb32 hc43
            have hb32 := Option.some.inj hb32
            subst hb32
            exact w_skip (s := ()) hE36 s29 ew37 rfl
        have hE52 : Wst ⟨[u_known], TL⟩ _ _ [(rL (rL rN)).at p_beside, (rU rN).at p_tokens, sRef u_known, (rU rN).at x5, sAny, sAny, sAny] [(c23, cL rN x44), (u_known, cDT rB U_known)] _ _ _ := hE50
        obtain ⟨F53, s54, hE56, r55⟩ := hE52.freeze (k := 0) rfl o48
        have hE57 : Wst ⟨[u_known], TL⟩ _ _ [(rL (rL rN)).at p_beside, (rU rN).at p_tokens, sRef u_known, (rU rN).at x5, sAny, sAny, sAny] [(u_known, cDT rB U_known)] _ _ _ := hE56
        refine w_name (R := (rL rN)) (ss' := [(rL (rL rN)).at p_beside, (rU rN).at p_tokens, sRef u_known, (rU rN).at x5, (rL rN).at x44, sAny, sAny]) hE57 rfl r55 fun _ hE58 => ?_
        refine x_seq ?_
        refine x_dput ?_
        refine x_c ?_
        refine w_ref hE58 (i := 2) rfl ?_
        refine w_var hE58 (i := 3) rfl fun v59 r60 => ?_
        obtain ⟨_, u61, hx14⟩ := bnd hx14
        have u61 := gd_ok u61
        refine w_dputT hE58 (k := 0) (b := true) rfl r60 u61 rfl (cs' := [(u_known, cDT rB (dputT U_known x5 true))]) rfl fun _ hE62 => ?_
        refine x_for ?_
        refine x_il ?_
        refine x_call ?_
        refine x_cons ?_
        refine x_call ?_
        refine x_cons ?_
        refine w_var hE62 (i := 4) rfl fun v63 r64 => ?_
        refine x_nil ?_
        obtain ⟨x65, hx65, hx14⟩ := bnd hx14
        refine ⟨_, v63, x44, x65, rfl, hE62.fh, hE62.nt, r64, hx65, fun v68 _ _ e66 r67 => ?_⟩
        have hE69 : Wst ⟨[u_known], TL⟩ _ _ [(rL (rL rN)).at p_beside, (rU rN).at p_tokens, sRef u_known, (rU rN).at x5, (rL rN).at x44, sAny, sAny] [(u_known, cDT rB (dputT U_known x5 true))] _ _ _ := hE62.grow e66
        refine x_nil ?_
        obtain ⟨x70, hx70, hx14⟩ := bnd hx14
        refine ⟨_, H, v68, x65, x70, rfl, hE69.fh, hE69.nt, (hE69.tb tb0), (fun a e => hE69.own e), ((wkL (wkN hE62.own wkI)) _ _ _ r67), hx70, fun v73 _ _ e71 r72 => ?_⟩
        have hE74 : Wst ⟨[u_known], TL⟩ _ _ [(rL (rL rN)).at p_beside, (rU rN).at p_tokens, sRef u_known, (rU rN).at x5, (rL rN).at x44, sAny, sAny] [(u_known, cDT rB (dputT U_known x5 true))] _ _ _ := hE69.grow e71
        refine w_il (lv_f hE74.fh r72) fun a75 ea => ?_
        cases ea
        have hE86 : Wst ⟨[u_known], TL⟩ _ _ [(rL (rL rN)).at p_beside, (rU rN).at p_tokens, sRef u_known, (rU rN).at x5, (rL rN).at x44, sAny, sAny] [(u_known, cDT rB (dputT U_known x5 true))] _ _ _ := hE74
        obtain ⟨x88, hx88, hx14⟩ := bnd hx14
        refine w_forS 0 (fun (s76 : (List ((List Nat) × Bool))) (ad84 : Nat → Addr) => [(rL (rL rN)).at p_beside, (rU rN).at p_tokens, sRef u_known, (rU rN).at x5, (rL rN).at x44, sAny, sAny]) (fun (s76 : (List ((List Nat) × Bool))) (ad84 : Nat → Addr) => [(u_known, cDT rB s76)]) hx88 adZ no_ad hE86 (fun _ ad84 _ _ _ sm w123 => jok_l w123.fh w123.nt (lv_f w123.fh ((rL (rNw H (rL rN))).mono sm r72))) (fun s76 ad84 x77 v78 o79 _ _ _ ha85 s80 r81 hE82 hb83 hrx88 hkx88 => ?_) (fun x88s ad84 _ _ _ eex88 ha85 s124 hE125 => ?_)
        · have hE87 : Wst ⟨[u_known], TL⟩ _ _ [(rL (rL rN)).at p_beside, (rU rN).at p_tokens, sRef u_known, (rU rN).at x5, (rL rN).at x44, sAny, sAny] [(u_known, cDT rB s76)] _ _ _ := hE82
          refine w_name (R := (rL rN)) (ss' := [(rL (rL rN)).at p_beside, (rU rN).at p_tokens, sRef u_known, (rU rN).at x5, (rL rN).at x44, (rL rN).at x77, sAny]) hE87 rfl (r81).1 fun _ hE89 => ?_
          refine x_ifs ?_
          obtain ⟨b113, h114, hb83⟩ := bnd hb83
          refine w_andS (fun U115 => [(u_known, cDT rB U115)]) hE89 (ca := (!eqD x77 ([] : List Nat))) h114 (fun _ q0 => ?_) (fun _ _ s98 hE97 _ hkk96 _ q0 => ?_) (fun _ _ s111 hE112 => ?_)
          · refine x_test ?_
            refine x_op ?_
            refine w_var hE89 (i := 5) rfl fun v90 r91 => ?_
            refine m_lst ?_
            refine x_nil ?_
            refine w_lstF hE89 (R := rN) (l := ([] : List Nat)) (by show 0 ≤ 100000; decide) .nil fun v92 _ _ s93 hE95 r94 => ?_
            refine w_neD (dtL dtN) (a := x77) (b := ([] : List Nat)) (dv_l dtN hE95.fh (lv_f hE95.fh ((rL rN).mono s93 r91))) (dv_l dtN hE95.fh (lv_f hE95.fh r94)) ?_
            refine x_bl ?_
            exact q0 _ _ ((Same.refl _).trans s93) hE95
          · refine x_test ?_
            refine x_op ?_
            refine x_call ?_
            refine x_cons ?_
            refine w_var hE97 (i := 0) rfl fun v99 r100 => ?_
            refine x_cons ?_
            refine w_var hE97 (i := 3) rfl fun v101 r102 => ?_
            refine x_cons ?_
            refine w_var hE97 (i := 5) rfl fun v103 r104 => ?_
            refine x_cons ?_
            refine w_ref hE97 (i := 2) rfl ?_
            refine x_nil ?_
            obtain ⟨x105, hx105, hkk96⟩ := bnd hkk96
            refine ⟨_, v99, p_beside, v101, x5, v103, x77, u_known, s76, x105, rfl, hE97.fh, hE97.nt, (hE97.tb tb0), hE97.apart (k := 0) rfl, hE97.cell (k := 0) rfl, r100, r102, r104, hx105, fun v108 _ _ e106 w109 r107 => ?_⟩
            have hE110 : Wst ⟨[u_known], TL⟩ _ _ [(rL (rL rN)).at p_beside, (rU rN).at p_tokens, sRef u_known, (rU rN).at x5, (rL rN).at x44, (rL rN).at x77, sAny] [(u_known, cDT rB x105.2)] _ _ _ := hE97.call1 (k := 0) (A' := cDT rB x105.2) rfl e106 w109
            refine x_c ?_
            refine w_isN (nn_nw nn_L) ((wkO (wkN hE97.own wkI)) _ _ _ r107) ?_
            refine x_bl ?_
            have hkk96 := Option.some.inj hkk96
            subst hkk96
            exact q0 _ _ ((Same.refl _).trans e106.ff) hE110
          have hE116 : Wst ⟨[u_known], TL⟩ _ _ [(rL (rL rN)).at p_beside, (rU rN).at p_tokens, sRef u_known, (rU rN).at x5, (rL rN).at x44, (rL rN).at x77, sAny] [(u_known, cDT rB b113.2)] _ _ _ := hE112
          refine x_itb (fun hc117 => ?_) (fun hc117 => ?_)
          · have hb83 := ite_t hb83 hc117
            refine x_seq ?_
            refine x_dput ?_
            refine x_c ?_
            refine w_ref hE116 (i := 2) rfl ?_
            refine w_var hE116 (i := 3) rfl fun v118 r119 => ?_
            obtain ⟨_, u120, hb83⟩ := bnd hb83
            have u120 := gd_ok u120
            refine w_dputT hE116 (k := 0) (b := false) rfl r119 u120 rfl (cs' := [(u_known, cDT rB (dputT b113.2 x5 false))]) rfl fun _ hE121 => ?_
            refine x_break ?_
            have hb83 := Option.some.inj hb83
            subst hb83
            cases (hkx88 _ rfl)
            have hE122 : Wst ⟨[u_known], TL⟩ _ _ [(rL (rL rN)).at p_beside, (rU rN).at p_tokens, sRef u_known, (rU rN).at x5, (rL rN).at x44, sAny, sAny] [(u_known, cDT rB (dputT b113.2 x5 false))] _ _ _ := (hE121.toAny 5)
            have hx14 := Option.some.inj hx14
            subst hx14
            exact ⟨adZ, _, no_ad, (((((((Same.refl _).trans s49).trans s54).trans e66.ff).trans e71.ff).trans s80).trans s111), (hE122.toAny 4)⟩
          · have hb83 := ite_f hb83 hc117
            refine x_next ?_
            have hb83 := Option.some.inj hb83
            subst hb83
            exact ⟨_, rfl, ⟨adZ, _, no_ad, (s80.trans s111), (hE116.toAny 5)⟩⟩
        subst eex88
        have hE126 : Wst ⟨[u_known], TL⟩ _ _ [(rL (rL rN)).at p_beside, (rU rN).at p_tokens, sRef u_known, (rU rN).at x5, (rL rN).at x44, sAny, sAny] [(u_known, cDT rB x88s)] _ _ _ := hE125
        have hx14 := Option.some.inj hx14
        subst hx14
        exact ⟨adZ, _, no_ad, ((((((Same.refl _).trans s49).trans s54).trans e66.ff).trans e71.ff).trans s124), (hE126.toAny 4)⟩
      · have hx14 := ite_f hx14 hc19
        refine x_next ?_
        have hx14 := Option.some.inj hx14
        subst hx14
        exact ⟨adZ, _, no_ad, (Same.refl _), hE10⟩
    have hE129 : Wst ⟨[u_known], TL⟩ _ _ [(rL (rL rN)).at p_beside, (rU rN).at p_tokens, sRef u_known, (rU rN).at x5, sAny, sAny, sAny] [(u_known, cDT rB x14)] _ _ _ := hE128
    refine x_ret ?_
    refine x_dget ?_
    refine w_ref hE129 (i := 2) rfl ?_
    refine w_var hE129 (i := 3) rfl fun v130 r131 => ?_
    obtain ⟨x132, hx132, hf⟩ := bnd hf
    refine w_dgetT hE129.fh r131 (dwt_c hE129 (k := 0) rfl) hx132 fun v133 r134 => ?_
    obtain rfl := (show v133 = (V.bl x132) from r134)
    have hf := Option.some.inj hf
    subst hf
    exact q _ _ _ hE129.ex (hE129.cell (k := 0) rfl) rfl
end
abbrev s_leader : Stmt := topS 24
theorem sc_leader : FnScope ["web", "tokens"] ["web", "tokens"] (defScope s_leader) := ⟨rfl, rfl, rfl, by decide +kernel, rfl, by decide +kernel, by decide +kernel⟩
def f_leader (p_web : Wb) (p_tokens : (List Nat)) : Option (Str) :=
  (f_check_lengths p_web p_tokens).bind fun x5 =>
  (f_beside_of p_web).bind fun x12 =>
  ((f_painter_wins 17) x12 p_tokens ([] : (List ((List Nat) × Bool)))).bind fun x37 =>
  if x37.1 = true then
    some ("painter")
  else
    some ("foe")
def q_leader (TL : List (Addr × Str)) (C_Web : Addr) : Sp := fun vs H Q _ => ∃ (F : Hp) (v_web : V) (p_web : Wb) (v_tokens : V) (p_tokens : (List Nat)) (rr : Str), vs = [v_web, v_tokens] ∧ Same F H ∧ NoT F ∧ LamX.Tabs TL H ∧ (rWb C_Web).r F v_web p_web ∧ (rL rN).r F v_tokens p_tokens ∧ f_leader p_web p_tokens = some rr ∧ ∀ v F' H', Ext ⟨[], TL⟩ F H F' H' → rSt.r F' v rr → Q v H'
section
variable {P : Program} {w : World} {K : PySem.W.Frag} {mg : Str → Option Value} {base : Heap}
theorem t_leader {C_Web : Addr} (T : Tx mg) (O_Web : Own K mg "Web" C_Web) (F : DefAt K mg "leader" s_leader ["web", "tokens"]) (c_check_lengths : Cal P w K mg base CX0 3 "check_lengths" (q_check_lengths TL C_Web)) (c_beside_of : Cal P w K mg base CX0 4 "beside_of" (q_beside_of TL C_Web)) (c_painter_wins : Cal P w K mg base CX0 40 "painter_wins" (q_painter_wins TL (f_painter_wins 17))) : Cal P w K mg base CX0 41 "leader" (q_leader TL C_Web) := by
  refine F.cal sc_leader (fun vs H Q E h => ?_) (fun f cdv A outer s H vs Q E hr h => ?_)
  · obtain ⟨_, _, _, _, _, _, rfl, _⟩ := h
    rfl
  · obtain ⟨F, v_web, p_web, v_tokens, p_tokens, rr, rfl, sm0, nt0, tb0, r_web, r_tokens, hf, q⟩ := h
    have hf : _ = some rr := hf
    unfold f_leader at hf
    refine ⟨_, (pss_cons (ps_expr (pe_cal c_check_lengths hr (by decide) rfl pass0 (pa_cons (pv 0) (pa_cons (pv 1) pa_nil))))
      (pss_cons (ps_if (pt_val (pe_cal c_painter_wins hr (by decide) rfl pass0 (pa_cons (pe_cal c_beside_of hr (by decide) rfl pass0 (pa_cons (pv 0) pa_nil)) (pa_cons (pe_callTy (cl_tupOf K) (by rfl) T.z_tuple (by decide +kernel) (pa_cons (pv 1) pa_nil)) (pa_cons pe_dnewT pa_nil)))))
        (pss_one (ps_ret pe_str)) pss_nil)
      (pss_one (ps_ret pe_str)))), ?_⟩
    have hE0 : Wst ⟨[], TL⟩ F H [(rWb C_Web).at p_web, (rL rN).at p_tokens] [] (start ["web", "tokens"] [v_web, v_tokens]) F H := Wst.start (vs := [v_web, v_tokens]) (n := 0) (ss := [(rWb C_Web).at p_web, (rL rN).at p_tokens]) (cs := []) sm0 nt0 (fun p hp => by cases hp) List.nodup_nil (.cons ⟨_, rfl, r_web⟩ (.cons ⟨_, rfl, r_tokens⟩ .nil))
    revert hE0
    generalize start ["web", "tokens"] [v_web, v_tokens] = σ0
    intro hE0
    refine x_seq ?_
    refine x_drop ?_
    refine x_call ?_
    refine x_cons ?_
    refine w_var hE0 (i := 0) rfl fun v1 r2 => ?_
    refine x_cons ?_
    refine w_var hE0 (i := 1) rfl fun v3 r4 => ?_
    refine x_nil ?_
    obtain ⟨x5, hx5, hf⟩ := bnd hf
    refine ⟨_, v1, p_web, v3, p_tokens, x5, rfl, hE0.fh, hE0.nt, r2, r4, hx5, fun v8 _ _ e6 r7 => ?_⟩
    have hE9 : Wst ⟨[], TL⟩ _ _ [(rWb C_Web).at p_web, (rL rN).at p_tokens] [] _ _ _ := hE0.grow e6
    obtain rfl := (show v8 = V.non from r7)
    refine x_seq ?_
    refine x_ifs ?_
    refine x_B ?_
    refine x_call ?_
    refine x_cons ?_
    refine x_call ?_
    refine x_cons ?_
    refine w_var hE9 (i := 0) rfl fun v10 r11 => ?_
    refine x_nil ?_
    obtain ⟨x12, hx12, hf⟩ := bnd hf
    refine ⟨_, v10, p_web, x12, rfl, hE9.fh, hE9.nt, r11, hx12, fun c15 _ _ e13 o16 p17 q18 => ?_⟩
    have hE19 : Wst ⟨[], TL⟩ _ _ [(rWb C_Web).at p_web, (rL rN).at p_tokens] [] _ _ _ := hE9.grow e13
    have o20 := hE9.own o16
    have hE21 : Wst ⟨[], TL⟩ _ _ [(rWb C_Web).at p_web, (rL rN).at p_tokens] [(c15, cL (rL rN) x12)] _ _ _ := hE19.addC (A := cL (rL rN) x12) o20 p17 q18 (hE9.fresh_ne o16)
    obtain ⟨F22, s23, hE25, r24⟩ := hE21.freeze (k := 0) rfl o20
    have hE26 : Wst ⟨[], TL⟩ _ _ [(rWb C_Web).at p_web, (rL rN).at p_tokens] [] _ _ _ := hE25
    refine x_cons ?_
    refine x_cb ?_
    refine x_cons ?_
    refine w_var hE26 (i := 1) rfl fun v27 r28 => ?_
    refine x_nil ?_
    refine w_tupOf hE26 (lv_f hE26.fh r28) fun v29 _ _ s30 hE32 r31 => ?_
    refine x_cons ?_
    refine w_dnewT (B := rB) hE32 fun c33 _ o34 hE35 => ?_
    have hE36 : Wst ⟨[], TL⟩ _ _ [(rWb C_Web).at p_web, (rL rN).at p_tokens] [(c33, cDT rB ([] : (List ((List Nat) × Bool))))] _ _ _ := hE35
    refine x_nil ?_
    obtain ⟨x37, hx37, hf⟩ := bnd hf
    refine ⟨_, (V.ref c15), x12, v29, p_tokens, c33, ([] : (List ((List Nat) × Bool))), x37, rfl, hE36.fh, hE36.nt, (hE36.tb tb0), hE36.apart (k := 0) rfl, hE36.cell (k := 0) rfl, ((rL (rL rN)).mono s30 r24), r31, hx37, fun v40 _ _ e38 w41 r39 => ?_⟩
    have hE42 : Wst ⟨[], TL⟩ _ _ [(rWb C_Web).at p_web, (rL rN).at p_tokens] [(c33, cDT rB x37.2)] _ _ _ := hE36.call1 (k := 0) (A' := cDT rB x37.2) rfl e38 w41
    have hE43 : Wst ⟨[], TL⟩ _ _ [(rWb C_Web).at p_web, (rL rN).at p_tokens] [] _ _ _ := hE42.dropC 0
    obtain rfl := (show v40 = (V.bl x37.1) from r39)
    refine x_bl ?_
    refine x_itb (fun hc44 => ?_) (fun hc44 => ?_)
    · have hf := ite_t hf hc44
      refine x_ret ?_
      refine x_c ?_
      have hf := Option.some.inj hf
      subst hf
      exact q _ _ _ hE43.ex rfl
    · have hf := ite_f hf hc44
      refine x_next ?_
      refine x_ret ?_
      refine x_c ?_
      have hf := Option.some.inj hf
      subst hf
      exact q _ _ _ hE43.ex rfl
end
abbrev s_l_subsets : Stmt := topS 34
theorem sc_l_subsets : FnScope ["places", "rows", "p", "row"] ["places"] (defScope s_l_subsets) := ⟨rfl, rfl, rfl, by decide +kernel, rfl, by decide +kernel, by decide +kernel⟩
def f_l_subsets (p_places : (List Nat)) : Option ((List (List Nat))) :=
  (foldO (fun (s13 : (List (List Nat))) (x14 : Nat) =>
    (compO (β := (List Nat)) (fun (x34 : (List Nat)) =>
      (gd (x34.length + [x14].length ≤ 100000)).bind fun _ =>
      some (some (x34 ++ [x14]))) s13).bind fun x58 =>
    (gd (x58.length ≤ 100000)).bind fun _ =>
    (gd (s13.length + x58.length ≤ 100000)).bind fun _ =>
    some (s13 ++ x58)) p_places [([] : List Nat)]).bind fun x25 =>
  some x25
def q_l_subsets (TL : List (Addr × Str)) : Sp := fun vs H Q _ => ∃ (F : Hp) (v_places : V) (p_places : (List Nat)) (rr : (List (List Nat))), vs = [v_places] ∧ Same F H ∧ NoT F ∧ (rL rN).r F v_places p_places ∧ f_l_subsets p_places = some rr ∧ ∀ v F' H', Ext ⟨[], TL⟩ F H F' H' → (rL (rL rN)).r F' v rr → Q v H'
section
variable {P : Program} {w : World} {K : PySem.W.Frag} {mg : Str → Option Value} {base : Heap}
theorem t_l_subsets (T : Tx mg) (F : DefAt K mg "_law_subsets" s_l_subsets ["places"]) : Cal P w K mg base CX0 1 "_law_subsets" (q_l_subsets TL) := by
  refine F.cal sc_l_subsets (fun vs H Q E h => ?_) (fun f cdv A outer s H vs Q E hr h => ?_)
  · obtain ⟨_, _, _, _, rfl, _⟩ := h
    rfl
  · obtain ⟨F, v_places, p_places, rr, rfl, sm0, nt0, r_places, hf, q⟩ := h
    have hf : _ = some rr := hf
    unfold f_l_subsets at hf
    refine ⟨_, (pss_cons (ps_set (i := 1) sc_l_subsets.nd rfl (Or.inl rfl) (pe_lst (pa_cons (pe_lst pa_nil) pa_nil)))
      (pss_cons (ps_for PassesOwn.never rfl (k_pil K (pv 0)) (pg_name (i := 2) sc_l_subsets.nd rfl (Or.inr rfl))
        (pss_one (ps_set (i := 1) sc_l_subsets.nd rfl (Or.inl rfl) (pe_op op_cat (pv 1) (pe_lc (own := [("row", 3)]) (g := gName 3) rfl sc_l_subsets.nd (k_pil K (pv 1)) (blkOk_by (own := [("row", 3)]) (N := ["places", "rows", "p", "row"]) (sc := defScope s_l_subsets) (by decide +kernel)) (fun _ _ _ _ _ => (pg_name (i := 3) sc_l_subsets.nd rfl (Or.inl rfl))) (fun _ _ _ _ _ => pts_nil) (fun _ _ _ _ _ => (pe_op op_cat (pv 3) (pe_lst (pa_cons (pv 2) pa_nil)))))))))
      (pss_one (ps_ret (pv 1))))), ?_⟩
    have hE0 : Wst ⟨[], TL⟩ F H [(rL rN).at p_places, sAny, sAny, sAny] [] (start ["places", "rows", "p", "row"] [v_places]) F H := Wst.start (vs := [v_places]) (n := 3) (ss := [(rL rN).at p_places]) (cs := []) sm0 nt0 (fun p hp => by cases hp) List.nodup_nil (.cons ⟨_, rfl, r_places⟩ .nil)
    revert hE0
    generalize start ["places", "rows", "p", "row"] [v_places] = σ0
    intro hE0
    refine x_seq ?_
    refine x_asg ?_
    refine m_lst ?_
    refine x_cons ?_
    refine m_lst ?_
    refine x_nil ?_
    refine w_lstF hE0 (R := rN) (l := ([] : List Nat)) (by show 0 ≤ 100000; decide) .nil fun v1 _ _ s2 hE4 r3 => ?_
    refine x_nil ?_
    refine w_lstF hE4 (R := (rL rN)) (l := [([] : List Nat)]) (by show 1 ≤ 100000; decide) (.cons r3 .nil) fun v5 _ _ s6 hE8 r7 => ?_
    refine w_name (R := (rL (rL rN))) (ss' := [(rL rN).at p_places, (rL (rL rN)).at [([] : List Nat)], sAny, sAny]) hE8 rfl r7 fun _ hE9 => ?_
    refine x_seq ?_
    refine x_for ?_
    refine x_il ?_
    refine w_var hE9 (i := 0) rfl fun v10 r11 => ?_
    refine w_il (lv_f hE9.fh r11) fun a12 ea => ?_
    cases ea
    have hE23 : Wst ⟨[], TL⟩ _ _ [(rL rN).at p_places, (rL (rL rN)).at ([([] : List Nat)]), sAny, sAny] [] _ _ _ := hE9
    obtain ⟨x25, hx25, hf⟩ := bnd hf
    refine w_for 0 (fun (s13 : (List (List Nat))) (ad21 : Nat → Addr) => [(rL rN).at p_places, (rL (rL rN)).at s13, sAny, sAny]) (fun (s13 : (List (List Nat))) (ad21 : Nat → Addr) => []) hx25 adZ no_ad hE23 (fun _ ad21 _ _ _ sm w73 => jok_l w73.fh w73.nt (lv_f w73.fh ((rL rN).mono sm r11))) (fun s13 ad21 x14 v15 o16 _ _ _ ha22 s17 r18 hE19 hb20 => ?_) (fun ad21 _ _ _ ha22 s74 hE75 => ?_)
    · have hE24 : Wst ⟨[], TL⟩ _ _ [(rL rN).at p_places, (rL (rL rN)).at s13, sAny, sAny] [] _ _ _ := hE19
      obtain rfl := (show v15 = (V.int ((x14 : Nat) : Int)) from r18)
      refine w_name (R := rN) (ss' := [(rL rN).at p_places, (rL (rL rN)).at s13, rN.at x14, sAny]) hE24 rfl rfl fun _ hE26 => ?_
      refine x_asg ?_
      refine x_op ?_
      refine w_var hE26 (i := 1) rfl fun v27 r28 => ?_
      refine x_lc ?_
      refine x_il ?_
      refine w_var hE26 (i := 1) rfl fun v29 r30 => ?_
      refine w_il (lv_f hE26.fh r30) fun a31 ea => ?_
      cases ea
      obtain ⟨x58, hx58, hb20⟩ := bnd hb20
      obtain ⟨_, u59, hb20⟩ := bnd hb20
      have u59 := gd_ok u59
      intro c32 d33
      refine w_lc (B := (rL rN)) hx58 u59 hE26 d33 (fun _ _ _ sm w65 => jok_l w65.fh w65.nt (lv_f w65.fh ((rL (rL rN)).mono sm r30))) (fun x34 v36 o37 ac44 _ _ s38 r39 hE40 hb41 z42 ew43 => ?_) (fun _ _ o62 s63 hE64 => ?_)
      · have hE40 : Wst ⟨[], TL⟩ _ _ [(rL rN).at p_places, (rL (rL rN)).at s13, rN.at x14, sAny] [(c32, cL (rL rN) ac44)] _ _ _ := hE40
        refine w_nameW (ss' := [(rL rN).at p_places, (rL (rL rN)).at s13, rN.at x14, (rL rN).at x34]) hE40 rfl r39 (by decide) ew43 fun _ ew46 hE45 => ?_
        refine ⟨ew46, ?_⟩
        refine x_yes ?_
        refine x_T ?_
        refine x_op ?_
        refine w_var hE45 (i := 3) rfl fun v47 r48 => ?_
        refine m_lst ?_
        refine x_cons ?_
        refine w_vN hE45 (i := 2) rfl ?_
        refine x_nil ?_
        refine w_lstF hE45 (R := rN) (l := [x14]) (by show 1 ≤ 100000; decide) (.cons rfl .nil) fun v49 _ _ s50 hE52 r51 => ?_
        obtain ⟨_, u53, hb41⟩ := bnd hb41
        have u53 := gd_ok u53
        refine w_catF hE52 (lv_f hE52.fh ((rL rN).mono s50 r48)) (lv_f hE52.fh r51) u53 fun v54 _ _ s55 hE57 r56 => ?_
        have hb41 := Option.some.inj hb41
        subst hb41
        exact w_acc (s := ()) hE57 ((s38.trans s50).trans s55) r56 z42 ew46 rfl
      have hE66 : Wst ⟨[], TL⟩ _ _ [(rL rN).at p_places, (rL (rL rN)).at s13, rN.at x14, sAny] [(c32, cL (rL rN) x58)] _ _ _ := hE64
      obtain ⟨_, u67, hb20⟩ := bnd hb20
      have u67 := gd_ok u67
      refine w_catF hE66 (lv_f hE66.fh ((rL (rL rN)).mono s63 r28)) (lv_c hE66 (k := 0) rfl) u67 fun v68 _ _ s69 hE71 r70 => ?_
      refine w_name (R := (rL (rL rN))) (ss' := [(rL rN).at p_places, (rL (rL rN)).at (s13 ++ x58), rN.at x14, sAny]) hE71 rfl r70 fun _ hE72 => ?_
      have hb20 := Option.some.inj hb20
      subst hb20
      exact ⟨adZ, _, no_ad, ((s17.trans s63).trans s69), ((hE72.dropC 0).toAny 2)⟩
    have hE76 : Wst ⟨[], TL⟩ _ _ [(rL rN).at p_places, (rL (rL rN)).at x25, sAny, sAny] [] _ _ _ := hE75
    refine x_ret ?_
    refine w_var hE76 (i := 1) rfl fun v77 r78 => ?_
    have hf := Option.some.inj hf
    subst hf
    exact q _ _ _ hE76.ex r78
end
abbrev s_l_after : Stmt := topS 35
theorem sc_l_after : FnScope ["tokens", "shown", "painted", "rest", "p"] ["tokens", "shown", "painted"] (defScope s_l_after) := ⟨rfl, rfl, rfl, by decide +kernel, rfl, by decide +kernel, by decide +kernel⟩
def f_l_after (p_tokens : (List Nat)) (p_shown : (List Nat)) (p_painted : (List Nat)) : Option ((Option (List Nat))) :=
  (loopO (S := (List Nat)) (T := (Option (List Nat))) (fun s11 (x12 : Nat) =>
    (s11[x12]?).bind fun x25 =>
    (gd (1 ≤ x25)).bind fun _ =>
    ([(x25 - 1), 0][(decide (x12 ∈ p_painted)).toNat]?).bind fun x35 =>
    (gd (x12 < s11.length)).bind fun _ =>
    ((s11.set x12 x35)[x12]?).bind fun x40 =>
    if ((decide (x40 = 0)) && (!decide (x12 ∈ p_painted))) = true then
      some (Stp.rt (none : (Option (List Nat))))
    else
      some (Stp.nx (s11.set x12 x35))) p_shown p_tokens).bind fun x23 =>
  match x23 with
  | .rt t => some t
  | .bk _ => none
  | .nx x23s =>
    some (some x23s)
def q_l_after (TL : List (Addr × Str)) : Sp := fun vs H Q _ => ∃ (F : Hp) (v_tokens : V) (p_tokens : (List Nat)) (v_shown : V) (p_shown : (List Nat)) (v_painted : V) (p_painted : (List Nat)) (rr : (Option (List Nat))), vs = [v_tokens, v_shown, v_painted] ∧ Same F H ∧ NoT F ∧ (rL rN).r F v_tokens p_tokens ∧ (rL rN).r F v_shown p_shown ∧ (rL rN).r F v_painted p_painted ∧ f_l_after p_tokens p_shown p_painted = some rr ∧ ∀ v F' H', Ext ⟨[], TL⟩ F H F' H' → (rO (rL rN)).r F' v rr → Q v H'
section
variable {P : Program} {w : World} {K : PySem.W.Frag} {mg : Str → Option Value} {base : Heap}
theorem t_l_after (T : Tx mg) (F : DefAt K mg "_law_after" s_l_after ["tokens", "shown", "painted"]) : Cal P w K mg base CX0 1 "_law_after" (q_l_after TL) := by
  refine F.cal sc_l_after (fun vs H Q E h => ?_) (fun f cdv A outer s H vs Q E hr h => ?_)
  · obtain ⟨_, _, _, _, _, _, _, _, rfl, _⟩ := h
    rfl
  · obtain ⟨F, v_tokens, p_tokens, v_shown, p_shown, v_painted, p_painted, rr, rfl, sm0, nt0, r_tokens, r_shown, r_painted, hf, q⟩ := h
    have hf : _ = some rr := hf
    unfold f_l_after at hf
    refine ⟨_, (pss_cons (ps_set (i := 3) sc_l_after.nd rfl (Or.inl rfl) (pe_callTy (cl_listOf K) (by rfl) T.z_list (by decide +kernel) (pa_cons (pv 0) pa_nil)))
      (pss_cons (ps_for PassesOwn.never rfl (k_pil K (pv 1)) (pg_name (i := 4) sc_l_after.nd rfl (Or.inl rfl))
        (pss_cons (ps_asg (pe_ix (ix_l K) (pe_lst (pa_cons (pe_op op_sub (pe_ix (ix_l K) (pv 3) (pv 4) (fun _ _ => rfl)) pe_int) (pa_cons pe_int pa_nil))) (pe_callTy cl_int (by rfl) T.z_int (by decide +kernel) (pa_cons (pe_cmpR (k_in K) (pv 4) (pv 2) (by first | exact nomark _ | rfl)) pa_nil)) (fun _ _ => rfl)) (pg_sub (pv 3) (pv 4) set_list))
      (pss_one (ps_if (PW.pt (pw_and (pt_cmpR op_eq (pe_ix (ix_l K) (pv 3) (pv 4) (fun _ _ => rfl)) pe_int (nomark _)) (pw_and1 (pt_cmpR (k_nin K) (pv 4) (pv 2) (by first | exact nomark _ | rfl)))))
        (pss_one (ps_ret pe_non)) pss_nil))))
      (pss_one (ps_ret (pv 3))))), ?_⟩
    have hE0 : Wst ⟨[], TL⟩ F H [(rL rN).at p_tokens, (rL rN).at p_shown, (rL rN).at p_painted, sAny, sAny] [] (start ["tokens", "shown", "painted", "rest", "p"] [v_tokens, v_shown, v_painted]) F H := Wst.start (vs := [v_tokens, v_shown, v_painted]) (n := 2) (ss := [(rL rN).at p_tokens, (rL rN).at p_shown, (rL rN).at p_painted]) (cs := []) sm0 nt0 (fun p hp => by cases hp) List.nodup_nil (.cons ⟨_, rfl, r_tokens⟩ (.cons ⟨_, rfl, r_shown⟩ (.cons ⟨_, rfl, r_painted⟩ .nil)))
    revert hE0
    generalize start ["tokens", "shown", "painted", "rest", "p"] [v_tokens, v_shown, v_painted] = σ0
    intro hE0
    refine x_seq ?_
    refine x_asg ?_
    refine x_cb ?_
    refine x_cons ?_
    refine w_var hE0 (i := 0) rfl fun v1 r2 => ?_
    refine x_nil ?_
    refine w_listC hE0 (lv_f hE0.fh r2) fun c3 _ o4 hE5 => ?_
    have hE6 : Wst ⟨[], TL⟩ _ _ [(rL rN).at p_tokens, (rL rN).at p_shown, (rL rN).at p_painted, sAny, sAny] [(c3, cL rN p_tokens)] _ _ _ := hE5
    refine w_nameC (ss' := [(rL rN).at p_tokens, (rL rN).at p_shown, (rL rN).at p_painted, sRef c3, sAny]) hE6 rfl fun _ hE7 => ?_
    refine x_seq ?_
    refine x_for ?_
    refine x_il ?_
    refine w_var hE7 (i := 1) rfl fun v8 r9 => ?_
    refine w_il (lv_f hE7.fh r9) fun a10 ea => ?_
    cases ea
    have hE21 : Wst ⟨[], TL⟩ _ _ [(rL rN).at p_tokens, (rL rN).at p_shown, (rL rN).at p_painted, sRef c3, sAny] [(c3, cL rN p_tokens)] _ _ _ := hE7
    obtain ⟨x23, hx23, hf⟩ := bnd hf
    refine w_forS 0 (fun (s11 : (List Nat)) (ad19 : Nat → Addr) => [(rL rN).at p_tokens, (rL rN).at p_shown, (rL rN).at p_painted, sRef c3, sAny]) (fun (s11 : (List Nat)) (ad19 : Nat → Addr) => [(c3, cL rN s11)]) hx23 adZ no_ad hE21 (fun _ ad19 _ _ _ sm w51 => jok_l w51.fh w51.nt (lv_f w51.fh ((rL rN).mono sm r9))) (fun s11 ad19 x12 v13 o14 _ _ _ ha20 s15 r16 hE17 hb18 hrx23 hkx23 => ?_) (fun x23s ad19 _ _ _ eex23 ha20 s52 hE53 => ?_)
    · have hE22 : Wst ⟨[], TL⟩ _ _ [(rL rN).at p_tokens, (rL rN).at p_shown, (rL rN).at p_painted, sRef c3, sAny] [(c3, cL rN s11)] _ _ _ := hE17
      obtain rfl := (show v13 = (V.int ((x12 : Nat) : Int)) from r16)
      refine w_name (R := rN) (ss' := [(rL rN).at p_tokens, (rL rN).at p_shown, (rL rN).at p_painted, sRef c3, rN.at x12]) hE22 rfl rfl fun _ hE24 => ?_
      refine x_seq ?_
      refine x_asg ?_
      refine x_op ?_
      refine m_lst ?_
      refine x_cons ?_
      refine x_op ?_
      refine x_op ?_
      refine w_ref hE24 (i := 3) rfl ?_
      refine w_vN hE24 (i := 4) rfl ?_
      obtain ⟨x25, hx25, hb18⟩ := bnd hb18
      refine w_ix (lv_c hE24 (k := 0) rfl) hx25 fun v26 r27 => ?_
      obtain rfl := (show v26 = (V.int ((x25 : Nat) : Int)) from r27)
      refine w_cN 1 ?_
      obtain ⟨_, u28, hb18⟩ := bnd hb18
      have u28 := gd_ok u28
      refine w_subN u28 ?_
      refine x_cons ?_
      refine w_cN 0 ?_
      refine x_nil ?_
      refine w_lstF hE24 (R := rN) (l := [(x25 - 1), 0]) (by show 2 ≤ 100000; decide) (.cons rfl (.cons rfl .nil)) fun v29 _ _ s30 hE32 r31 => ?_
      refine x_cb ?_
      refine x_cons ?_
      refine x_op ?_
      refine w_vN hE32 (i := 4) rfl ?_
      refine w_var hE32 (i := 2) rfl fun v33 r34 => ?_
      refine w_inN (lv_f hE32.fh r34) ?_
      refine x_nil ?_
      refine w_intB ?_
      obtain ⟨x35, hx35, hb18⟩ := bnd hb18
      refine w_ix (lv_f hE32.fh r31) hx35 fun v36 r37 => ?_
      obtain rfl := (show v36 = (V.int ((x35 : Nat) : Int)) from r37)
      refine x_sub ?_
      refine w_ref hE32 (i := 3) rfl ?_
      refine w_vN hE32 (i := 4) rfl ?_
      obtain ⟨_, u38, hb18⟩ := bnd hb18
      have u38 := gd_ok u38
      refine w_set hE32 (k := 0) (a := x35) rfl u38 rfl (cs' := [(c3, cL rN (s11.set x12 x35))]) rfl fun _ hE39 => ?_
      refine x_ifs ?_
      obtain ⟨x40, hx40, hb18⟩ := bnd hb18
      refine w_andP (cs := [(c3, cL rN (s11.set x12 x35))]) hE39 (ca := (decide (x40 = 0))) (cb := (!decide (x12 ∈ p_painted))) (fun _ q0 => ?_) (fun _ _ s45 hE44 _ _ q0 => ?_) (fun _ _ s48 hE49 => ?_)
      · refine x_test ?_
        refine x_op ?_
        refine x_op ?_
        refine w_ref hE39 (i := 3) rfl ?_
        refine w_vN hE39 (i := 4) rfl ?_
        refine w_ix (lv_c hE39 (k := 0) rfl) hx40 fun v41 r42 => ?_
        obtain rfl := (show v41 = (V.int ((x40 : Nat) : Int)) from r42)
        refine w_cN 0 ?_
        refine w_eqN ?_
        refine x_bl ?_
        exact q0 _ _ (Same.refl _) hE39
      · refine x_test ?_
        refine x_op ?_
        refine w_vN hE44 (i := 4) rfl ?_
        refine w_var hE44 (i := 2) rfl fun v46 r47 => ?_
        refine w_ninN (lv_f hE44.fh r47) ?_
        refine x_bl ?_
        exact q0 _ _ (Same.refl _) hE44
      refine x_itb (fun hc50 => ?_) (fun hc50 => ?_)
      · have hb18 := ite_t hb18 hc50
        refine x_ret ?_
        refine x_c ?_
        have hb18 := Option.some.inj hb18
        subst hb18
        cases (hrx23 _ rfl)
        have hf := Option.some.inj hf
        subst hf
        exact q _ _ _ hE49.ex rfl
      · have hb18 := ite_f hb18 hc50
        refine x_next ?_
        have hb18 := Option.some.inj hb18
        subst hb18
        exact ⟨_, rfl, ⟨adZ, _, no_ad, ((s15.trans s30).trans s48), (hE49.toAny 4)⟩⟩
    subst eex23
    have hE54 : Wst ⟨[], TL⟩ _ _ [(rL rN).at p_tokens, (rL rN).at p_shown, (rL rN).at p_painted, sRef c3, sAny] [(c3, cL rN x23s)] _ _ _ := hE53
    refine x_ret ?_
    refine w_ref hE54 (i := 3) rfl ?_
    obtain ⟨F55, s56, hE58, r57⟩ := hE54.freeze (k := 0) rfl o4
    have hE59 : Wst ⟨[], TL⟩ _ _ [(rL rN).at p_tokens, (rL rN).at p_shown, (rL rN).at p_painted, sRef c3, sAny] [] _ _ _ := hE58
    have hE60 : Wst ⟨[], TL⟩ _ _ [(rL rN).at p_tokens, (rL rN).at p_shown, (rL rN).at p_painted, (rL rN).at x23s, sAny] [] _ _ _ := hE59.toAt (i := 3) rfl r57
    have hf := Option.some.inj hf
    subst hf
    exact q _ _ _ hE60.ex (ro_some r57)
end
abbrev s_l_apart : Stmt := topS 33
theorem sc_l_apart : FnScope ["ties", "places", "u", "v"] ["ties", "places"] (defScope s_l_apart) := ⟨rfl, rfl, rfl, by decide +kernel, rfl, by decide +kernel, by decide +kernel⟩
def f_l_apart (p_ties : (List (Nat × Nat))) (p_places : (List Nat)) : Option (Bool) :=
  (compO (β := Bool) (fun (x6 : (Nat × Nat)) =>
    some (some ((decide (x6.1 ∈ p_places)) && (decide (x6.2 ∈ p_places))))) p_ties).bind fun x34 =>
  (gd (x34.length ≤ 100000)).bind fun _ =>
  some (!(x34.any id))
def q_l_apart (TL : List (Addr × Str)) : Sp := fun vs H Q _ => ∃ (F : Hp) (v_ties : V) (p_ties : (List (Nat × Nat))) (v_places : V) (p_places : (List Nat)) (rr : Bool), vs = [v_ties, v_places] ∧ Same F H ∧ NoT F ∧ (rL (rT2 rN rN)).r F v_ties p_ties ∧ (rL rN).r F v_places p_places ∧ f_l_apart p_ties p_places = some rr ∧ ∀ v F' H', Ext ⟨[], TL⟩ F H F' H' → rB.r F' v rr → Q v H'
section
variable {P : Program} {w : World} {K : PySem.W.Frag} {mg : Str → Option Value} {base : Heap}
theorem t_l_apart (T : Tx mg) (F : DefAt K mg "_law_apart" s_l_apart ["ties", "places"]) : Cal P w K mg base CX0 1 "_law_apart" (q_l_apart TL) := by
  refine F.cal sc_l_apart (fun vs H Q E h => ?_) (fun f cdv A outer s H vs Q E hr h => ?_)
  · obtain ⟨_, _, _, _, _, _, rfl, _⟩ := h
    rfl
  · obtain ⟨F, v_ties, p_ties, v_places, p_places, rr, rfl, sm0, nt0, r_ties, r_places, hf, q⟩ := h
    have hf : _ = some rr := hf
    unfold f_l_apart at hf
    refine ⟨_, (pss_one (ps_ret (pe_not (pe_callB (cl_any K rfl) (by rfl) T.z_any (by decide +kernel) (pa_cons (pe_lc (own := [("u", 2), ("v", 3)]) rfl sc_l_apart.nd (k_pil K (pv 0)) (blkOk_by (own := [("u", 2), ("v", 3)]) (N := ["ties", "places", "u", "v"]) (sc := defScope s_l_apart) (by decide +kernel)) (fun _ _ _ _ _ => (k_tup (n := 2) K rfl (pgs_cons (pg_name (i := 2) sc_l_apart.nd rfl (Or.inl rfl)) (pgs_cons (pg_name (i := 3) sc_l_apart.nd rfl (Or.inl rfl)) pgs_nil)))) (fun _ _ _ _ _ => pts_nil) (fun _ _ _ _ _ => (pe_and (pe_cmpR (k_in K) (pv 2) (pv 1) (by first | exact nomark _ | rfl)) (pe_one (pe_cmpR (k_in K) (pv 3) (pv 1) (by first | exact nomark _ | rfl)))))) pa_nil))))), ?_⟩
    have hE0 : Wst ⟨[], TL⟩ F H [(rL (rT2 rN rN)).at p_ties, (rL rN).at p_places, sAny, sAny] [] (start ["ties", "places", "u", "v"] [v_ties, v_places]) F H := Wst.start (vs := [v_ties, v_places]) (n := 2) (ss := [(rL (rT2 rN rN)).at p_ties, (rL rN).at p_places]) (cs := []) sm0 nt0 (fun p hp => by cases hp) List.nodup_nil (.cons ⟨_, rfl, r_ties⟩ (.cons ⟨_, rfl, r_places⟩ .nil))
    revert hE0
    generalize start ["ties", "places", "u", "v"] [v_ties, v_places] = σ0
    intro hE0
    refine x_ret ?_
    refine x_notV ?_
    refine x_cb ?_
    refine x_cons ?_
    refine x_lc ?_
    refine x_il ?_
    refine w_var hE0 (i := 0) rfl fun v1 r2 => ?_
    refine w_il (lv_f hE0.fh r2) fun a3 ea => ?_
    cases ea
    obtain ⟨x34, hx34, hf⟩ := bnd hf
    obtain ⟨_, u35, hf⟩ := bnd hf
    have u35 := gd_ok u35
    intro c4 d5
    refine w_lc (B := rB) hx34 u35 hE0 d5 (fun _ _ _ sm w41 => jok_l w41.fh w41.nt (lv_f w41.fh ((rL (rT2 rN rN)).mono sm r2))) (fun x6 v8 o9 ac16 _ _ s10 r11 hE12 hb13 z14 ew15 => ?_) (fun _ _ o38 s39 hE40 => ?_)
    · have hE12 : Wst ⟨[], TL⟩ _ _ [(rL (rT2 rN rN)).at p_ties, (rL rN).at p_places, sAny, sAny] [(c4, cL rB ac16)] _ _ _ := hE12
      refine w_gT2 hE12.fh r11 fun v17 v18 r19 r20 => ?_
      refine x_gCons ?_
      refine w_nameW (ss' := [(rL (rT2 rN rN)).at p_ties, (rL rN).at p_places, rN.at x6.1, sAny]) hE12 rfl r19 (by decide) ew15 fun _ ew22 hE21 => ?_
      refine x_gCons ?_
      refine w_nameW (ss' := [(rL (rT2 rN rN)).at p_ties, (rL rN).at p_places, rN.at x6.1, rN.at x6.2]) hE21 rfl r20 (by decide) ew22 fun _ ew24 hE23 => ?_
      refine x_gNil ?_
      refine ⟨ew24, ?_⟩
      refine x_yes ?_
      refine x_T ?_
      refine w_andVP (cs := [(c4, cL rB ac16)]) hE23 (ca := (decide (x6.1 ∈ p_places))) (cb := (decide (x6.2 ∈ p_places))) (fun _ q0 => ?_) (fun _ _ s29 hE28 _ _ q0 => ?_) (fun _ _ s32 hE33 => ?_)
      · refine x_op ?_
        refine w_vN hE23 (i := 2) rfl ?_
        refine w_var hE23 (i := 1) rfl fun v25 r26 => ?_
        refine w_inN (lv_f hE23.fh r26) ?_
        exact q0 _ _ (Same.refl _) hE23
      · refine x_op ?_
        refine w_vN hE28 (i := 3) rfl ?_
        refine w_var hE28 (i := 1) rfl fun v30 r31 => ?_
        refine w_inN (lv_f hE28.fh r31) ?_
        exact q0 _ _ (Same.refl _) hE28
      have hb13 := Option.some.inj hb13
      subst hb13
      exact w_acc (s := ()) hE33 (s10.trans s32) rfl z14 ew24 rfl
    have hE42 : Wst ⟨[], TL⟩ _ _ [(rL (rT2 rN rN)).at p_ties, (rL rN).at p_places, sAny, sAny] [(c4, cL rB x34)] _ _ _ := hE40
    refine x_nil ?_
    refine w_any (lv_c hE42 (k := 0) rfl) ?_
    have hE43 : Wst ⟨[], TL⟩ _ _ [(rL (rT2 rN rN)).at p_ties, (rL rN).at p_places, sAny, sAny] [] _ _ _ := hE42.dropC 0
    refine x_bl ?_
    have hf := Option.some.inj hf
    subst hf
    exact q _ _ _ hE43.ex rfl
end
abbrev s_l_best : Stmt := topS 36
theorem sc_l_best : FnScope ["ties", "tokens", "shown", "known", "best", "painted", "rest"] ["ties", "tokens", "shown", "known"] (defScope s_l_best) := ⟨rfl, rfl, rfl, by decide +kernel, rfl, by decide +kernel, by decide +kernel⟩
def f_l_best (Fv : (List (Nat × Nat)) → (List Nat) → (List ((List Nat) × Bool)) → Option (Bool × (List ((List Nat) × Bool)))) (p_ties : (List (Nat × Nat))) (p_tokens : (List Nat)) (p_shown : (List Nat)) (U_known : (List ((List Nat) × Bool))) : Option ((Option (List Nat)) × (List ((List Nat) × Bool))) :=
  (f_l_subsets p_shown).bind fun x4 =>
  (foldO (fun (s14 : (Option (List Nat)) × (List ((List Nat) × Bool))) (x15 : (List Nat)) =>
    (f_l_after p_tokens p_shown x15).bind fun x34 =>
    (if x34.isSome = true then (
        (f_l_apart p_ties x15).bind fun x49 =>
        (if x49 = true then (
            (if s14.1.isNone = true then some true else (
                (s14.1).bind fun x66 =>
                some (decide (x66.length < x15.length))
              )).bind fun b70 =>
            some b70
          ) else some false).bind fun b74 =>
        some b74
      ) else some false).bind fun b78 =>
    if b78 = true then
      (x34).bind fun x85 =>
      (Fv p_ties x85 s14.2).bind fun x87 =>
      if x87.1 = true then
        some ((some x15), x87.2)
      else
        some (s14.1, x87.2)
    else
      some (s14.1, s14.2)) (srtD (dtL dtN).d x4) ((none : (Option (List Nat))), U_known)).bind fun x26 =>
  some (x26.1, x26.2)
def q_l_led (TL : List (Addr × Str)) (Fv : (List (Nat × Nat)) → (List Nat) → (List ((List Nat) × Bool)) → Option (Bool × (List ((List Nat) × Bool)))) : Sp := fun vs H Q _ => ∃ (F : Hp) (v_ties : V) (p_ties : (List (Nat × Nat))) (v_tokens : V) (p_tokens : (List Nat)) (u : Addr) (U : (List ((List Nat) × Bool))) (rr : Bool × (List ((List Nat) × Bool))), vs = [v_ties, v_tokens, V.ref u] ∧ Same F H ∧ NoT F ∧ F u = none ∧ (∃ o, H u = some o ∧ (cDT rB U).p F o) ∧ (rL (rT2 rN rN)).r F v_ties p_ties ∧ (rL rN).r F v_tokens p_tokens ∧ Fv p_ties p_tokens U = some rr ∧ ∀ v F' H', Ext ⟨[u], TL⟩ F H F' H' → (∃ o, H' u = some o ∧ (cDT rB rr.2).p F' o) → rB.r F' v rr.1 → Q v H'
def q_l_best (TL : List (Addr × Str)) (Fv : (List (Nat × Nat)) → (List Nat) → (List ((List Nat) × Bool)) → Option (Bool × (List ((List Nat) × Bool)))) : Sp := fun vs H Q _ => ∃ (F : Hp) (v_ties : V) (p_ties : (List (Nat × Nat))) (v_tokens : V) (p_tokens : (List Nat)) (v_shown : V) (p_shown : (List Nat)) (u : Addr) (U : (List ((List Nat) × Bool))) (rr : (Option (List Nat)) × (List ((List Nat) × Bool))), vs = [v_ties, v_tokens, v_shown, V.ref u] ∧ Same F H ∧ NoT F ∧ F u = none ∧ (∃ o, H u = some o ∧ (cDT rB U).p F o) ∧ (rL (rT2 rN rN)).r F v_ties p_ties ∧ (rL rN).r F v_tokens p_tokens ∧ (rL rN).r F v_shown p_shown ∧ f_l_best Fv p_ties p_tokens p_shown U = some rr ∧ ∀ v F' H', Ext ⟨[u], TL⟩ F H F' H' → (∃ o, H' u = some o ∧ (cDT rB rr.2).p F' o) → (rO (rL rN)).r F' v rr.1 → Q v H'
section
variable {P : Program} {w : World} {K : PySem.W.Frag} {mg : Str → Option Value} {base : Heap}
theorem t_l_best (T : Tx mg) (F : DefAt K mg "_law_best" s_l_best ["ties", "tokens", "shown", "known"]) (c_l_subsets : Cal P w K mg base CX0 1 "_law_subsets" (q_l_subsets TL)) (c_l_after : Cal P w K mg base CX0 1 "_law_after" (q_l_after TL)) (c_l_apart : Cal P w K mg base CX0 1 "_law_apart" (q_l_apart TL)) {kv : Nat} {Fv : (List (Nat × Nat)) → (List Nat) → (List ((List Nat) × Bool)) → Option (Bool × (List ((List Nat) × Bool)))} (hkv : 1 ≤ kv) (c_l_led : Cal P w K mg base CX0 kv "_law_led" (q_l_led TL Fv)) : Cal P w K mg base CX0 (kv + 1) "_law_best" (q_l_best TL Fv) := by
  refine F.cal sc_l_best (fun vs H Q E h => ?_) (fun f cdv A outer s H vs Q E hr h => ?_)
  · obtain ⟨_, _, _, _, _, _, _, _, _, _, rfl, _⟩ := h
    rfl
  · obtain ⟨F, v_ties, p_ties, v_tokens, p_tokens, v_shown, p_shown, u_known, U_known, rr, rfl, sm0, nt0, ap, uc, r_ties, r_tokens, r_shown, hf, q⟩ := h
    have hf : _ = some rr := hf
    unfold f_l_best at hf
    refine ⟨_, (pss_cons (ps_set (i := 4) sc_l_best.nd rfl (Or.inl rfl) pe_non)
      (pss_cons (ps_for PassesOwn.never rfl (k_pil K (pe_callB (cl_sortA K hr.units) (by rfl) T.z_sorted (by decide +kernel) (pa_cons (pe_cal c_l_subsets hr (by omega) rfl pass0 (pa_cons (pv 2) pa_nil)) pa_nil))) (pg_name (i := 5) sc_l_best.nd rfl (Or.inl rfl))
        (pss_cons (ps_set (i := 6) sc_l_best.nd rfl (Or.inl rfl) (pe_cal c_l_after hr (by omega) rfl pass0 (pa_cons (pv 1) (pa_cons (pv 2) (pa_cons (pv 5) pa_nil)))))
      (pss_one (ps_if (PW.pt (pw_and (pt_cmpR k_notN (pv 6) pe_non (nomark _)) (pw_and (pt_val (pe_cal c_l_apart hr (by omega) rfl pass0 (pa_cons (pv 0) (pa_cons (pv 5) pa_nil)))) (pw_and1 (PW.pt (pw_or (pt_cmpR k_isN (pv 4) pe_non (nomark _)) (pw_or1 (pt_cmpR op_gt (pe_callB (cl_len K) (by rfl) T.z_len PySem.boot_len (pa_cons (pv 5) pa_nil)) (pe_callB (cl_len K) (by rfl) T.z_len PySem.boot_len (pa_cons (pv 4) pa_nil)) (nomark _)))))))))
        (pss_one (ps_if (pt_val (pe_cal c_l_led hr (by omega) rfl pass0 (pa_cons (pv 0) (pa_cons (pv 6) (pa_cons (pv 3) pa_nil)))))
        (pss_one (ps_set (i := 4) sc_l_best.nd rfl (Or.inl rfl) (pv 5))) pss_nil)) pss_nil))))
      (pss_one (ps_ret (pv 4))))), ?_⟩
    have hE0 : Wst ⟨[u_known], TL⟩ F H [(rL (rT2 rN rN)).at p_ties, (rL rN).at p_tokens, (rL rN).at p_shown, sRef u_known, sAny, sAny, sAny] [(u_known, cDT rB U_known)] (start ["ties", "tokens", "shown", "known", "best", "painted", "rest"] [v_ties, v_tokens, v_shown, V.ref u_known]) F H := Wst.start (vs := [v_ties, v_tokens, v_shown, V.ref u_known]) (n := 3) (ss := [(rL (rT2 rN rN)).at p_ties, (rL rN).at p_tokens, (rL rN).at p_shown, sRef u_known]) (cs := [(u_known, cDT rB U_known)]) sm0 nt0 (fun p hp => by rw [List.mem_singleton.mp hp]; exact ⟨uc, ap, List.mem_singleton.mpr rfl⟩) (List.nodup_cons.mpr ⟨(fun z => by cases z), List.nodup_nil⟩) (.cons ⟨_, rfl, r_ties⟩ (.cons ⟨_, rfl, r_tokens⟩ (.cons ⟨_, rfl, r_shown⟩ (.cons rfl .nil))))
    revert hE0
    generalize start ["ties", "tokens", "shown", "known", "best", "painted", "rest"] [v_ties, v_tokens, v_shown, V.ref u_known] = σ0
    intro hE0
    refine x_seq ?_
    refine x_asg ?_
    refine x_c ?_
    refine w_name (R := (rO (rL rN))) (ss' := [(rL (rT2 rN rN)).at p_ties, (rL rN).at p_tokens, (rL rN).at p_shown, sRef u_known, (rO (rL rN)).at (none : (Option (List Nat))), sAny, sAny]) hE0 rfl rfl fun _ hE1 => ?_
    refine x_seq ?_
    refine x_for ?_
    refine x_il ?_
    refine x_cb ?_
    refine x_cons ?_
    refine x_call ?_
    refine x_cons ?_
    refine w_var hE1 (i := 2) rfl fun v2 r3 => ?_
    refine x_nil ?_
    obtain ⟨x4, hx4, hf⟩ := bnd hf
    refine ⟨_, v2, p_shown, x4, rfl, hE1.fh, hE1.nt, r3, hx4, fun v7 _ _ e5 r6 => ?_⟩
    have hE8 : Wst ⟨[u_known], TL⟩ _ _ [(rL (rT2 rN rN)).at p_ties, (rL rN).at p_tokens, (rL rN).at p_shown, sRef u_known, (rO (rL rN)).at (none : (Option (List Nat))), sAny, sAny] [(u_known, cDT rB U_known)] _ _ _ := hE1.grow e5
    refine x_nil ?_
    refine w_srtDF hE8 (lv_f hE8.fh r6) (alkL alkN) (by decide) fun v9 _ _ s10 hE12 r11 => ?_
    refine w_il (lv_f hE12.fh r11) fun a13 ea => ?_
    cases ea
    have hE24 : Wst ⟨[u_known], TL⟩ _ _ [(rL (rT2 rN rN)).at p_ties, (rL rN).at p_tokens, (rL rN).at p_shown, sRef u_known, (rO (rL rN)).at ((none : (Option (List Nat))), U_known).1, sAny, sAny] [(u_known, cDT rB ((none : (Option (List Nat))), U_known).2)] _ _ _ := hE12
    obtain ⟨x26, hx26, hf⟩ := bnd hf
    refine w_for 0 (fun (s14 : (Option (List Nat)) × (List ((List Nat) × Bool))) (ad22 : Nat → Addr) => [(rL (rT2 rN rN)).at p_ties, (rL rN).at p_tokens, (rL rN).at p_shown, sRef u_known, (rO (rL rN)).at s14.1, sAny, sAny]) (fun (s14 : (Option (List Nat)) × (List ((List Nat) × Bool))) (ad22 : Nat → Addr) => [(u_known, cDT rB s14.2)]) hx26 adZ no_ad hE24 (fun _ ad22 _ _ _ sm w97 => jok_l w97.fh w97.nt (lv_f w97.fh ((rL (rL rN)).mono sm r11))) (fun s14 ad22 x15 v16 o17 _ _ _ ha23 s18 r19 hE20 hb21 => ?_) (fun ad22 _ _ _ ha23 s98 hE99 => ?_)
    · have hE25 : Wst ⟨[u_known], TL⟩ _ _ [(rL (rT2 rN rN)).at p_ties, (rL rN).at p_tokens, (rL rN).at p_shown, sRef u_known, (rO (rL rN)).at s14.1, sAny, sAny] [(u_known, cDT rB s14.2)] _ _ _ := hE20
      refine w_name (R := (rL rN)) (ss' := [(rL (rT2 rN rN)).at p_ties, (rL rN).at p_tokens, (rL rN).at p_shown, sRef u_known, (rO (rL rN)).at s14.1, (rL rN).at x15, sAny]) hE25 rfl r19 fun _ hE27 => ?_
      refine x_seq ?_
      refine x_asg ?_
      refine x_call ?_
      refine x_cons ?_
      refine w_var hE27 (i := 1) rfl fun v28 r29 => ?_
      refine x_cons ?_
      refine w_var hE27 (i := 2) rfl fun v30 r31 => ?_
      refine x_cons ?_
      refine w_var hE27 (i := 5) rfl fun v32 r33 => ?_
      refine x_nil ?_
      obtain ⟨x34, hx34, hb21⟩ := bnd hb21
      refine ⟨_, v28, p_tokens, v30, p_shown, v32, x15, x34, rfl, hE27.fh, hE27.nt, r29, r31, r33, hx34, fun v37 _ _ e35 r36 => ?_⟩
      have hE38 : Wst ⟨[u_known], TL⟩ _ _ [(rL (rT2 rN rN)).at p_ties, (rL rN).at p_tokens, (rL rN).at p_shown, sRef u_known, (rO (rL rN)).at s14.1, (rL rN).at x15, sAny] [(u_known, cDT rB s14.2)] _ _ _ := hE27.grow e35
      refine w_name (R := (rO (rL rN))) (ss' := [(rL (rT2 rN rN)).at p_ties, (rL rN).at p_tokens, (rL rN).at p_shown, sRef u_known, (rO (rL rN)).at s14.1, (rL rN).at x15, (rO (rL rN)).at x34]) hE38 rfl r36 fun _ hE39 => ?_
      refine x_ifs ?_
      obtain ⟨b78, h79, hb21⟩ := bnd hb21
      refine w_andO (cs := [(u_known, cDT rB s14.2)]) hE39 (ca := x34.isSome) h79 (fun _ q0 => ?_) (fun _ _ s44 hE43 _ hkk42 _ q0 => ?_) (fun _ _ s76 hE77 => ?_)
      · refine x_test ?_
        refine x_op ?_
        refine w_var hE39 (i := 6) rfl fun v40 r41 => ?_
        refine x_c ?_
        refine w_isnotN nn_L r41 ?_
        refine x_bl ?_
        exact q0 _ _ (Same.refl _) hE39
      · obtain ⟨x49, hx49, hkk42⟩ := bnd hkk42
        obtain ⟨b74, h75, hkk42⟩ := bnd hkk42
        refine w_andO (cs := [(u_known, cDT rB s14.2)]) hE43 (ca := x49) h75 (fun _ q0 => ?_) (fun _ _ s56 hE55 _ hkk54 _ q0 => ?_) (fun _ _ s72 hE73 => ?_)
        · refine x_B ?_
          refine x_call ?_
          refine x_cons ?_
          refine w_var hE43 (i := 0) rfl fun v45 r46 => ?_
          refine x_cons ?_
          refine w_var hE43 (i := 5) rfl fun v47 r48 => ?_
          refine x_nil ?_
          refine ⟨_, v45, p_ties, v47, x15, x49, rfl, hE43.fh, hE43.nt, r46, r48, hx49, fun v52 _ _ e50 r51 => ?_⟩
          have hE53 : Wst ⟨[u_known], TL⟩ _ _ [(rL (rT2 rN rN)).at p_ties, (rL rN).at p_tokens, (rL rN).at p_shown, sRef u_known, (rO (rL rN)).at s14.1, (rL rN).at x15, (rO (rL rN)).at x34] [(u_known, cDT rB s14.2)] _ _ _ := hE43.grow e50
          obtain rfl := (show v52 = (V.bl x49) from r51)
          refine x_bl ?_
          exact q0 _ _ ((Same.refl _).trans e50.ff) hE53
        · obtain ⟨b70, h71, hkk54⟩ := bnd hkk54
          refine w_orO (cs := [(u_known, cDT rB s14.2)]) hE55 (ca := s14.1.isNone) h71 (fun _ q0 => ?_) (fun _ _ s61 hE60 _ hkk59 _ q0 => ?_) (fun _ _ s68 hE69 => ?_)
          · refine x_test ?_
            refine x_op ?_
            refine w_var hE55 (i := 4) rfl fun v57 r58 => ?_
            refine x_c ?_
            refine w_isN nn_L r58 ?_
            refine x_bl ?_
            exact q0 _ _ (Same.refl _) hE55
          · refine x_test ?_
            refine x_op ?_
            refine x_cb ?_
            refine x_cons ?_
            refine w_var hE60 (i := 5) rfl fun v62 r63 => ?_
            refine x_nil ?_
            refine w_len (lv_f hE60.fh r63) ?_
            refine x_cb ?_
            refine x_cons ?_
            refine w_var hE60 (i := 4) rfl fun v64 r65 => ?_
            obtain ⟨x66, hx66, hkk59⟩ := bnd hkk59
            have r67 := ro_s r65 hx66
            refine x_nil ?_
            refine w_len (lv_f hE60.fh r67) ?_
            refine w_gtN ?_
            refine x_bl ?_
            have hkk59 := Option.some.inj hkk59
            subst hkk59
            exact q0 _ _ (Same.refl _) hE60
          have hkk54 := Option.some.inj hkk54
          subst hkk54
          exact q0 _ _ ((Same.refl _).trans s68) hE69
        have hkk42 := Option.some.inj hkk42
        subst hkk42
        exact q0 _ _ ((Same.refl _).trans s72) hE73
      refine x_itb (fun hc80 => ?_) (fun hc80 => ?_)
      · have hb21 := ite_t hb21 hc80
        refine x_ifs ?_
        refine x_B ?_
        refine x_call ?_
        refine x_cons ?_
        refine w_var hE77 (i := 0) rfl fun v81 r82 => ?_
        refine x_cons ?_
        refine w_var hE77 (i := 6) rfl fun v83 r84 => ?_
        refine x_cons ?_
        refine w_ref hE77 (i := 3) rfl ?_
        refine x_nil ?_
        obtain ⟨x85, hx85, hb21⟩ := bnd hb21
        have r86 := ro_s r84 hx85
        obtain ⟨x87, hx87, hb21⟩ := bnd hb21
        refine ⟨_, v81, p_ties, v83, x85, u_known, s14.2, x87, rfl, hE77.fh, hE77.nt, hE77.apart (k := 0) rfl, hE77.cell (k := 0) rfl, r82, r86, hx87, fun v90 _ _ e88 w91 r89 => ?_⟩
        have hE92 : Wst ⟨[u_known], TL⟩ _ _ [(rL (rT2 rN rN)).at p_ties, (rL rN).at p_tokens, (rL rN).at p_shown, sRef u_known, (rO (rL rN)).at s14.1, (rL rN).at x15, (rO (rL rN)).at x34] [(u_known, cDT rB x87.2)] _ _ _ := hE77.call1 (k := 0) (A' := cDT rB x87.2) rfl e88 w91
        obtain rfl := (show v90 = (V.bl x87.1) from r89)
        refine x_bl ?_
        refine x_itb (fun hc93 => ?_) (fun hc93 => ?_)
        · have hb21 := ite_t hb21 hc93
          refine x_asg ?_
          refine w_var hE92 (i := 5) rfl fun v94 r95 => ?_
          refine w_name (R := (rO (rL rN))) (ss' := [(rL (rT2 rN rN)).at p_ties, (rL rN).at p_tokens, (rL rN).at p_shown, sRef u_known, (rO (rL rN)).at (some x15), (rL rN).at x15, (rO (rL rN)).at x34]) hE92 rfl (ro_some r95) fun _ hE96 => ?_
          have hb21 := Option.some.inj hb21
          subst hb21
          exact ⟨adZ, _, no_ad, (((s18.trans e35.ff).trans s76).trans e88.ff), ((hE96.toAny 5).toAny 6)⟩
        · have hb21 := ite_f hb21 hc93
          refine x_next ?_
          have hb21 := Option.some.inj hb21
          subst hb21
          exact ⟨adZ, _, no_ad, (((s18.trans e35.ff).trans s76).trans e88.ff), ((hE92.toAny 5).toAny 6)⟩
      · have hb21 := ite_f hb21 hc80
        refine x_next ?_
        have hb21 := Option.some.inj hb21
        subst hb21
        exact ⟨adZ, _, no_ad, ((s18.trans e35.ff).trans s76), ((hE77.toAny 5).toAny 6)⟩
    have hE100 : Wst ⟨[u_known], TL⟩ _ _ [(rL (rT2 rN rN)).at p_ties, (rL rN).at p_tokens, (rL rN).at p_shown, sRef u_known, (rO (rL rN)).at x26.1, sAny, sAny] [(u_known, cDT rB x26.2)] _ _ _ := hE99
    refine x_ret ?_
    refine w_var hE100 (i := 4) rfl fun v101 r102 => ?_
    have hf := Option.some.inj hf
    subst hf
    exact q _ _ _ hE100.ex (hE100.cell (k := 0) rfl) r102
end
abbrev s_l_led : Stmt := topS 37
theorem sc_l_led : FnScope ["ties", "tokens", "known", "key", "left", "led", "shown", "p"] ["ties", "tokens", "known"] (defScope s_l_led) := ⟨rfl, rfl, rfl, by decide +kernel, rfl, by decide +kernel, by decide +kernel⟩
def f_l_led : Nat → (List (Nat × Nat)) → (List Nat) → (List ((List Nat) × Bool)) → Option (Bool × (List ((List Nat) × Bool)))
  | 0, _, _, _ => none
  | fu + 1, p_ties, p_tokens, U_known =>
  (
    if (!(dgetT U_known p_tokens).isSome) = true then
      (gd (p_tokens.length < 2 ^ 62)).bind fun _ =>
      (compO (β := Nat) (fun (x22 : Nat) =>
        (p_tokens[x22]?).bind fun x37 =>
        if (decide (0 < x37)) = true then
          some (some x22)
        else some none) (List.range p_tokens.length)).bind fun x41 =>
      (gd (x41.length ≤ 100000)).bind fun _ =>
      (f_l_subsets x41).bind fun x59 =>
      (foldO (fun (s65 : Bool × (List ((List Nat) × Bool))) (x66 : (List Nat)) =>
        (if s65.1 = true then (
            (if (!eqD x66 ([] : List Nat)) = true then (
                ((f_l_best (f_l_led fu)) p_ties p_tokens x66 s65.2).bind fun x97 =>
                some (x97.1.isNone, x97.2)
              ) else some (false, s65.2)).bind fun b105 =>
            some (b105.1, b105.2)
          ) else some (false, s65.2)).bind fun b111 =>
        if b111.1 = true then
          some (false, b111.2)
        else
          some (s65.1, b111.2)) x59 (true, U_known)).bind fun x77 =>
      (gd (x77.2.length < 100000)).bind fun _ =>
      some (dputT x77.2 p_tokens x77.1)
    else
      some U_known
    : Option ((List ((List Nat) × Bool)))).bind fun x11 =>
  (dgetT x11 p_tokens).bind fun x130 =>
  some (x130, x11)
section
variable {P : Program} {w : World} {K : PySem.W.Frag} {mg : Str → Option Value} {base : Heap}
theorem t_l_led (T : Tx mg) (F : DefAt K mg "_law_led" s_l_led ["ties", "tokens", "known"]) (c_l_subsets : Cal P w K mg base CX0 1 "_law_subsets" (q_l_subsets TL)) (Fb_l_best : DefAt K mg "_law_best" s_l_best ["ties", "tokens", "shown", "known"]) (c_l_after : Cal P w K mg base CX0 1 "_law_after" (q_l_after TL)) (c_l_apart : Cal P w K mg base CX0 1 "_law_apart" (q_l_apart TL)) : ∀ fu : Nat, Cal P w K mg base CX0 (2 * fu + 3) "_law_led" (q_l_led TL (f_l_led fu)) := by
  intro fu
  induction fu with
  | zero =>
  show Cal P w K mg base CX0 (2 + 1) _ _
  refine F.cal sc_l_led (fun vs H Q E h => ?_) (fun f cdv A outer s H vs Q E hr h => ?_)
  · obtain ⟨_, _, _, _, _, _, _, _, rfl, _⟩ := h
    rfl
  · obtain ⟨F, v_ties, p_ties, v_tokens, p_tokens, u_known, U_known, rr, rfl, sm0, nt0, ap, uc, r_ties, r_tokens, hf, q⟩ := h
    rw [f_l_led] at hf
    cases hf
  | succ fu c_l_led =>
  rw [show 2 * (fu + 1) + 3 = (2 * fu + 4) + 1 by omega]
  have c_l_best := t_l_best T Fb_l_best c_l_subsets c_l_after c_l_apart (by omega) c_l_led
  refine F.cal sc_l_led (fun vs H Q E h => ?_) (fun f cdv A outer s H vs Q E hr h => ?_)
  · obtain ⟨_, _, _, _, _, _, _, _, rfl, _⟩ := h
    rfl
  · obtain ⟨F, v_ties, p_ties, v_tokens, p_tokens, u_known, U_known, rr, rfl, sm0, nt0, ap, uc, r_ties, r_tokens, hf, q⟩ := h
    have hf : _ = some rr := hf
    rw [f_l_led] at hf
    refine ⟨_, (pss_cons (ps_set (i := 3) sc_l_led.nd rfl (Or.inl rfl) (pe_callTy (cl_tupOf K) (by rfl) T.z_tuple (by decide +kernel) (pa_cons (pv 1) pa_nil)))
      (Evl.pss_cut (ps_if (pt_cmp (pc_dnotin (hu_of hr) (pv 3) (pv 2)))
        (pss_cons (ps_setLc (i := 4) (own := [("p", 7)]) (g := gName 7) rfl sc_l_led.nd rfl rfl (sw_true rfl rfl rfl (by decide +kernel)) (pi_range1 rfl T.z_range (pa_cons (pe_callB (cl_len K) (by rfl) T.z_len PySem.boot_len (pa_cons (pv 1) pa_nil)) pa_nil)) (blkOk_by (own := [("p", 7)]) (N := ["ties", "tokens", "known", "key", "left", "led", "shown", "p"]) (sc := defScope s_l_led) (by decide +kernel)) (fun _ _ _ _ _ => (pg_name (i := 7) sc_l_led.nd rfl (Or.inl rfl))) (fun _ _ _ _ _ => pts_one (pt_cmpR op_gt (pe_ix (ix_l K) (pv 1) (pv 7) (fun _ _ => rfl)) pe_int (nomark _))) (fun _ _ _ _ _ => (pv 7)))
      (pss_cons (ps_set (i := 5) sc_l_led.nd rfl (Or.inl rfl) pe_bl)
      (pss_cons (ps_for PassesOwn.never rfl (k_pil K (pe_cal c_l_subsets hr (by omega) rfl pass0 (pa_cons (pv 4) pa_nil))) (pg_name (i := 6) sc_l_led.nd rfl (Or.inl rfl))
        (pss_one (ps_if (PW.pt (pw_and (pt_val (pv 5)) (pw_and (pt_cmpR (k_neD K hr.units) (pv 6) (pe_lst pa_nil) (nomark _)) (pw_and1 (pt_cmpR k_isN (pe_cal c_l_best hr (by omega) rfl pass0 (pa_cons (pv 0) (pa_cons (pv 1) (pa_cons (pv 6) (pa_cons (pv 2) pa_nil))))) pe_non (nomark _))))))
        (pss_one (ps_set (i := 5) sc_l_led.nd rfl (Or.inl rfl) pe_bl)) pss_nil)))
      (pss_one (ps_dput (hu_of hr) (pv 2) (pv 3) (pv 5) rfl))))) pss_nil)
      (pss_one (ps_ret (pe_dget (hu_of hr) (pv 2) (pv 3) (fun _ _ => rfl)))))), ?_⟩
    have hE0 : Wst ⟨[u_known], TL⟩ F H [(rL (rT2 rN rN)).at p_ties, (rL rN).at p_tokens, sRef u_known, sAny, sAny, sAny, sAny, sAny] [(u_known, cDT rB U_known)] (start ["ties", "tokens", "known", "key", "left", "led", "shown", "p"] [v_ties, v_tokens, V.ref u_known]) F H := Wst.start (vs := [v_ties, v_tokens, V.ref u_known]) (n := 5) (ss := [(rL (rT2 rN rN)).at p_ties, (rL rN).at p_tokens, sRef u_known]) (cs := [(u_known, cDT rB U_known)]) sm0 nt0 (fun p hp => by rw [List.mem_singleton.mp hp]; exact ⟨uc, ap, List.mem_singleton.mpr rfl⟩) (List.nodup_cons.mpr ⟨(fun z => by cases z), List.nodup_nil⟩) (.cons ⟨_, rfl, r_ties⟩ (.cons ⟨_, rfl, r_tokens⟩ (.cons rfl .nil)))
    revert hE0
    generalize start ["ties", "tokens", "known", "key", "left", "led", "shown", "p"] [v_ties, v_tokens, V.ref u_known] = σ0
    intro hE0
    refine x_seq ?_
    refine x_asg ?_
    refine x_cb ?_
    refine x_cons ?_
    refine w_var hE0 (i := 1) rfl fun v1 r2 => ?_
    refine x_nil ?_
    refine w_tupOf hE0 (lv_f hE0.fh r2) fun v3 _ _ s4 hE6 r5 => ?_
    refine w_name (R := (rU rN)) (ss' := [(rL (rT2 rN rN)).at p_ties, (rL rN).at p_tokens, sRef u_known, (rU rN).at p_tokens, sAny, sAny, sAny, sAny]) hE6 rfl r5 fun _ hE7 => ?_
    obtain ⟨x11, hx11, hf⟩ := bnd hf
    refine w_cut 0 (fun (s8 : (List ((List Nat) × Bool))) (ad9 : Nat → Addr) => [(rL (rT2 rN rN)).at p_ties, (rL rN).at p_tokens, sRef u_known, (rU rN).at p_tokens, sAny, sAny, sAny, sAny]) (fun (s8 : (List ((List Nat) × Bool))) (ad9 : Nat → Addr) => [(u_known, cDT rB s8)]) x11 hE7 ?_ (fun ad9 _ _ _ ha10 s125 hE126 => ?_)
    · refine x_ifs ?_
      refine x_test ?_
      refine x_dnin ?_
      refine w_var hE7 (i := 3) rfl fun v12 r13 => ?_
      refine w_ref hE7 (i := 2) rfl ?_
      refine w_dmemT hE7.fh r13 (dwt_c hE7 (k := 0) rfl) fun o14 e15 => ?_
      rw [e15]
      refine x_bl ?_
      refine x_itb (fun hc16 => ?_) (fun hc16 => ?_)
      · have hx11 := ite_t hx11 hc16
        refine x_seq ?_
        refine x_asg ?_
        refine x_lc ?_
        refine x_rg1 ?_
        refine x_cons ?_
        refine x_cb ?_
        refine x_cons ?_
        refine w_var hE7 (i := 1) rfl fun v17 r18 => ?_
        refine x_nil ?_
        refine w_len (lv_f hE7.fh r18) ?_
        refine x_nil ?_
        obtain ⟨_, u19, hx11⟩ := bnd hx11
        have u19 := gd_ok u19
        refine w_r1 u19 ?_
        obtain ⟨x41, hx41, hx11⟩ := bnd hx11
        obtain ⟨_, u42, hx11⟩ := bnd hx11
        have u42 := gd_ok u42
        intro c20 d21
        refine w_lc (B := rN) hx41 u42 hE7 d21 (fun _ _ _ sm w48 => jok_r0 w48.fh w48.nt) (fun x22 v24 o25 ac32 _ _ s26 r27 hE28 hb29 z30 ew31 => ?_) (fun _ _ o45 s46 hE47 => ?_)
        · have hE28 : Wst ⟨[u_known], TL⟩ _ _ [(rL (rT2 rN rN)).at p_ties, (rL rN).at p_tokens, sRef u_known, (rU rN).at p_tokens, sAny, sAny, sAny, sAny] [(c20, cL rN ac32), (u_known, cDT rB U_known)] _ _ _ := hE28
          refine w_nameW (ss' := [(rL (rT2 rN rN)).at p_ties, (rL rN).at p_tokens, sRef u_known, (rU rN).at p_tokens, sAny, sAny, sAny, rN.at x22]) hE28 rfl r27 (by decide) ew31 fun _ ew34 hE33 => ?_
          refine ⟨ew34, ?_⟩
          refine x_test ?_
          refine x_op ?_
          refine x_op ?_
          refine w_var hE33 (i := 1) rfl fun v35 r36 => ?_
          refine w_vN hE33 (i := 7) rfl ?_
          obtain ⟨x37, hx37, hb29⟩ := bnd hb29
          refine w_ix (lv_f hE33.fh r36) hx37 fun v38 r39 => ?_
          obtain rfl := (show v38 = (V.int ((x37 : Nat) : Int)) from r39)
          refine w_cN 0 ?_
          refine w_gtN ?_
          refine x_bl ?_
          refine x_itb (fun hc40 => ?_) (fun hc40 => ?_)
          · have hb29 := ite_t hb29 hc40
            refine w_vN hE33 (i := 7) rfl ?_
            have hb29 := Option.some.inj hb29
            subst hb29
            exact w_acc (s := ()) hE33 s26 rfl z30 ew34 rfl
          · have hb29 := ite_f hb29 hc40
            have hb29 := Option.some.inj hb29
            subst hb29
            exact w_skip (s := ()) hE33 s26 ew34 rfl
        have hE49 : Wst ⟨[u_known], TL⟩ _ _ [(rL (rT2 rN rN)).at p_ties, (rL rN).at p_tokens, sRef u_known, (rU rN).at p_tokens, sAny, sAny, sAny, sAny] [(c20, cL rN x41), (u_known, cDT rB U_known)] _ _ _ := hE47
        obtain ⟨F50, s51, hE53, r52⟩ := hE49.freeze (k := 0) rfl o45
        have hE54 : Wst ⟨[u_known], TL⟩ _ _ [(rL (rT2 rN rN)).at p_ties, (rL rN).at p_tokens, sRef u_known, (rU rN).at p_tokens, sAny, sAny, sAny, sAny] [(u_known, cDT rB U_known)] _ _ _ := hE53
        refine w_name (R := (rL rN)) (ss' := [(rL (rT2 rN rN)).at p_ties, (rL rN).at p_tokens, sRef u_known, (rU rN).at p_tokens, (rL rN).at x41, sAny, sAny, sAny]) hE54 rfl r52 fun _ hE55 => ?_
        refine x_seq ?_
        refine x_asg ?_
        refine x_c ?_
        refine w_name (R := rB) (ss' := [(rL (rT2 rN rN)).at p_ties, (rL rN).at p_tokens, sRef u_known, (rU rN).at p_tokens, (rL rN).at x41, rB.at true, sAny, sAny]) hE55 rfl rfl fun _ hE56 => ?_
        refine x_seq ?_
        refine x_for ?_
        refine x_il ?_
        refine x_call ?_
        refine x_cons ?_
        refine w_var hE56 (i := 4) rfl fun v57 r58 => ?_
        refine x_nil ?_
        obtain ⟨x59, hx59, hx11⟩ := bnd hx11
        refine ⟨_, v57, x41, x59, rfl, hE56.fh, hE56.nt, r58, hx59, fun v62 _ _ e60 r61 => ?_⟩
        have hE63 : Wst ⟨[u_known], TL⟩ _ _ [(rL (rT2 rN rN)).at p_ties, (rL rN).at p_tokens, sRef u_known, (rU rN).at p_tokens, (rL rN).at x41, rB.at true, sAny, sAny] [(u_known, cDT rB U_known)] _ _ _ := hE56.grow e60
        refine w_il (lv_f hE63.fh r61) fun a64 ea => ?_
        cases ea
        have hE75 : Wst ⟨[u_known], TL⟩ _ _ [(rL (rT2 rN rN)).at p_ties, (rL rN).at p_tokens, sRef u_known, (rU rN).at p_tokens, (rL rN).at x41, rB.at (true, U_known).1, sAny, sAny] [(u_known, cDT rB (true, U_known).2)] _ _ _ := hE63
        obtain ⟨x77, hx77, hx11⟩ := bnd hx11
        refine w_for 0 (fun (s65 : Bool × (List ((List Nat) × Bool))) (ad73 : Nat → Addr) => [(rL (rT2 rN rN)).at p_ties, (rL rN).at p_tokens, sRef u_known, (rU rN).at p_tokens, (rL rN).at x41, rB.at s65.1, sAny, sAny]) (fun (s65 : Bool × (List ((List Nat) × Bool))) (ad73 : Nat → Addr) => [(u_known, cDT rB s65.2)]) hx77 adZ no_ad hE75 (fun _ ad73 _ _ _ sm w117 => jok_l w117.fh w117.nt (lv_f w117.fh ((rL (rL rN)).mono sm r61))) (fun s65 ad73 x66 v67 o68 _ _ _ ha74 s69 r70 hE71 hb72 => ?_) (fun ad73 _ _ _ ha74 s118 hE119 => ?_)
        · have hE76 : Wst ⟨[u_known], TL⟩ _ _ [(rL (rT2 rN rN)).at p_ties, (rL rN).at p_tokens, sRef u_known, (rU rN).at p_tokens, (rL rN).at x41, rB.at s65.1, sAny, sAny] [(u_known, cDT rB s65.2)] _ _ _ := hE71
          refine w_name (R := (rL rN)) (ss' := [(rL (rT2 rN rN)).at p_ties, (rL rN).at p_tokens, sRef u_known, (rU rN).at p_tokens, (rL rN).at x41, rB.at s65.1, (rL rN).at x66, sAny]) hE76 rfl r70 fun _ hE78 => ?_
          refine x_ifs ?_
          obtain ⟨b111, h112, hb72⟩ := bnd hb72
          refine w_andS (fun U113 => [(u_known, cDT rB U113)]) hE78 (ca := s65.1) h112 (fun _ q0 => ?_) (fun _ _ s81 hE80 _ hkk79 _ q0 => ?_) (fun _ _ s109 hE110 => ?_)
          · refine x_B ?_
            refine w_vB hE78 (i := 5) rfl ?_
            refine x_bl ?_
            exact q0 _ _ (Same.refl _) hE78
          · obtain ⟨b105, h106, hkk79⟩ := bnd hkk79
            refine w_andS (fun U107 => [(u_known, cDT rB U107)]) hE80 (ca := (!eqD x66 ([] : List Nat))) h106 (fun _ q0 => ?_) (fun _ _ s90 hE89 _ hkk88 _ q0 => ?_) (fun _ _ s103 hE104 => ?_)
            · refine x_test ?_
              refine x_op ?_
              refine w_var hE80 (i := 6) rfl fun v82 r83 => ?_
              refine m_lst ?_
              refine x_nil ?_
              refine w_lstF hE80 (R := rN) (l := ([] : List Nat)) (by show 0 ≤ 100000; decide) .nil fun v84 _ _ s85 hE87 r86 => ?_
              refine w_neD (dtL dtN) (a := x66) (b := ([] : List Nat)) (dv_l dtN hE87.fh (lv_f hE87.fh ((rL rN).mono s85 r83))) (dv_l dtN hE87.fh (lv_f hE87.fh r86)) ?_
              refine x_bl ?_
              exact q0 _ _ ((Same.refl _).trans s85) hE87
            · refine x_test ?_
              refine x_op ?_
              refine x_call ?_
              refine x_cons ?_
              refine w_var hE89 (i := 0) rfl fun v91 r92 => ?_
              refine x_cons ?_
              refine w_var hE89 (i := 1) rfl fun v93 r94 => ?_
              refine x_cons ?_
              refine w_var hE89 (i := 6) rfl fun v95 r96 => ?_
              refine x_cons ?_
              refine w_ref hE89 (i := 2) rfl ?_
              refine x_nil ?_
              obtain ⟨x97, hx97, hkk88⟩ := bnd hkk88
              refine ⟨_, v91, p_ties, v93, p_tokens, v95, x66, u_known, s65.2, x97, rfl, hE89.fh, hE89.nt, hE89.apart (k := 0) rfl, hE89.cell (k := 0) rfl, r92, r94, r96, hx97, fun v100 _ _ e98 w101 r99 => ?_⟩
              have hE102 : Wst ⟨[u_known], TL⟩ _ _ [(rL (rT2 rN rN)).at p_ties, (rL rN).at p_tokens, sRef u_known, (rU rN).at p_tokens, (rL rN).at x41, rB.at s65.1, (rL rN).at x66, sAny] [(u_known, cDT rB x97.2)] _ _ _ := hE89.call1 (k := 0) (A' := cDT rB x97.2) rfl e98 w101
              refine x_c ?_
              refine w_isN nn_L r99 ?_
              refine x_bl ?_
              have hkk88 := Option.some.inj hkk88
              subst hkk88
              exact q0 _ _ ((Same.refl _).trans e98.ff) hE102
            have hE108 : Wst ⟨[u_known], TL⟩ _ _ [(rL (rT2 rN rN)).at p_ties, (rL rN).at p_tokens, sRef u_known, (rU rN).at p_tokens, (rL rN).at x41, rB.at s65.1, (rL rN).at x66, sAny] [(u_known, cDT rB b105.2)] _ _ _ := hE104
            have hkk79 := Option.some.inj hkk79
            subst hkk79
            exact q0 _ _ ((Same.refl _).trans s103) hE108
          have hE114 : Wst ⟨[u_known], TL⟩ _ _ [(rL (rT2 rN rN)).at p_ties, (rL rN).at p_tokens, sRef u_known, (rU rN).at p_tokens, (rL rN).at x41, rB.at s65.1, (rL rN).at x66, sAny] [(u_known, cDT rB b111.2)] _ _ _ := hE110
          refine x_itb (fun hc115 => ?_) (fun hc115 => ?_)
          · have hb72 := ite_t hb72 hc115
            refine x_asg ?_
            refine x_c ?_
            refine w_name (R := rB) (ss' := [(rL (rT2 rN rN)).at p_ties, (rL rN).at p_tokens, sRef u_known, (rU rN).at p_tokens, (rL rN).at x41, rB.at false, (rL rN).at x66, sAny]) hE114 rfl rfl fun _ hE116 => ?_
            have hb72 := Option.some.inj hb72
            subst hb72
            exact ⟨adZ, _, no_ad, (s69.trans s109), (hE116.toAny 6)⟩
          · have hb72 := ite_f hb72 hc115
            refine x_next ?_
            have hb72 := Option.some.inj hb72
            subst hb72
            exact ⟨adZ, _, no_ad, (s69.trans s109), (hE114.toAny 6)⟩
        have hE120 : Wst ⟨[u_known], TL⟩ _ _ [(rL (rT2 rN rN)).at p_ties, (rL rN).at p_tokens, sRef u_known, (rU rN).at p_tokens, (rL rN).at x41, rB.at x77.1, sAny, sAny] [(u_known, cDT rB x77.2)] _ _ _ := hE119
        refine x_dput ?_
        refine w_vB hE120 (i := 5) rfl ?_
        refine w_ref hE120 (i := 2) rfl ?_
        refine w_var hE120 (i := 3) rfl fun v121 r122 => ?_
        obtain ⟨_, u123, hx11⟩ := bnd hx11
        have u123 := gd_ok u123
        refine w_dputT hE120 (k := 0) (b := x77.1) rfl r122 u123 rfl (cs' := [(u_known, cDT rB (dputT x77.2 p_tokens x77.1))]) rfl fun _ hE124 => ?_
        have hx11 := Option.some.inj hx11
        subst hx11
        exact ⟨adZ, _, no_ad, (((((Same.refl _).trans s46).trans s51).trans e60.ff).trans s118), ((hE124.toAny 4).toAny 5)⟩
      · have hx11 := ite_f hx11 hc16
        refine x_next ?_
        have hx11 := Option.some.inj hx11
        subst hx11
        exact ⟨adZ, _, no_ad, (Same.refl _), hE7⟩
    have hE127 : Wst ⟨[u_known], TL⟩ _ _ [(rL (rT2 rN rN)).at p_ties, (rL rN).at p_tokens, sRef u_known, (rU rN).at p_tokens, sAny, sAny, sAny, sAny] [(u_known, cDT rB x11)] _ _ _ := hE126
    refine x_ret ?_
    refine x_dget ?_
    refine w_ref hE127 (i := 2) rfl ?_
    refine w_var hE127 (i := 3) rfl fun v128 r129 => ?_
    obtain ⟨x130, hx130, hf⟩ := bnd hf
    refine w_dgetT hE127.fh r129 (dwt_c hE127 (k := 0) rfl) hx130 fun v131 r132 => ?_
    obtain rfl := (show v131 = (V.bl x130) from r132)
    have hf := Option.some.inj hf
    subst hf
    exact q _ _ _ hE127.ex (hE127.cell (k := 0) rfl) rfl
end
abbrev s_l_first : Stmt := topS 38
theorem sc_l_first : FnScope ["ties", "tokens", "known", "rows", "size", "shown", "row"] ["ties", "tokens", "known"] (defScope s_l_first) := ⟨rfl, rfl, rfl, by decide +kernel, rfl, by decide +kernel, by decide +kernel⟩
def f_l_first (p_ties : (List (Nat × Nat))) (p_tokens : (List Nat)) (U_known : (List ((List Nat) × Bool))) : Option ((Option (List Nat)) × (List ((List Nat) × Bool))) :=
  (gd (p_tokens.length ≤ 100000)).bind fun _ =>
  (f_l_subsets (List.range p_tokens.length)).bind fun x8 =>
  (compO (β := (List Nat)) (fun (x16 : (List Nat)) =>
    if (!eqD x16 ([] : List Nat)) = true then
      some (some x16)
    else some none) x8).bind fun x38 =>
  (gd (x38.length ≤ 100000)).bind fun _ =>
  (gd (1 < 2 ^ 62 ∧ (1 + p_tokens.length) < 2 ^ 62)).bind fun _ =>
  (loopO (S := (List ((List Nat) × Bool))) (T := ((Option (List Nat)) × (List ((List Nat) × Bool)))) (fun s56 (x57 : Nat) =>
    (compO (β := (List Nat)) (fun (x75 : (List Nat)) =>
      if (decide (x75.length = x57)) = true then
        some (some x75)
      else some none) x38).bind fun x93 =>
    (gd (x93.length ≤ 100000)).bind fun _ =>
    (loopO (S := (List ((List Nat) × Bool))) (T := ((Option (List Nat)) × (List ((List Nat) × Bool)))) (fun s107 (x108 : (List Nat)) =>
      ((f_l_best (f_l_led 17)) p_ties p_tokens x108 s107).bind fun x127 =>
      if x127.1.isNone = true then
        some (Stp.rt ((some x108), x127.2))
      else
        some (Stp.nx x127.2)) (srtD (dtL dtN).d x93) s56).bind fun x119 =>
    match x119 with
    | .rt t => some (Stp.rt t)
    | .bk _ => none
    | .nx x119s =>
      some (Stp.nx x119s)) ((List.range ((1 + p_tokens.length) - 1)).map fun k => 1 + k) U_known).bind fun x68 =>
  match x68 with
  | .rt t => some t
  | .bk _ => none
  | .nx x68s =>
    some ((none : (Option (List Nat))), x68s)
def q_l_first (TL : List (Addr × Str)) : Sp := fun vs H Q _ => ∃ (F : Hp) (v_ties : V) (p_ties : (List (Nat × Nat))) (v_tokens : V) (p_tokens : (List Nat)) (u : Addr) (U : (List ((List Nat) × Bool))) (rr : (Option (List Nat)) × (List ((List Nat) × Bool))), vs = [v_ties, v_tokens, V.ref u] ∧ Same F H ∧ NoT F ∧ F u = none ∧ (∃ o, H u = some o ∧ (cDT rB U).p F o) ∧ (rL (rT2 rN rN)).r F v_ties p_ties ∧ (rL rN).r F v_tokens p_tokens ∧ f_l_first p_ties p_tokens U = some rr ∧ ∀ v F' H', Ext ⟨[u], TL⟩ F H F' H' → (∃ o, H' u = some o ∧ (cDT rB rr.2).p F' o) → (rO (rL rN)).r F' v rr.1 → Q v H'
section
variable {P : Program} {w : World} {K : PySem.W.Frag} {mg : Str → Option Value} {base : Heap}
theorem t_l_first (T : Tx mg) (F : DefAt K mg "_law_first" s_l_first ["ties", "tokens", "known"]) (c_l_subsets : Cal P w K mg base CX0 1 "_law_subsets" (q_l_subsets TL)) (c_l_best : Cal P w K mg base CX0 38 "_law_best" (q_l_best TL (f_l_led 17))) : Cal P w K mg base CX0 39 "_law_first" (q_l_first TL) := by
  refine F.cal sc_l_first (fun vs H Q E h => ?_) (fun f cdv A outer s H vs Q E hr h => ?_)
  · obtain ⟨_, _, _, _, _, _, _, _, rfl, _⟩ := h
    rfl
  · obtain ⟨F, v_ties, p_ties, v_tokens, p_tokens, u_known, U_known, rr, rfl, sm0, nt0, ap, uc, r_ties, r_tokens, hf, q⟩ := h
    have hf : _ = some rr := hf
    unfold f_l_first at hf
    refine ⟨_, (pss_cons (ps_setLc (i := 3) (own := [("row", 6)]) (g := gName 6) rfl sc_l_first.nd rfl rfl (sw_true rfl rfl rfl (by decide +kernel)) (k_pil K (pe_cal c_l_subsets hr (by decide) rfl pass0 (pa_cons (pe_listRg rfl rfl T.z_list (prg_1 rfl T.z_range (pe_callB (cl_len K) (by rfl) T.z_len PySem.boot_len (pa_cons (pv 1) pa_nil)))) pa_nil))) (blkOk_by (own := [("row", 6)]) (N := ["ties", "tokens", "known", "rows", "size", "shown", "row"]) (sc := defScope s_l_first) (by decide +kernel)) (fun _ _ _ _ _ => (pg_name (i := 6) sc_l_first.nd rfl (Or.inl rfl))) (fun _ _ _ _ _ => pts_one (pt_cmpR (k_neD K hr.units) (pv 6) (pe_lst pa_nil) (nomark _))) (fun _ _ _ _ _ => (pv 6)))
      (pss_cons (ps_for PassesOwn.never rfl (pi_range2 rfl T.z_range (pa_cons pe_int (pa_cons (pe_op op_add pe_int (pe_callB (cl_len K) (by rfl) T.z_len PySem.boot_len (pa_cons (pv 1) pa_nil))) pa_nil))) (pg_name (i := 4) sc_l_first.nd rfl (Or.inr rfl))
        (pss_one (ps_for PassesOwn.never rfl (k_pil K (pe_callB (cl_sortA K hr.units) (by rfl) T.z_sorted (by decide +kernel) (pa_cons (pe_lc (own := [("row", 6)]) (g := gName 6) rfl sc_l_first.nd (k_pil K (pv 3)) (blkOk_by (own := [("row", 6)]) (N := ["ties", "tokens", "known", "rows", "size", "shown", "row"]) (sc := defScope s_l_first) (by decide +kernel)) (fun _ _ _ _ _ => (pg_name (i := 6) sc_l_first.nd rfl (Or.inl rfl))) (fun _ _ _ _ _ => pts_one (pt_cmpR op_eq (pe_callB (cl_len K) (by rfl) T.z_len PySem.boot_len (pa_cons (pv 6) pa_nil)) (pv 4) (nomark _))) (fun _ _ _ _ _ => (pv 6))) pa_nil))) (pg_name (i := 5) sc_l_first.nd rfl (Or.inl rfl))
        (pss_one (ps_if (pt_cmpR k_isN (pe_cal c_l_best hr (by decide) rfl pass0 (pa_cons (pv 0) (pa_cons (pv 1) (pa_cons (pv 5) (pa_cons (pv 2) pa_nil))))) pe_non (nomark _))
        (pss_one (ps_ret (pv 5))) pss_nil)))))
      (pss_one (ps_ret pe_non)))), ?_⟩
    have hE0 : Wst ⟨[u_known], TL⟩ F H [(rL (rT2 rN rN)).at p_ties, (rL rN).at p_tokens, sRef u_known, sAny, sAny, sAny, sAny] [(u_known, cDT rB U_known)] (start ["ties", "tokens", "known", "rows", "size", "shown", "row"] [v_ties, v_tokens, V.ref u_known]) F H := Wst.start (vs := [v_ties, v_tokens, V.ref u_known]) (n := 4) (ss := [(rL (rT2 rN rN)).at p_ties, (rL rN).at p_tokens, sRef u_known]) (cs := [(u_known, cDT rB U_known)]) sm0 nt0 (fun p hp => by rw [List.mem_singleton.mp hp]; exact ⟨uc, ap, List.mem_singleton.mpr rfl⟩) (List.nodup_cons.mpr ⟨(fun z => by cases z), List.nodup_nil⟩) (.cons ⟨_, rfl, r_ties⟩ (.cons ⟨_, rfl, r_tokens⟩ (.cons rfl .nil)))
    revert hE0
    generalize start ["ties", "tokens", "known", "rows", "size", "shown", "row"] [v_ties, v_tokens, V.ref u_known] = σ0
    intro hE0
    refine x_seq ?_
    refine x_asg ?_
    refine x_lc ?_
    refine x_il ?_
    refine x_call ?_
    refine x_cons ?_
    refine m_lstRg ?_
    refine x_tRg1 ?_
    refine x_cb ?_
    refine x_cons ?_
    refine w_var hE0 (i := 1) rfl fun v1 r2 => ?_
    refine x_nil ?_
    refine w_len (lv_f hE0.fh r2) ?_
    refine x_rgN ?_
    obtain ⟨_, u3, hf⟩ := bnd hf
    have u3 := gd_ok u3
    refine w_lrgF hE0 u3 fun v4 _ _ s5 hE7 r6 => ?_
    refine x_nil ?_
    obtain ⟨x8, hx8, hf⟩ := bnd hf
    refine ⟨_, v4, (List.range p_tokens.length), x8, rfl, hE7.fh, hE7.nt, r6, hx8, fun v11 _ _ e9 r10 => ?_⟩
    have hE12 : Wst ⟨[u_known], TL⟩ _ _ [(rL (rT2 rN rN)).at p_ties, (rL rN).at p_tokens, sRef u_known, sAny, sAny, sAny, sAny] [(u_known, cDT rB U_known)] _ _ _ := hE7.grow e9
    refine w_il (lv_f hE12.fh r10) fun a13 ea => ?_
    cases ea
    obtain ⟨x38, hx38, hf⟩ := bnd hf
    obtain ⟨_, u39, hf⟩ := bnd hf
    have u39 := gd_ok u39
    intro c14 d15
    refine w_lc (B := (rL rN)) hx38 u39 hE12 d15 (fun _ _ _ sm w45 => jok_l w45.fh w45.nt (lv_f w45.fh ((rL (rL rN)).mono sm r10))) (fun x16 v18 o19 ac26 _ _ s20 r21 hE22 hb23 z24 ew25 => ?_) (fun _ _ o42 s43 hE44 => ?_)
    · have hE22 : Wst ⟨[u_known], TL⟩ _ _ [(rL (rT2 rN rN)).at p_ties, (rL rN).at p_tokens, sRef u_known, sAny, sAny, sAny, sAny] [(c14, cL (rL rN) ac26), (u_known, cDT rB U_known)] _ _ _ := hE22
      refine w_nameW (ss' := [(rL (rT2 rN rN)).at p_ties, (rL rN).at p_tokens, sRef u_known, sAny, sAny, sAny, (rL rN).at x16]) hE22 rfl r21 (by decide) ew25 fun _ ew28 hE27 => ?_
      refine ⟨ew28, ?_⟩
      refine x_test ?_
      refine x_op ?_
      refine w_var hE27 (i := 6) rfl fun v29 r30 => ?_
      refine m_lst ?_
      refine x_nil ?_
      refine w_lstF hE27 (R := rN) (l := ([] : List Nat)) (by show 0 ≤ 100000; decide) .nil fun v31 _ _ s32 hE34 r33 => ?_
      refine w_neD (dtL dtN) (a := x16) (b := ([] : List Nat)) (dv_l dtN hE34.fh (lv_f hE34.fh ((rL rN).mono s32 r30))) (dv_l dtN hE34.fh (lv_f hE34.fh r33)) ?_
      refine x_bl ?_
      refine x_itb (fun hc35 => ?_) (fun hc35 => ?_)
      · have hb23 := ite_t hb23 hc35
        refine w_var hE34 (i := 6) rfl fun v36 r37 => ?_
        have hb23 := Option.some.inj hb23
        subst hb23
        exact w_acc (s := ()) hE34 (s20.trans s32) r37 z24 ew28 rfl
      · have hb23 := ite_f hb23 hc35
        have hb23 := Option.some.inj hb23
        subst hb23
        exact w_skip (s := ()) hE34 (s20.trans s32) ew28 rfl
    have hE46 : Wst ⟨[u_known], TL⟩ _ _ [(rL (rT2 rN rN)).at p_ties, (rL rN).at p_tokens, sRef u_known, sAny, sAny, sAny, sAny] [(c14, cL (rL rN) x38), (u_known, cDT rB U_known)] _ _ _ := hE44
    obtain ⟨F47, s48, hE50, r49⟩ := hE46.freeze (k := 0) rfl o42
    have hE51 : Wst ⟨[u_known], TL⟩ _ _ [(rL (rT2 rN rN)).at p_ties, (rL rN).at p_tokens, sRef u_known, sAny, sAny, sAny, sAny] [(u_known, cDT rB U_known)] _ _ _ := hE50
    refine w_name (R := (rL (rL rN))) (ss' := [(rL (rT2 rN rN)).at p_ties, (rL rN).at p_tokens, sRef u_known, (rL (rL rN)).at x38, sAny, sAny, sAny]) hE51 rfl r49 fun _ hE52 => ?_
    refine x_seq ?_
    refine x_for ?_
    refine x_rg2 ?_
    refine x_cons ?_
    refine w_cN 1 ?_
    refine x_cons ?_
    refine x_op ?_
    refine w_cN 1 ?_
    refine x_cb ?_
    refine x_cons ?_
    refine w_var hE52 (i := 1) rfl fun v53 r54 => ?_
    refine x_nil ?_
    refine w_len (lv_f hE52.fh r54) ?_
    refine w_addN ?_
    refine x_nil ?_
    obtain ⟨_, u55, hf⟩ := bnd hf
    have u55 := gd_ok u55
    refine w_r2 u55 ?_
    have hE66 : Wst ⟨[u_known], TL⟩ _ _ [(rL (rT2 rN rN)).at p_ties, (rL rN).at p_tokens, sRef u_known, (rL (rL rN)).at x38, sAny, sAny, sAny] [(u_known, cDT rB U_known)] _ _ _ := hE52
    obtain ⟨x68, hx68, hf⟩ := bnd hf
    refine w_forS 0 (fun (s56 : (List ((List Nat) × Bool))) (ad64 : Nat → Addr) => [(rL (rT2 rN rN)).at p_ties, (rL rN).at p_tokens, sRef u_known, (rL (rL rN)).at x38, sAny, sAny, sAny]) (fun (s56 : (List ((List Nat) × Bool))) (ad64 : Nat → Addr) => [(u_known, cDT rB s56)]) hx68 adZ no_ad hE66 (fun _ ad64 _ _ _ sm w140 => jok_r w140.fh w140.nt) (fun s56 ad64 x57 v58 o59 _ _ _ ha65 s60 r61 hE62 hb63 hrx68 hkx68 => ?_) (fun x68s ad64 _ _ _ eex68 ha65 s141 hE142 => ?_)
    · have hE67 : Wst ⟨[u_known], TL⟩ _ _ [(rL (rT2 rN rN)).at p_ties, (rL rN).at p_tokens, sRef u_known, (rL (rL rN)).at x38, sAny, sAny, sAny] [(u_known, cDT rB s56)] _ _ _ := hE62
      obtain rfl := (show v58 = (V.int ((x57 : Nat) : Int)) from r61)
      refine w_name (R := rN) (ss' := [(rL (rT2 rN rN)).at p_ties, (rL rN).at p_tokens, sRef u_known, (rL (rL rN)).at x38, rN.at x57, sAny, sAny]) hE67 rfl rfl fun _ hE69 => ?_
      refine x_for ?_
      refine x_il ?_
      refine x_cb ?_
      refine x_cons ?_
      refine x_lc ?_
      refine x_il ?_
      refine w_var hE69 (i := 3) rfl fun v70 r71 => ?_
      refine w_il (lv_f hE69.fh r71) fun a72 ea => ?_
      cases ea
      obtain ⟨x93, hx93, hb63⟩ := bnd hb63
      obtain ⟨_, u94, hb63⟩ := bnd hb63
      have u94 := gd_ok u94
      intro c73 d74
      refine w_lc (B := (rL rN)) hx93 u94 hE69 d74 (fun _ _ _ sm w100 => jok_l w100.fh w100.nt (lv_f w100.fh ((rL (rL rN)).mono sm r71))) (fun x75 v77 o78 ac85 _ _ s79 r80 hE81 hb82 z83 ew84 => ?_) (fun _ _ o97 s98 hE99 => ?_)
      · have hE81 : Wst ⟨[u_known], TL⟩ _ _ [(rL (rT2 rN rN)).at p_ties, (rL rN).at p_tokens, sRef u_known, (rL (rL rN)).at x38, rN.at x57, sAny, sAny] [(c73, cL (rL rN) ac85), (u_known, cDT rB s56)] _ _ _ := hE81
        refine w_nameW (ss' := [(rL (rT2 rN rN)).at p_ties, (rL rN).at p_tokens, sRef u_known, (rL (rL rN)).at x38, rN.at x57, sAny, (rL rN).at x75]) hE81 rfl r80 (by decide) ew84 fun _ ew87 hE86 => ?_
        refine ⟨ew87, ?_⟩
        refine x_test ?_
        refine x_op ?_
        refine x_cb ?_
        refine x_cons ?_
        refine w_var hE86 (i := 6) rfl fun v88 r89 => ?_
        refine x_nil ?_
        refine w_len (lv_f hE86.fh r89) ?_
        refine w_vN hE86 (i := 4) rfl ?_
        refine w_eqN ?_
        refine x_bl ?_
        refine x_itb (fun hc90 => ?_) (fun hc90 => ?_)
        · have hb82 := ite_t hb82 hc90
          refine w_var hE86 (i := 6) rfl fun v91 r92 => ?_
          have hb82 := Option.some.inj hb82
          subst hb82
          exact w_acc (s := ()) hE86 s79 r92 z83 ew87 rfl
        · have hb82 := ite_f hb82 hc90
          have hb82 := Option.some.inj hb82
          subst hb82
          exact w_skip (s := ()) hE86 s79 ew87 rfl
      have hE101 : Wst ⟨[u_known], TL⟩ _ _ [(rL (rT2 rN rN)).at p_ties, (rL rN).at p_tokens, sRef u_known, (rL (rL rN)).at x38, rN.at x57, sAny, sAny] [(c73, cL (rL rN) x93), (u_known, cDT rB s56)] _ _ _ := hE99
      refine x_nil ?_
      refine w_srtDF hE101 (lv_c hE101 (k := 0) rfl) (alkL alkN) (by decide) fun v102 _ _ s103 hE105 r104 => ?_
      refine w_il (lv_f hE105.fh r104) fun a106 ea => ?_
      cases ea
      have hE117 : Wst ⟨[u_known], TL⟩ _ _ [(rL (rT2 rN rN)).at p_ties, (rL rN).at p_tokens, sRef u_known, (rL (rL rN)).at x38, rN.at x57, sAny, sAny] [(c73, cL (rL rN) x93), (u_known, cDT rB s56)] _ _ _ := hE105
      obtain ⟨x119, hx119, hb63⟩ := bnd hb63
      refine w_forS 0 (fun (s107 : (List ((List Nat) × Bool))) (ad115 : Nat → Addr) => [(rL (rT2 rN rN)).at p_ties, (rL rN).at p_tokens, sRef u_known, (rL (rL rN)).at x38, rN.at x57, sAny, sAny]) (fun (s107 : (List ((List Nat) × Bool))) (ad115 : Nat → Addr) => [(c73, cL (rL rN) x93), (u_known, cDT rB s107)]) hx119 adZ no_ad hE117 (fun _ ad115 _ _ _ sm w136 => jok_l w136.fh w136.nt (lv_f w136.fh ((rL (rL rN)).mono sm r104))) (fun s107 ad115 x108 v109 o110 _ _ _ ha116 s111 r112 hE113 hb114 hrx119 hkx119 => ?_) (fun x119s ad115 _ _ _ eex119 ha116 s137 hE138 => ?_)
      · have hE118 : Wst ⟨[u_known], TL⟩ _ _ [(rL (rT2 rN rN)).at p_ties, (rL rN).at p_tokens, sRef u_known, (rL (rL rN)).at x38, rN.at x57, sAny, sAny] [(c73, cL (rL rN) x93), (u_known, cDT rB s107)] _ _ _ := hE113
        refine w_name (R := (rL rN)) (ss' := [(rL (rT2 rN rN)).at p_ties, (rL rN).at p_tokens, sRef u_known, (rL (rL rN)).at x38, rN.at x57, (rL rN).at x108, sAny]) hE118 rfl r112 fun _ hE120 => ?_
        refine x_ifs ?_
        refine x_test ?_
        refine x_op ?_
        refine x_call ?_
        refine x_cons ?_
        refine w_var hE120 (i := 0) rfl fun v121 r122 => ?_
        refine x_cons ?_
        refine w_var hE120 (i := 1) rfl fun v123 r124 => ?_
        refine x_cons ?_
        refine w_var hE120 (i := 5) rfl fun v125 r126 => ?_
        refine x_cons ?_
        refine w_ref hE120 (i := 2) rfl ?_
        refine x_nil ?_
        obtain ⟨x127, hx127, hb114⟩ := bnd hb114
        refine ⟨_, v121, p_ties, v123, p_tokens, v125, x108, u_known, s107, x127, rfl, hE120.fh, hE120.nt, hE120.apart (k := 1) rfl, hE120.cell (k := 1) rfl, r122, r124, r126, hx127, fun v130 _ _ e128 w131 r129 => ?_⟩
        have hE132 : Wst ⟨[u_known], TL⟩ _ _ [(rL (rT2 rN rN)).at p_ties, (rL rN).at p_tokens, sRef u_known, (rL (rL rN)).at x38, rN.at x57, (rL rN).at x108, sAny] [(c73, cL (rL rN) x93), (u_known, cDT rB x127.2)] _ _ _ := hE120.call1 (k := 1) (A' := cDT rB x127.2) rfl e128 w131
        refine x_c ?_
        refine w_isN nn_L r129 ?_
        refine x_bl ?_
        refine x_itb (fun hc133 => ?_) (fun hc133 => ?_)
        · have hb114 := ite_t hb114 hc133
          refine x_ret ?_
          refine w_var hE132 (i := 5) rfl fun v134 r135 => ?_
          have hb114 := Option.some.inj hb114
          subst hb114
          cases (hrx119 _ rfl)
          have hb63 := Option.some.inj hb63
          subst hb63
          cases (hrx68 _ rfl)
          have hf := Option.some.inj hf
          subst hf
          exact q _ _ _ hE132.ex (hE132.cell (k := 1) rfl) (ro_some r135)
        · have hb114 := ite_f hb114 hc133
          refine x_next ?_
          have hb114 := Option.some.inj hb114
          subst hb114
          exact ⟨_, rfl, ⟨adZ, _, no_ad, (s111.trans e128.ff), (hE132.toAny 5)⟩⟩
      subst eex119
      have hE139 : Wst ⟨[u_known], TL⟩ _ _ [(rL (rT2 rN rN)).at p_ties, (rL rN).at p_tokens, sRef u_known, (rL (rL rN)).at x38, rN.at x57, sAny, sAny] [(c73, cL (rL rN) x93), (u_known, cDT rB x119s)] _ _ _ := hE138
      have hb63 := Option.some.inj hb63
      subst hb63
      exact ⟨_, rfl, ⟨adZ, _, no_ad, (((s60.trans s98).trans s103).trans s137), ((hE139.dropC 0).toAny 4)⟩⟩
    subst eex68
    have hE143 : Wst ⟨[u_known], TL⟩ _ _ [(rL (rT2 rN rN)).at p_ties, (rL rN).at p_tokens, sRef u_known, (rL (rL rN)).at x38, sAny, sAny, sAny] [(u_known, cDT rB x68s)] _ _ _ := hE142
    refine x_ret ?_
    refine x_c ?_
    have hf := Option.some.inj hf
    subst hf
    exact q _ _ _ hE143.ex (hE143.cell (k := 0) rfl) rfl
end
abbrev s_showing : Stmt := topS 25
theorem sc_showing : FnScope ["web", "tokens", "beside", "known", "shown"] ["web", "tokens"] (defScope s_showing) := ⟨rfl, rfl, rfl, by decide +kernel, rfl, by decide +kernel, by decide +kernel⟩
def f_showing (p_web : Wb) (p_tokens : (List Nat)) : Option ((Option (List Nat))) :=
  (f_check_lengths p_web p_tokens).bind fun x5 =>
  (f_beside_of p_web).bind fun x12 =>
  (gd (p_web.length < 2 ^ 62)).bind fun _ =>
  (gd (p_web.length ≤ 100000)).bind fun _ =>
  (f_subsets (List.range p_web.length)).bind fun x43 =>
  (f_shortest_first x43).bind fun x48 =>
  (loopO (S := (List ((List Nat) × Bool))) (T := (Option (List Nat))) (fun s54 (x55 : (List Nat)) =>
    (if (!eqD x55 ([] : List Nat)) = true then (
        ((f_best_painting (f_painter_wins 17)) x12 p_tokens x55 s54).bind fun x87 =>
        some (x87.1.isNone, x87.2)
      ) else some (false, s54)).bind fun b95 =>
    if b95.1 = true then
      some (Stp.rt (some x55))
    else
      some (Stp.nx b95.2)) x48 ([] : (List ((List Nat) × Bool)))).bind fun x66 =>
  match x66 with
  | .rt t => some t
  | .bk _ => none
  | .nx x66s =>
    some none
def q_showing (TL : List (Addr × Str)) (C_Web : Addr) : Sp := fun vs H Q _ => ∃ (F : Hp) (v_web : V) (p_web : Wb) (v_tokens : V) (p_tokens : (List Nat)) (rr : (Option (List Nat))), vs = [v_web, v_tokens] ∧ Same F H ∧ NoT F ∧ LamX.Tabs TL H ∧ (rWb C_Web).r F v_web p_web ∧ (rL rN).r F v_tokens p_tokens ∧ f_showing p_web p_tokens = some rr ∧ OptC ⟨[], TL⟩ F H rN rr Q
section
variable {P : Program} {w : World} {K : PySem.W.Frag} {mg : Str → Option Value} {base : Heap}
theorem t_showing {C_Web : Addr} (T : Tx mg) (O_Web : Own K mg "Web" C_Web) (F : DefAt K mg "showing" s_showing ["web", "tokens"]) (c_check_lengths : Cal P w K mg base CX0 3 "check_lengths" (q_check_lengths TL C_Web)) (c_beside_of : Cal P w K mg base CX0 4 "beside_of" (q_beside_of TL C_Web)) (o_WebD_lenD : Met P w K mg base CX0 1 C_Web "__len__" (q_WebD_lenD TL C_Web)) (c_subsets : Cal P w K mg base CX0 1 "subsets" (q_subsets TL)) (c_shortest_first : Cal P w K mg base CX0 4 "shortest_first" (q_shortest_first TL)) (c_best_painting : Cal P w K mg base CX0 41 "best_painting" (q_best_painting TL (f_painter_wins 17))) : Cal P w K mg base CX0 42 "showing" (q_showing TL C_Web) := by
  refine F.cal sc_showing (fun vs H Q E h => ?_) (fun f cdv A outer s H vs Q E hr h => ?_)
  · obtain ⟨_, _, _, _, _, _, rfl, _⟩ := h
    rfl
  · obtain ⟨F, v_web, p_web, v_tokens, p_tokens, rr, rfl, sm0, nt0, tb0, r_web, r_tokens, hf, q⟩ := h
    have hf : _ = some rr := hf
    unfold f_showing at hf
    refine ⟨_, (pss_cons (ps_expr (pe_cal c_check_lengths hr (by decide) rfl pass0 (pa_cons (pv 0) (pa_cons (pv 1) pa_nil))))
      (pss_cons (ps_set (i := 2) sc_showing.nd rfl (Or.inl rfl) (pe_cal c_beside_of hr (by decide) rfl pass0 (pa_cons (pv 0) pa_nil)))
      (pss_cons (ps_set (i := 3) sc_showing.nd rfl (Or.inl rfl) pe_dnewT)
      (pss_cons (ps_for PassesOwn.never rfl (k_pil K (pe_cal c_shortest_first hr (by decide) rfl pass0 (pa_cons (pe_cal c_subsets hr (by decide) rfl pass0 (pa_cons (pe_listRg rfl rfl T.z_list (prg_1 rfl T.z_range (pe_callB (call_lenO o_WebD_lenD hr (by decide) pass0) (by rfl) T.z_len PySem.boot_len (pa_cons (pv 0) pa_nil)))) pa_nil)) pa_nil))) (pg_name (i := 4) sc_showing.nd rfl (Or.inl rfl))
        (pss_one (ps_if (PW.pt (pw_and (pt_cmpR (k_neD K hr.units) (pv 4) (pe_lst pa_nil) (nomark _)) (pw_and1 (pt_cmpR k_isN (pe_cal c_best_painting hr (by decide) rfl pass0 (pa_cons (pv 2) (pa_cons (pe_callTy (cl_tupOf K) (by rfl) T.z_tuple (by decide +kernel) (pa_cons (pv 1) pa_nil)) (pa_cons (pv 4) (pa_cons (pv 3) pa_nil))))) pe_non (nomark _)))))
        (pss_one (ps_ret (pv 4))) pss_nil)))
      (pss_one (ps_ret pe_non)))))), ?_⟩
    have hE0 : Wst ⟨[], TL⟩ F H [(rWb C_Web).at p_web, (rL rN).at p_tokens, sAny, sAny, sAny] [] (start ["web", "tokens", "beside", "known", "shown"] [v_web, v_tokens]) F H := Wst.start (vs := [v_web, v_tokens]) (n := 3) (ss := [(rWb C_Web).at p_web, (rL rN).at p_tokens]) (cs := []) sm0 nt0 (fun p hp => by cases hp) List.nodup_nil (.cons ⟨_, rfl, r_web⟩ (.cons ⟨_, rfl, r_tokens⟩ .nil))
    revert hE0
    generalize start ["web", "tokens", "beside", "known", "shown"] [v_web, v_tokens] = σ0
    intro hE0
    refine x_seq ?_
    refine x_drop ?_
    refine x_call ?_
    refine x_cons ?_
    refine w_var hE0 (i := 0) rfl fun v1 r2 => ?_
    refine x_cons ?_
    refine w_var hE0 (i := 1) rfl fun v3 r4 => ?_
    refine x_nil ?_
    obtain ⟨x5, hx5, hf⟩ := bnd hf
    refine ⟨_, v1, p_web, v3, p_tokens, x5, rfl, hE0.fh, hE0.nt, r2, r4, hx5, fun v8 _ _ e6 r7 => ?_⟩
    have hE9 : Wst ⟨[], TL⟩ _ _ [(rWb C_Web).at p_web, (rL rN).at p_tokens, sAny, sAny, sAny] [] _ _ _ := hE0.grow e6
    obtain rfl := (show v8 = V.non from r7)
    refine x_seq ?_
    refine x_asg ?_
    refine x_call ?_
    refine x_cons ?_
    refine w_var hE9 (i := 0) rfl fun v10 r11 => ?_
    refine x_nil ?_
    obtain ⟨x12, hx12, hf⟩ := bnd hf
    refine ⟨_, v10, p_web, x12, rfl, hE9.fh, hE9.nt, r11, hx12, fun c15 _ _ e13 o16 p17 q18 => ?_⟩
    have hE19 : Wst ⟨[], TL⟩ _ _ [(rWb C_Web).at p_web, (rL rN).at p_tokens, sAny, sAny, sAny] [] _ _ _ := hE9.grow e13
    have o20 := hE9.own o16
    have hE21 : Wst ⟨[], TL⟩ _ _ [(rWb C_Web).at p_web, (rL rN).at p_tokens, sAny, sAny, sAny] [(c15, cL (rL rN) x12)] _ _ _ := hE19.addC (A := cL (rL rN) x12) o20 p17 q18 (hE9.fresh_ne o16)
    obtain ⟨F22, s23, hE25, r24⟩ := hE21.freeze (k := 0) rfl o20
    have hE26 : Wst ⟨[], TL⟩ _ _ [(rWb C_Web).at p_web, (rL rN).at p_tokens, sAny, sAny, sAny] [] _ _ _ := hE25
    refine w_name (R := (rL (rL rN))) (ss' := [(rWb C_Web).at p_web, (rL rN).at p_tokens, (rL (rL rN)).at x12, sAny, sAny]) hE26 rfl r24 fun _ hE27 => ?_
    refine x_seq ?_
    refine x_asg ?_
    refine w_dnewT (B := rB) hE27 fun c28 _ o29 hE30 => ?_
    have hE31 : Wst ⟨[], TL⟩ _ _ [(rWb C_Web).at p_web, (rL rN).at p_tokens, (rL (rL rN)).at x12, sAny, sAny] [(c28, cDT rB ([] : (List ((List Nat) × Bool))))] _ _ _ := hE30
    refine w_nameC (ss' := [(rWb C_Web).at p_web, (rL rN).at p_tokens, (rL (rL rN)).at x12, sRef c28, sAny]) hE31 rfl fun _ hE32 => ?_
    refine x_seq ?_
    refine x_for ?_
    refine x_il ?_
    refine x_call ?_
    refine x_cons ?_
    refine x_call ?_
    refine x_cons ?_
    refine m_lstRg ?_
    refine x_tRg1 ?_
    refine x_cb ?_
    refine x_cons ?_
    refine w_var hE32 (i := 0) rfl fun v33 r34 => ?_
    refine x_nil ?_
    obtain ⟨_, u37, hf⟩ := bnd hf
    have u37 := gd_ok u37
    refine w_lenWeb hE32 r34 u37 fun _ _ s35 hE36 => ?_
    refine x_rgN ?_
    obtain ⟨_, u38, hf⟩ := bnd hf
    have u38 := gd_ok u38
    refine w_lrgF hE36 u38 fun v39 _ _ s40 hE42 r41 => ?_
    refine x_nil ?_
    obtain ⟨x43, hx43, hf⟩ := bnd hf
    refine ⟨_, v39, (List.range p_web.length), x43, rfl, hE42.fh, hE42.nt, r41, hx43, fun v46 _ _ e44 r45 => ?_⟩
    have hE47 : Wst ⟨[], TL⟩ _ _ [(rWb C_Web).at p_web, (rL rN).at p_tokens, (rL (rL rN)).at x12, sRef c28, sAny] [(c28, cDT rB ([] : (List ((List Nat) × Bool))))] _ _ _ := hE42.grow e44
    refine x_nil ?_
    obtain ⟨x48, hx48, hf⟩ := bnd hf
    refine ⟨_, H, v46, x43, x48, rfl, hE47.fh, hE47.nt, (hE47.tb tb0), (fun a e => hE47.own e), ((wkL (wkN hE42.own wkI)) _ _ _ r45), hx48, fun v51 _ _ e49 r50 => ?_⟩
    have hE52 : Wst ⟨[], TL⟩ _ _ [(rWb C_Web).at p_web, (rL rN).at p_tokens, (rL (rL rN)).at x12, sRef c28, sAny] [(c28, cDT rB ([] : (List ((List Nat) × Bool))))] _ _ _ := hE47.grow e49
    refine w_il (lv_f hE52.fh r50) fun a53 ea => ?_
    cases ea
    have hE64 : Wst ⟨[], TL⟩ _ _ [(rWb C_Web).at p_web, (rL rN).at p_tokens, (rL (rL rN)).at x12, sRef c28, sAny] [(c28, cDT rB ([] : (List ((List Nat) × Bool))))] _ _ _ := hE52
    obtain ⟨x66, hx66, hf⟩ := bnd hf
    refine w_forS 0 (fun (s54 : (List ((List Nat) × Bool))) (ad62 : Nat → Addr) => [(rWb C_Web).at p_web, (rL rN).at p_tokens, (rL (rL rN)).at x12, sRef c28, sAny]) (fun (s54 : (List ((List Nat) × Bool))) (ad62 : Nat → Addr) => [(c28, cDT rB s54)]) hx66 adZ no_ad hE64 (fun _ ad62 _ _ _ sm w102 => jok_l w102.fh w102.nt (lv_f w102.fh ((rL (rNw H (rL rN))).mono sm r50))) (fun s54 ad62 x55 v56 o57 _ _ _ ha63 s58 r59 hE60 hb61 hrx66 hkx66 => ?_) (fun x66s ad62 _ _ _ eex66 ha63 s103 hE104 => ?_)
    · have hE65 : Wst ⟨[], TL⟩ _ _ [(rWb C_Web).at p_web, (rL rN).at p_tokens, (rL (rL rN)).at x12, sRef c28, sAny] [(c28, cDT rB s54)] _ _ _ := hE60
      refine w_name (R := (rNw H (rL rN))) (ss' := [(rWb C_Web).at p_web, (rL rN).at p_tokens, (rL (rL rN)).at x12, sRef c28, (rNw H (rL rN)).at x55]) hE65 rfl ⟨(r59).1, (r59).2⟩ fun _ hE67 => ?_
      refine x_ifs ?_
      obtain ⟨b95, h96, hb61⟩ := bnd hb61
      refine w_andS (fun U97 => [(c28, cDT rB U97)]) hE67 (ca := (!eqD x55 ([] : List Nat))) h96 (fun _ q0 => ?_) (fun _ _ s76 hE75 _ hkk74 _ q0 => ?_) (fun _ _ s93 hE94 => ?_)
      · refine x_test ?_
        refine x_op ?_
        refine w_var hE67 (i := 4) rfl fun v68 r69 => ?_
        refine m_lst ?_
        refine x_nil ?_
        refine w_lstF hE67 (R := rN) (l := ([] : List Nat)) (by show 0 ≤ 100000; decide) .nil fun v70 _ _ s71 hE73 r72 => ?_
        refine w_neD (dtL dtN) (a := x55) (b := ([] : List Nat)) (dv_l dtN hE73.fh (lv_f hE73.fh ((rL rN).mono s71 (r69).1))) (dv_l dtN hE73.fh (lv_f hE73.fh r72)) ?_
        refine x_bl ?_
        exact q0 _ _ ((Same.refl _).trans s71) hE73
      · refine x_test ?_
        refine x_op ?_
        refine x_call ?_
        refine x_cons ?_
        refine w_var hE75 (i := 2) rfl fun v77 r78 => ?_
        refine x_cons ?_
        refine x_cb ?_
        refine x_cons ?_
        refine w_var hE75 (i := 1) rfl fun v79 r80 => ?_
        refine x_nil ?_
        refine w_tupOf hE75 (lv_f hE75.fh r80) fun v81 _ _ s82 hE84 r83 => ?_
        refine x_cons ?_
        refine w_var hE84 (i := 4) rfl fun v85 r86 => ?_
        refine x_cons ?_
        refine w_ref hE84 (i := 3) rfl ?_
        refine x_nil ?_
        obtain ⟨x87, hx87, hkk74⟩ := bnd hkk74
        refine ⟨_, v77, x12, v81, p_tokens, v85, x55, c28, s54, x87, rfl, hE84.fh, hE84.nt, (hE84.tb tb0), hE84.apart (k := 0) rfl, hE84.cell (k := 0) rfl, ((rL (rL rN)).mono s82 r78), r83, (r86).1, hx87, fun v90 _ _ e88 w91 r89 => ?_⟩
        have hE92 : Wst ⟨[], TL⟩ _ _ [(rWb C_Web).at p_web, (rL rN).at p_tokens, (rL (rL rN)).at x12, sRef c28, (rNw H (rL rN)).at x55] [(c28, cDT rB x87.2)] _ _ _ := hE84.call1 (k := 0) (A' := cDT rB x87.2) rfl e88 w91
        refine x_c ?_
        refine w_isN (nn_nw nn_L) ((wkO (wkN hE84.own wkI)) _ _ _ r89) ?_
        refine x_bl ?_
        have hkk74 := Option.some.inj hkk74
        subst hkk74
        exact q0 _ _ (((Same.refl _).trans s82).trans e88.ff) hE92
      have hE98 : Wst ⟨[], TL⟩ _ _ [(rWb C_Web).at p_web, (rL rN).at p_tokens, (rL (rL rN)).at x12, sRef c28, (rNw H (rL rN)).at x55] [(c28, cDT rB b95.2)] _ _ _ := hE94
      refine x_itb (fun hc99 => ?_) (fun hc99 => ?_)
      · have hb61 := ite_t hb61 hc99
        refine x_ret ?_
        refine w_var hE98 (i := 4) rfl fun v100 r101 => ?_
        have hb61 := Option.some.inj hb61
        subst hb61
        cases (hrx66 _ rfl)
        have hf := Option.some.inj hf
        subst hf
        exact Wst.thaw hE98 fl_N (r101).1 (r101).2 (q.1 _ rfl)
      · have hb61 := ite_f hb61 hc99
        refine x_next ?_
        have hb61 := Option.some.inj hb61
        subst hb61
        exact ⟨_, rfl, ⟨adZ, _, no_ad, (s58.trans s93), (hE98.toAny 4)⟩⟩
    subst eex66
    have hE105 : Wst ⟨[], TL⟩ _ _ [(rWb C_Web).at p_web, (rL rN).at p_tokens, (rL (rL rN)).at x12, sRef c28, sAny] [(c28, cDT rB x66s)] _ _ _ := hE104
    refine x_ret ?_
    refine x_c ?_
    have hf := Option.some.inj hf
    subst hf
    exact q.2 rfl _ _ hE105.ex
end
abbrev s_l_wholes : Stmt := topS 32
theorem sc_l_wholes : FnScope ["found", "one"] ["found"] (defScope s_l_wholes) := ⟨rfl, rfl, rfl, by decide +kernel, rfl, by decide +kernel, by decide +kernel⟩
def f_l_wholes (p_found : (List Nat)) : Option (Bool) :=
  (if true = true then (
      (compO (β := Bool) (fun (x11 : Nat) =>
        some (some true)) p_found).bind fun x24 =>
      (gd (x24.length ≤ 100000)).bind fun _ =>
      some (x24.all id)
    ) else some false).bind fun b36 =>
  some b36
def q_l_wholes (TL : List (Addr × Str)) : Sp := fun vs H Q _ => ∃ (F : Hp) (v_found : V) (p_found : (List Nat)) (rr : Bool), vs = [v_found] ∧ Same F H ∧ NoT F ∧ (rL rN).r F v_found p_found ∧ f_l_wholes p_found = some rr ∧ ∀ v F' H', Ext ⟨[], TL⟩ F H F' H' → rB.r F' v rr → Q v H'
section
variable {P : Program} {w : World} {K : PySem.W.Frag} {mg : Str → Option Value} {base : Heap}
theorem t_l_wholes (T : Tx mg) (F : DefAt K mg "_law_wholes" s_l_wholes ["found"]) (c_l_whole : Cal P w K mg base CX0 1 "_law_whole" (spIsInt K)) : Cal P w K mg base CX0 2 "_law_wholes" (q_l_wholes TL) := by
  refine F.cal sc_l_wholes (fun vs H Q E h => ?_) (fun f cdv A outer s H vs Q E hr h => ?_)
  · obtain ⟨_, _, _, _, rfl, _⟩ := h
    rfl
  · obtain ⟨F, v_found, p_found, rr, rfl, sm0, nt0, r_found, hf, q⟩ := h
    have hf : _ = some rr := hf
    unfold f_l_wholes at hf
    refine ⟨_, (pss_one (ps_ret (pe_and (pe_callB (cl_isi K) (by rfl) T.z_isinstance (by decide +kernel) (pa_cons (pv 0) (pa_cons (pe_bltn (v := .ty "list") (by rfl) T.z_list (by decide +kernel) rfl) pa_nil))) (pe_one (pe_callB (cl_all K rfl) (by rfl) T.z_all (by decide +kernel) (pa_cons (pe_lc (own := [("one", 1)]) (g := gName 1) rfl sc_l_wholes.nd (k_pil K (pv 0)) (blkOk_by (own := [("one", 1)]) (N := ["found", "one"]) (sc := defScope s_l_wholes) (by decide +kernel)) (fun _ _ _ _ _ => (pg_name (i := 1) sc_l_wholes.nd rfl (Or.inl rfl))) (fun _ _ _ _ _ => pts_nil) (fun _ _ _ _ _ => (pe_cal c_l_whole hr (by decide) rfl pass0 (pa_cons (pv 1) pa_nil)))) pa_nil)))))), ?_⟩
    have hE0 : Wst ⟨[], TL⟩ F H [(rL rN).at p_found, sAny] [] (start ["found", "one"] [v_found]) F H := Wst.start (vs := [v_found]) (n := 1) (ss := [(rL rN).at p_found]) (cs := []) sm0 nt0 (fun p hp => by cases hp) List.nodup_nil (.cons ⟨_, rfl, r_found⟩ .nil)
    revert hE0
    generalize start ["found", "one"] [v_found] = σ0
    intro hE0
    refine x_ret ?_
    obtain ⟨b36, h37, hf⟩ := bnd hf
    refine w_andVO (cs := []) hE0 (ca := true) h37 (fun _ q0 => ?_) (fun _ _ s5 hE4 _ hkk3 _ q0 => ?_) (fun _ _ s34 hE35 => ?_)
    · refine x_cb ?_
      refine x_cons ?_
      refine w_var hE0 (i := 0) rfl fun v1 r2 => ?_
      refine x_cons ?_
      refine x_c ?_
      refine x_nil ?_
      refine y_isList (b := true) (kn_l (lv_f hE0.fh r2)) (by decide) ?_
      exact q0 _ _ (Same.refl _) hE0
    · refine x_cb ?_
      refine x_cons ?_
      refine x_lc ?_
      refine x_il ?_
      refine w_var hE4 (i := 0) rfl fun v6 r7 => ?_
      refine w_il (lv_f hE4.fh r7) fun a8 ea => ?_
      cases ea
      obtain ⟨x24, hx24, hkk3⟩ := bnd hkk3
      obtain ⟨_, u25, hkk3⟩ := bnd hkk3
      have u25 := gd_ok u25
      intro c9 d10
      refine w_lc (B := rB) hx24 u25 hE4 d10 (fun _ _ _ sm w31 => jok_l w31.fh w31.nt (lv_f w31.fh ((rL rN).mono sm r7))) (fun x11 v13 o14 ac21 _ _ s15 r16 hE17 hb18 z19 ew20 => ?_) (fun _ _ o28 s29 hE30 => ?_)
      · have hE17 : Wst ⟨[], TL⟩ _ _ [(rL rN).at p_found, sAny] [(c9, cL rB ac21)] _ _ _ := hE17
        refine w_nameW (ss' := [(rL rN).at p_found, rN.at x11]) hE17 rfl r16 (by decide) ew20 fun _ ew23 hE22 => ?_
        refine ⟨ew23, ?_⟩
        refine x_yes ?_
        refine x_T ?_
        refine x_call ?_
        refine x_cons ?_
        refine w_vN hE22 (i := 1) rfl ?_
        refine x_nil ?_
        refine is_spInt (k := "int") (b := true) (knd_int _) rfl ?_
        have hb18 := Option.some.inj hb18
        subst hb18
        exact w_acc (s := ()) hE22 s15 rfl z19 ew23 rfl
      have hE32 : Wst ⟨[], TL⟩ _ _ [(rL rN).at p_found, sAny] [(c9, cL rB x24)] _ _ _ := hE30
      refine x_nil ?_
      refine w_all (lv_c hE32 (k := 0) rfl) ?_
      have hE33 : Wst ⟨[], TL⟩ _ _ [(rL rN).at p_found, sAny] [] _ _ _ := hE32.dropC 0
      have hkk3 := Option.some.inj hkk3
      subst hkk3
      exact q0 _ _ ((Same.refl _).trans s29) hE33
    have hf := Option.some.inj hf
    subst hf
    exact q _ _ _ hE35.ex rfl
end
abbrev s_are_some_of : Stmt := topS 26
theorem sc_are_some_of : FnScope ["places", "value", "last", "place"] ["places", "value"] (defScope s_are_some_of) := ⟨rfl, rfl, rfl, by decide +kernel, rfl, by decide +kernel, by decide +kernel⟩
def f_are_some_of (p_places : (List Nat)) (p_value : (List Nat)) : Option (Bool) :=
  (loopO (S := Int) (T := Bool) (fun s7 (x8 : Nat) =>
    if (false || ((decide (((x8 : Nat) : Int) ≤ s7)) || (!decide (x8 ∈ p_places)))) = true then
      some (Stp.rt false)
    else
      some (Stp.nx ((x8 : Nat) : Int))) p_value (-((1 : Nat) : Int))).bind fun x19 =>
  match x19 with
  | .rt t => some t
  | .bk _ => none
  | .nx x19s =>
    some true
def q_are_some_of (TL : List (Addr × Str)) : Sp := fun vs H Q _ => ∃ (F : Hp) (v_places : V) (p_places : (List Nat)) (v_value : V) (p_value : (List Nat)) (rr : Bool), vs = [v_places, v_value] ∧ Same F H ∧ NoT F ∧ (rL rN).r F v_places p_places ∧ (rL rN).r F v_value p_value ∧ f_are_some_of p_places p_value = some rr ∧ ∀ v F' H', Ext ⟨[], TL⟩ F H F' H' → rB.r F' v rr → Q v H'
section
variable {P : Program} {w : World} {K : PySem.W.Frag} {mg : Str → Option Value} {base : Heap}
theorem t_are_some_of (T : Tx mg) (F : DefAt K mg "are_some_of" s_are_some_of ["places", "value"]) (c_is_integer : Cal P w K mg base CX0 1 "is_integer" (spIsInt K)) : Cal P w K mg base CX0 2 "are_some_of" (q_are_some_of TL) := by
  refine F.cal sc_are_some_of (fun vs H Q E h => ?_) (fun f cdv A outer s H vs Q E hr h => ?_)
  · obtain ⟨_, _, _, _, _, _, rfl, _⟩ := h
    rfl
  · obtain ⟨F, v_places, p_places, v_value, p_value, rr, rfl, sm0, nt0, r_places, r_value, hf, q⟩ := h
    have hf : _ = some rr := hf
    unfold f_are_some_of at hf
    refine ⟨_, (pss_cons (ps_if (pt_not (pt_val (pe_callB (cl_isi K) (by rfl) T.z_isinstance (by decide +kernel) (pa_cons (pv 1) (pa_cons (pe_bltn (v := .ty "list") (by rfl) T.z_list (by decide +kernel) rfl) pa_nil)))))
        (pss_one (ps_ret pe_bl)) pss_nil)
      (pss_cons (ps_set (i := 2) sc_are_some_of.nd rfl (Or.inl rfl) (pe_un un_neg pe_int))
      (pss_cons (ps_for PassesOwn.never rfl (k_pil K (pv 1)) (pg_name (i := 3) sc_are_some_of.nd rfl (Or.inl rfl))
        (pss_cons (ps_if (PW.pt (pw_or (pt_not (pt_val (pe_cal c_is_integer hr (by decide) rfl pass0 (pa_cons (pv 3) pa_nil)))) (pw_or (pt_cmpR op_le (pv 3) (pv 2) (nomark _)) (pw_or1 (pt_cmpR (k_nin K) (pv 3) (pv 0) (by first | exact nomark _ | rfl))))))
        (pss_one (ps_ret pe_bl)) pss_nil)
      (pss_one (ps_set (i := 2) sc_are_some_of.nd rfl (Or.inl rfl) (pv 3)))))
      (pss_one (ps_ret pe_bl))))), ?_⟩
    have hE0 : Wst ⟨[], TL⟩ F H [(rL rN).at p_places, (rL rN).at p_value, sAny, sAny] [] (start ["places", "value", "last", "place"] [v_places, v_value]) F H := Wst.start (vs := [v_places, v_value]) (n := 2) (ss := [(rL rN).at p_places, (rL rN).at p_value]) (cs := []) sm0 nt0 (fun p hp => by cases hp) List.nodup_nil (.cons ⟨_, rfl, r_places⟩ (.cons ⟨_, rfl, r_value⟩ .nil))
    revert hE0
    generalize start ["places", "value", "last", "place"] [v_places, v_value] = σ0
    intro hE0
    refine x_seq ?_
    refine x_ifs ?_
    refine x_not ?_
    refine x_B ?_
    refine x_cb ?_
    refine x_cons ?_
    refine w_var hE0 (i := 1) rfl fun v1 r2 => ?_
    refine x_cons ?_
    refine x_c ?_
    refine x_nil ?_
    refine y_isList (b := true) (kn_l (lv_f hE0.fh r2)) (by decide) ?_
    refine x_bl ?_
    refine x_F ?_
    refine x_next ?_
    refine x_seq ?_
    refine x_asg ?_
    refine x_un ?_
    refine w_cN 1 ?_
    refine x_U ?_
    refine w_name (R := rZ) (ss' := [(rL rN).at p_places, (rL rN).at p_value, rZ.at (-((1 : Nat) : Int)), sAny]) hE0 rfl rfl fun _ hE3 => ?_
    refine x_seq ?_
    refine x_for ?_
    refine x_il ?_
    refine w_var hE3 (i := 1) rfl fun v4 r5 => ?_
    refine w_il (lv_f hE3.fh r5) fun a6 ea => ?_
    cases ea
    have hE17 : Wst ⟨[], TL⟩ _ _ [(rL rN).at p_places, (rL rN).at p_value, rZ.at (-((1 : Nat) : Int)), sAny] [] _ _ _ := hE3
    obtain ⟨x19, hx19, hf⟩ := bnd hf
    refine w_forS 0 (fun (s7 : Int) (ad15 : Nat → Addr) => [(rL rN).at p_places, (rL rN).at p_value, rZ.at s7, sAny]) (fun (s7 : Int) (ad15 : Nat → Addr) => []) hx19 adZ no_ad hE17 (fun _ ad15 _ _ _ sm w35 => jok_l w35.fh w35.nt (lv_f w35.fh ((rL rN).mono sm r5))) (fun s7 ad15 x8 v9 o10 _ _ _ ha16 s11 r12 hE13 hb14 hrx19 hkx19 => ?_) (fun x19s ad15 _ _ _ eex19 ha16 s36 hE37 => ?_)
    · have hE18 : Wst ⟨[], TL⟩ _ _ [(rL rN).at p_places, (rL rN).at p_value, rZ.at s7, sAny] [] _ _ _ := hE13
      obtain rfl := (show v9 = (V.int ((x8 : Nat) : Int)) from r12)
      refine w_name (R := rN) (ss' := [(rL rN).at p_places, (rL rN).at p_value, rZ.at s7, rN.at x8]) hE18 rfl rfl fun _ hE20 => ?_
      refine x_seq ?_
      refine x_ifs ?_
      refine w_orP (cs := []) hE20 (ca := false) (cb := ((decide (((x8 : Nat) : Int) ≤ s7)) || (!decide (x8 ∈ p_places)))) (fun _ q0 => ?_) (fun _ _ s23 hE22 _ _ q0 => ?_) (fun _ _ s31 hE32 => ?_)
      · refine x_not ?_
        refine x_B ?_
        refine x_call ?_
        refine x_cons ?_
        refine w_vN hE20 (i := 3) rfl ?_
        refine x_nil ?_
        refine is_spInt (k := "int") (b := true) (knd_int _) rfl ?_
        refine x_bl ?_
        exact q0 _ _ (Same.refl _) hE20
      · refine w_orP (cs := []) hE22 (ca := (decide (((x8 : Nat) : Int) ≤ s7))) (cb := (!decide (x8 ∈ p_places))) (fun _ q0 => ?_) (fun _ _ s26 hE25 _ _ q0 => ?_) (fun _ _ s29 hE30 => ?_)
        · refine x_test ?_
          refine x_op ?_
          refine w_vN hE22 (i := 3) rfl ?_
          refine w_vI hE22 (i := 2) rfl ?_
          refine x_I0 ?_
          refine x_bl ?_
          exact q0 _ _ (Same.refl _) hE22
        · refine x_test ?_
          refine x_op ?_
          refine w_vN hE25 (i := 3) rfl ?_
          refine w_var hE25 (i := 0) rfl fun v27 r28 => ?_
          refine w_ninN (lv_f hE25.fh r28) ?_
          refine x_bl ?_
          exact q0 _ _ (Same.refl _) hE25
        exact q0 _ _ ((Same.refl _).trans s29) hE30
      refine x_itb (fun hc33 => ?_) (fun hc33 => ?_)
      · have hb14 := ite_t hb14 hc33
        refine x_ret ?_
        refine x_c ?_
        have hb14 := Option.some.inj hb14
        subst hb14
        cases (hrx19 _ rfl)
        have hf := Option.some.inj hf
        subst hf
        exact q _ _ _ hE32.ex rfl
      · have hb14 := ite_f hb14 hc33
        refine x_next ?_
        refine x_asg ?_
        refine w_vN hE32 (i := 3) rfl ?_
        refine w_name (R := rZ) (ss' := [(rL rN).at p_places, (rL rN).at p_value, rZ.at ((x8 : Nat) : Int), rN.at x8]) hE32 rfl rfl fun _ hE34 => ?_
        have hb14 := Option.some.inj hb14
        subst hb14
        exact ⟨_, rfl, ⟨adZ, _, no_ad, (s11.trans s31), (hE34.toAny 3)⟩⟩
    subst eex19
    have hE38 : Wst ⟨[], TL⟩ _ _ [(rL rN).at p_places, (rL rN).at p_value, rZ.at x19s, sAny] [] _ _ _ := hE37
    refine x_ret ?_
    refine x_c ?_
    have hf := Option.some.inj hf
    subst hf
    exact q _ _ _ hE38.ex rfl
end
abbrev s_painting : Stmt := topS 27
theorem sc_painting : FnScope ["web", "tokens", "shown"] ["web", "tokens", "shown"] (defScope s_painting) := ⟨rfl, rfl, rfl, by decide +kernel, rfl, by decide +kernel, by decide +kernel⟩
def f_painting (p_web : Wb) (p_tokens : (List Nat)) (p_shown : (List Nat)) : Option ((Option (List Nat))) :=
  (f_check_lengths p_web p_tokens).bind fun x5 =>
  (gd (p_web.length < 2 ^ 62)).bind fun _ =>
  (gd (p_web.length ≤ 100000)).bind fun _ =>
  (f_are_some_of (List.range p_web.length) p_shown).bind fun x22 =>
  if ((!x22) || (eqD p_shown ([] : List Nat))) = true then
    none
  else
    (f_beside_of p_web).bind fun x41 =>
    ((f_best_painting (f_painter_wins 17)) x41 p_tokens p_shown ([] : (List ((List Nat) × Bool)))).bind fun x68 =>
    some x68.1
def q_painting (TL : List (Addr × Str)) (C_Web : Addr) : Sp := fun vs H Q _ => ∃ (F : Hp) (v_web : V) (p_web : Wb) (v_tokens : V) (p_tokens : (List Nat)) (v_shown : V) (p_shown : (List Nat)) (rr : (Option (List Nat))), vs = [v_web, v_tokens, v_shown] ∧ Same F H ∧ NoT F ∧ LamX.Tabs TL H ∧ (rWb C_Web).r F v_web p_web ∧ (rL rN).r F v_tokens p_tokens ∧ (rL rN).r F v_shown p_shown ∧ f_painting p_web p_tokens p_shown = some rr ∧ OptC ⟨[], TL⟩ F H rN rr Q
section
variable {P : Program} {w : World} {K : PySem.W.Frag} {mg : Str → Option Value} {base : Heap}
theorem t_painting {C_Web : Addr} (T : Tx mg) (O_Web : Own K mg "Web" C_Web) (F : DefAt K mg "painting" s_painting ["web", "tokens", "shown"]) (c_check_lengths : Cal P w K mg base CX0 3 "check_lengths" (q_check_lengths TL C_Web)) (o_WebD_lenD : Met P w K mg base CX0 1 C_Web "__len__" (q_WebD_lenD TL C_Web)) (c_are_some_of : Cal P w K mg base CX0 2 "are_some_of" (q_are_some_of TL)) (c_beside_of : Cal P w K mg base CX0 4 "beside_of" (q_beside_of TL C_Web)) (c_best_painting : Cal P w K mg base CX0 41 "best_painting" (q_best_painting TL (f_painter_wins 17))) : Cal P w K mg base CX0 42 "painting" (q_painting TL C_Web) := by
  refine F.cal sc_painting (fun vs H Q E h => ?_) (fun f cdv A outer s H vs Q E hr h => ?_)
  · obtain ⟨_, _, _, _, _, _, _, _, rfl, _⟩ := h
    rfl
  · obtain ⟨F, v_web, p_web, v_tokens, p_tokens, v_shown, p_shown, rr, rfl, sm0, nt0, tb0, r_web, r_tokens, r_shown, hf, q⟩ := h
    have hf : _ = some rr := hf
    unfold f_painting at hf
    refine ⟨_, (pss_cons (ps_expr (pe_cal c_check_lengths hr (by decide) rfl pass0 (pa_cons (pv 0) (pa_cons (pv 1) pa_nil))))
      (pss_cons (ps_if (PW.pt (pw_or (pt_not (pt_val (pe_cal c_are_some_of hr (by decide) rfl pass0 (pa_cons (pe_listRg rfl rfl T.z_list (prg_1 rfl T.z_range (pe_callB (call_lenO o_WebD_lenD hr (by decide) pass0) (by rfl) T.z_len PySem.boot_len (pa_cons (pv 0) pa_nil)))) (pa_cons (pv 2) pa_nil))))) (pw_or1 (pt_cmpR (k_eqD K hr.units) (pv 2) (pe_lst pa_nil) (nomark _)))))
        (pss_one ps_never) pss_nil)
      (pss_one (ps_ret (pe_cal c_best_painting hr (by decide) rfl pass0 (pa_cons (pe_cal c_beside_of hr (by decide) rfl pass0 (pa_cons (pv 0) pa_nil)) (pa_cons (pe_callTy (cl_tupOf K) (by rfl) T.z_tuple (by decide +kernel) (pa_cons (pv 1) pa_nil)) (pa_cons (pv 2) (pa_cons pe_dnewT pa_nil))))))))), ?_⟩
    have hE0 : Wst ⟨[], TL⟩ F H [(rWb C_Web).at p_web, (rL rN).at p_tokens, (rL rN).at p_shown] [] (start ["web", "tokens", "shown"] [v_web, v_tokens, v_shown]) F H := Wst.start (vs := [v_web, v_tokens, v_shown]) (n := 0) (ss := [(rWb C_Web).at p_web, (rL rN).at p_tokens, (rL rN).at p_shown]) (cs := []) sm0 nt0 (fun p hp => by cases hp) List.nodup_nil (.cons ⟨_, rfl, r_web⟩ (.cons ⟨_, rfl, r_tokens⟩ (.cons ⟨_, rfl, r_shown⟩ .nil)))
    revert hE0
    generalize start ["web", "tokens", "shown"] [v_web, v_tokens, v_shown] = σ0
    intro hE0
    refine x_seq ?_
    refine x_drop ?_
    refine x_call ?_
    refine x_cons ?_
    refine w_var hE0 (i := 0) rfl fun v1 r2 => ?_
    refine x_cons ?_
    refine w_var hE0 (i := 1) rfl fun v3 r4 => ?_
    refine x_nil ?_
    obtain ⟨x5, hx5, hf⟩ := bnd hf
    refine ⟨_, v1, p_web, v3, p_tokens, x5, rfl, hE0.fh, hE0.nt, r2, r4, hx5, fun v8 _ _ e6 r7 => ?_⟩
    have hE9 : Wst ⟨[], TL⟩ _ _ [(rWb C_Web).at p_web, (rL rN).at p_tokens, (rL rN).at p_shown] [] _ _ _ := hE0.grow e6
    obtain rfl := (show v8 = V.non from r7)
    refine x_seq ?_
    refine x_ifs ?_
    obtain ⟨_, u14, hf⟩ := bnd hf
    have u14 := gd_ok u14
    obtain ⟨_, u15, hf⟩ := bnd hf
    have u15 := gd_ok u15
    obtain ⟨x22, hx22, hf⟩ := bnd hf
    refine w_orP (cs := []) hE9 (ca := (!x22)) (cb := (eqD p_shown ([] : List Nat))) (fun _ q0 => ?_) (fun _ _ s29 hE28 _ _ q0 => ?_) (fun _ _ s36 hE37 => ?_)
    · refine x_not ?_
      refine x_B ?_
      refine x_call ?_
      refine x_cons ?_
      refine m_lstRg ?_
      refine x_tRg1 ?_
      refine x_cb ?_
      refine x_cons ?_
      refine w_var hE9 (i := 0) rfl fun v10 r11 => ?_
      refine x_nil ?_
      refine w_lenWeb hE9 r11 u14 fun _ _ s12 hE13 => ?_
      refine x_rgN ?_
      refine w_lrgF hE13 u15 fun v16 _ _ s17 hE19 r18 => ?_
      refine x_cons ?_
      refine w_var hE19 (i := 2) rfl fun v20 r21 => ?_
      refine x_nil ?_
      refine ⟨_, v16, (List.range p_web.length), v20, p_shown, x22, rfl, hE19.fh, hE19.nt, r18, r21, hx22, fun v25 _ _ e23 r24 => ?_⟩
      have hE26 : Wst ⟨[], TL⟩ _ _ [(rWb C_Web).at p_web, (rL rN).at p_tokens, (rL rN).at p_shown] [] _ _ _ := hE19.grow e23
      obtain rfl := (show v25 = (V.bl x22) from r24)
      refine x_bl ?_
      exact q0 _ _ ((((Same.refl _).trans s12).trans s17).trans e23.ff) hE26
    · refine x_test ?_
      refine x_op ?_
      refine w_var hE28 (i := 2) rfl fun v30 r31 => ?_
      refine m_lst ?_
      refine x_nil ?_
      refine w_lstF hE28 (R := rN) (l := ([] : List Nat)) (by show 0 ≤ 100000; decide) .nil fun v32 _ _ s33 hE35 r34 => ?_
      refine w_eqD (dtL dtN) (a := p_shown) (b := ([] : List Nat)) (dv_l dtN hE35.fh (lv_f hE35.fh ((rL rN).mono s33 r31))) (dv_l dtN hE35.fh (lv_f hE35.fh r34)) ?_
      refine x_bl ?_
      exact q0 _ _ ((Same.refl _).trans s33) hE35
    refine x_itb (fun hc38 => ?_) (fun hc38 => ?_)
    · have hf := ite_t hf hc38
      cases hf
    · have hf := ite_f hf hc38
      refine x_next ?_
      refine x_ret ?_
      refine x_call ?_
      refine x_cons ?_
      refine x_call ?_
      refine x_cons ?_
      refine w_var hE37 (i := 0) rfl fun v39 r40 => ?_
      refine x_nil ?_
      obtain ⟨x41, hx41, hf⟩ := bnd hf
      refine ⟨_, v39, p_web, x41, rfl, hE37.fh, hE37.nt, r40, hx41, fun c44 _ _ e42 o45 p46 q47 => ?_⟩
      have hE48 : Wst ⟨[], TL⟩ _ _ [(rWb C_Web).at p_web, (rL rN).at p_tokens, (rL rN).at p_shown] [] _ _ _ := hE37.grow e42
      have o49 := hE37.own o45
      have hE50 : Wst ⟨[], TL⟩ _ _ [(rWb C_Web).at p_web, (rL rN).at p_tokens, (rL rN).at p_shown] [(c44, cL (rL rN) x41)] _ _ _ := hE48.addC (A := cL (rL rN) x41) o49 p46 q47 (hE37.fresh_ne o45)
      obtain ⟨F51, s52, hE54, r53⟩ := hE50.freeze (k := 0) rfl o49
      have hE55 : Wst ⟨[], TL⟩ _ _ [(rWb C_Web).at p_web, (rL rN).at p_tokens, (rL rN).at p_shown] [] _ _ _ := hE54
      refine x_cons ?_
      refine x_cb ?_
      refine x_cons ?_
      refine w_var hE55 (i := 1) rfl fun v56 r57 => ?_
      refine x_nil ?_
      refine w_tupOf hE55 (lv_f hE55.fh r57) fun v58 _ _ s59 hE61 r60 => ?_
      refine x_cons ?_
      refine w_var hE61 (i := 2) rfl fun v62 r63 => ?_
      refine x_cons ?_
      refine w_dnewT (B := rB) hE61 fun c64 _ o65 hE66 => ?_
      have hE67 : Wst ⟨[], TL⟩ _ _ [(rWb C_Web).at p_web, (rL rN).at p_tokens, (rL rN).at p_shown] [(c64, cDT rB ([] : (List ((List Nat) × Bool))))] _ _ _ := hE66
      refine x_nil ?_
      obtain ⟨x68, hx68, hf⟩ := bnd hf
      refine ⟨_, (V.ref c44), x41, v58, p_tokens, v62, p_shown, c64, ([] : (List ((List Nat) × Bool))), x68, rfl, hE67.fh, hE67.nt, (hE67.tb tb0), hE67.apart (k := 0) rfl, hE67.cell (k := 0) rfl, ((rL (rL rN)).mono s59 r53), r60, r63, hx68, fun v71 _ _ e69 w72 r70 => ?_⟩
      have hE73 : Wst ⟨[], TL⟩ _ _ [(rWb C_Web).at p_web, (rL rN).at p_tokens, (rL rN).at p_shown] [(c64, cDT rB x68.2)] _ _ _ := hE67.call1 (k := 0) (A' := cDT rB x68.2) rfl e69 w72
      have hE74 : Wst ⟨[], TL⟩ _ _ [(rWb C_Web).at p_web, (rL rN).at p_tokens, (rL rN).at p_shown] [] _ _ _ := hE73.dropC 0
      have hf := Option.some.inj hf
      subst hf
      exact Wst.thawO hE74 fl_N ((wkO (wkN hE67.own wkI)) _ _ _ r70) q.1 q.2
end
abbrev s_law : Stmt := topS 39
theorem sc_law : FnScope ["script", "k", "picks", "many", "tokens", "ties", "web", "known", "handed", "due", "rows", "first", "at", "shown", "passed", "found", "p", "row"] ["script"] (defScope s_law) := ⟨rfl, rfl, rfl, by decide +kernel, rfl, by decide +kernel, by decide +kernel⟩
def f_law (p_script : (List Int)) : Option (Bool) :=
  (loopO (S := Unit) (T := Bool) (fun s1 (x2 : Nat) =>
    (gd ([3].length * 4 ≤ 100000 ∧ 4 < 2 ^ 62)).bind fun _ =>
    (gd ([4, 4, 4].length + (List.replicate 4 [3]).flatten.length ≤ 100000)).bind fun _ =>
    (gd ([6].length * 6 ≤ 100000 ∧ 6 < 2 ^ 62)).bind fun _ =>
    (gd (([4, 4, 4] ++ (List.replicate 4 [3]).flatten).length + (List.replicate 6 [6]).flatten.length ≤ 100000)).bind fun _ =>
    (gd ([105].length * 5 ≤ 100000 ∧ 5 < 2 ^ 62)).bind fun _ =>
    (gd ((([4, 4, 4] ++ (List.replicate 4 [3]).flatten) ++ (List.replicate 6 [6]).flatten).length + (List.replicate 5 [105]).flatten.length ≤ 100000)).bind fun _ =>
    (f_l_draws p_script x2 ((([4, 4, 4] ++ (List.replicate 4 [3]).flatten) ++ (List.replicate 6 [6]).flatten) ++ (List.replicate 5 [105]).flatten)).bind fun x63 =>
    (x63[1]?).bind fun x81 =>
    (x63[0]?).bind fun x90 =>
    ([x81, 4][(x90 / 3)]?).bind fun x93 =>
    (gd (x93 < 2 ^ 62)).bind fun _ =>
    (compO (β := Nat) (fun (x100 : Nat) =>
      (x63[(3 + x100)]?).bind fun x115 =>
      (x63[0]?).bind fun x124 =>
      ([3, 2][(x124 / 3)]?).bind fun x127 =>
      (gd (0 < x127)).bind fun _ =>
      some (some (1 + (x115 % x127)))) (List.range x93)).bind fun x131 =>
    (gd (x131.length ≤ 100000)).bind fun _ =>
    (x63[2]?).bind fun x148 =>
    (f_l_ties x93 x148 (x63.drop 7)).bind fun x157 =>
    (mkWeb x93 x157.reverse).bind fun x183 =>
    (f_leader x183 x131).bind fun x201 =>
    ((f_l_led 17) x157 x131 ([] : (List ((List Nat) × Bool)))).bind fun x214 =>
    ((["foe", "painter"] : List Str)[x214.1.toNat]?).bind fun x220 =>
    if (!decide (x201 = x220)) = true then
      some (Stp.rt false)
    else
      (f_l_first x157 x131 x214.2).bind fun x228 =>
      (gd (x93 ≤ 100000)).bind fun _ =>
      (f_l_subsets (List.range x93)).bind fun x240 =>
      (compO (β := (List Nat)) (fun (x248 : (List Nat)) =>
        if (!eqD x248 ([] : List Nat)) = true then
          some (some x248)
        else some none) x240).bind fun x270 =>
      (gd (x270.length ≤ 100000)).bind fun _ =>
      (f_showing x183 x131).bind fun x289 =>
      optE x289 (
        if ((!eqD (none : Option (List Nat)) x228.1) || ((false && false) || (!eqD x131 x131))) = true then
          some (Stp.rt false)
        else
          (
            some ()
            : Option (Unit)).bind fun x612 =>
          (gd ((x63.drop 13).length + (cutL x63 (some ((13 : Nat) : Int)) (some ((14 : Nat) : Int))).length ≤ 100000)).bind fun _ =>
          (loopO (S := (List ((List Nat) × Bool))) (T := Bool) (fun s636 (x637 : Nat) =>
            if (decide (x93 = 0)) = true then
              some (Stp.bk s636)
            else
              (gd (0 < x270.length)).bind fun _ =>
              (x270[(x637 % x270.length)]?).bind fun x669 =>
              (f_painting x183 x131 x669).bind fun x686 =>
              optE x686 (
                ((f_l_best (f_l_led 17)) x157 x131 x669 s636).bind fun x777 =>
                if ((!eqD (none : Option (List Nat)) x777.1) || ((!eqD x131 x131) || (!eqD x669 x669))) = true then
                  some (Stp.rt false)
                else
                  if (false && false) = true then
                    some (Stp.rt false)
                  else
                    (
                      some ()
                      : Option (Unit)).bind fun x811 =>
                    if (!eqD x669 x669) = true then
                      some (Stp.rt false)
                    else
                      some (Stp.nx x777.2)
                ) (fun l689 =>
                ((f_l_best (f_l_led 17)) x157 x131 x669 s636).bind fun x705 =>
                if ((!eqD (some l689) x705.1) || ((!eqD x131 x131) || (!eqD x669 x669))) = true then
                  some (Stp.rt false)
                else
                  (if true = true then (
                      (f_l_wholes l689).bind fun x739 =>
                      some (!x739)
                    ) else some false).bind fun b750 =>
                  if b750 = true then
                    some (Stp.rt false)
                  else
                    (
                      (gd (l689.length < 100000)).bind fun _ =>
                      some (l689 ++ [x93])
                      : Option ((List Nat))).bind fun x756 =>
                    if (!eqD x669 x669) = true then
                      some (Stp.rt false)
                    else
                      some (Stp.nx x705.2)
                )) ((x63.drop 13) ++ (cutL x63 (some ((13 : Nat) : Int)) (some ((14 : Nat) : Int)))) x228.2).bind fun x648 =>
          match x648 with
          | .rt t => some (Stp.rt t)
          | .bk x648s =>
            (f_showing x183 x131).bind fun x829 =>
            if (!eqD x829 x228.1) = true then
              some (Stp.rt false)
            else
              some (Stp.nx ())
          | .nx x648s =>
            (f_showing x183 x131).bind fun x842 =>
            if (!eqD x842 x228.1) = true then
              some (Stp.rt false)
            else
              some (Stp.nx ())
        ) (fun l292 =>
        (if (!eqD (some l292) x228.1) = true then some true else (
            (if true = true then (
                (f_l_wholes l292).bind fun x316 =>
                some (!x316)
              ) else some false).bind fun b327 =>
            some (b327 || (!eqD x131 x131))
          )).bind fun b340 =>
        if b340 = true then
          some (Stp.rt false)
        else
          (
            some ([] : List Nat)
            : Option ((List Nat))).bind fun x346 =>
          (gd ((x63.drop 13).length + (cutL x63 (some ((13 : Nat) : Int)) (some ((14 : Nat) : Int))).length ≤ 100000)).bind fun _ =>
          (loopO (S := (List ((List Nat) × Bool))) (T := Bool) (fun s369 (x370 : Nat) =>
            if (decide (x93 = 0)) = true then
              some (Stp.bk s369)
            else
              (gd (0 < x270.length)).bind fun _ =>
              (x270[(x370 % x270.length)]?).bind fun x402 =>
              (f_painting x183 x131 x402).bind fun x419 =>
              optE x419 (
                ((f_l_best (f_l_led 17)) x157 x131 x402 s369).bind fun x510 =>
                if ((!eqD (none : Option (List Nat)) x510.1) || ((!eqD x131 x131) || (!eqD x402 x402))) = true then
                  some (Stp.rt false)
                else
                  if (false && false) = true then
                    some (Stp.rt false)
                  else
                    (
                      some ()
                      : Option (Unit)).bind fun x544 =>
                    if (!eqD x402 x402) = true then
                      some (Stp.rt false)
                    else
                      some (Stp.nx x510.2)
                ) (fun l422 =>
                ((f_l_best (f_l_led 17)) x157 x131 x402 s369).bind fun x438 =>
                if ((!eqD (some l422) x438.1) || ((!eqD x131 x131) || (!eqD x402 x402))) = true then
                  some (Stp.rt false)
                else
                  (if true = true then (
                      (f_l_wholes l422).bind fun x472 =>
                      some (!x472)
                    ) else some false).bind fun b483 =>
                  if b483 = true then
                    some (Stp.rt false)
                  else
                    (
                      (gd (l422.length < 100000)).bind fun _ =>
                      some (l422 ++ [x93])
                      : Option ((List Nat))).bind fun x489 =>
                    if (!eqD x402 x402) = true then
                      some (Stp.rt false)
                    else
                      some (Stp.nx x438.2)
                )) ((x63.drop 13) ++ (cutL x63 (some ((13 : Nat) : Int)) (some ((14 : Nat) : Int)))) x228.2).bind fun x381 =>
          match x381 with
          | .rt t => some (Stp.rt t)
          | .bk x381s =>
            (f_showing x183 x131).bind fun x562 =>
            if (!eqD x562 x228.1) = true then
              some (Stp.rt false)
            else
              some (Stp.nx ())
          | .nx x381s =>
            (f_showing x183 x131).bind fun x575 =>
            if (!eqD x575 x228.1) = true then
              some (Stp.rt false)
            else
              some (Stp.nx ())
        )) (List.range 2) ()).bind fun x13 =>
  match x13 with
  | .rt t => some t
  | .bk _ => none
  | .nx x13s =>
    some true
def q_law (TL : List (Addr × Str)) (K : PySem.W.Frag) : Sp := fun vs H Q _ => ∃ (F : Hp) (v_script : V) (p_script : (List Int)) (rr : Bool), vs = [v_script] ∧ Same F H ∧ NoT F ∧ LamX.Tabs TL H ∧ (rScr K).r F v_script p_script ∧ f_law p_script = some rr ∧ ∀ v F' H', Ext ⟨[], TL⟩ F H F' H' → rB.r F' v rr → Q v H'
section
variable {P : Program} {w : World} {K : PySem.W.Frag} {mg : Str → Option Value} {base : Heap}
theorem t_law {fA : Addr} {fD : FuncData} {C_Web : Addr} (T : Tx mg) (O_Web : Own K mg "Web" C_Web) (F : Fun K "law" "law" s_law fA fD) (c_l_draws : Cal P w K mg base CX0 1 "_law_draws" (q_l_draws TL K)) (c_l_ties : Cal P w K mg base CX0 1 "_law_ties" (q_l_ties TL)) (m_WebD_initD : Met P w K mg base CX0 3 C_Web "__init__" (spInitW C_Web)) (c_leader : Cal P w K mg base CX0 41 "leader" (q_leader TL C_Web)) (c_l_led : Cal P w K mg base CX0 37 "_law_led" (q_l_led TL (f_l_led 17))) (c_l_first : Cal P w K mg base CX0 39 "_law_first" (q_l_first TL)) (c_l_subsets : Cal P w K mg base CX0 1 "_law_subsets" (q_l_subsets TL)) (c_showing : Cal P w K mg base CX0 42 "showing" (q_showing TL C_Web)) (c_l_wholes : Cal P w K mg base CX0 2 "_law_wholes" (q_l_wholes TL)) (c_painting : Cal P w K mg base CX0 42 "painting" (q_painting TL C_Web)) (c_l_best : Cal P w K mg base CX0 38 "_law_best" (q_l_best TL (f_l_led 17))) : FnOk P w K mg base CX0 43 fA fD ["script"] (q_law TL K) := by
  refine F.ok sc_law (fun vs H Q E h => ?_) (fun cdv A outer s H vs Q E hr h => ?_)
  · obtain ⟨_, _, _, _, rfl, _⟩ := h
    rfl
  · obtain ⟨F, v_script, p_script, rr, rfl, sm0, nt0, tb0, r_script, hf, q⟩ := h
    have hf : _ = some rr := hf
    unfold f_law at hf
    refine ⟨_, (pss_cons (ps_for PassesOwn.never rfl (pi_range1 rfl T.z_range (pa_cons pe_int pa_nil)) (pg_name (i := 1) sc_law.nd rfl (Or.inl rfl))
        (pss_cons (ps_set (i := 2) sc_law.nd rfl (Or.inr rfl) (pe_cal c_l_draws hr (by decide) rfl pass0 (pa_cons (pv 0) (pa_cons (pv 1) (pa_cons (pe_op op_cat (pe_op op_cat (pe_op op_cat (pe_lst (pa_cons pe_int (pa_cons pe_int (pa_cons pe_int pa_nil)))) (pe_op op_rep (pe_lst (pa_cons pe_int pa_nil)) pe_int)) (pe_op op_rep (pe_lst (pa_cons pe_int pa_nil)) pe_int)) (pe_op op_rep (pe_lst (pa_cons pe_int pa_nil)) pe_int)) pa_nil)))))
      (pss_cons (ps_set (i := 3) sc_law.nd rfl (Or.inl rfl) (pe_ix (ix_l K) (pe_lst (pa_cons (pe_ix (ix_l K) (pv 2) pe_int (fun _ _ => rfl)) (pa_cons pe_int pa_nil))) (pe_op op_fdiv (pe_ix (ix_l K) (pv 2) pe_int (fun _ _ => rfl)) pe_int) (fun _ _ => rfl)))
      (pss_cons (ps_setLc (i := 4) (own := [("p", 16)]) (g := gName 16) rfl sc_law.nd rfl rfl (sw_true rfl rfl rfl (by decide +kernel)) (pi_range1 rfl T.z_range (pa_cons (pv 3) pa_nil)) (blkOk_by (own := [("p", 16)]) (N := ["script", "k", "picks", "many", "tokens", "ties", "web", "known", "handed", "due", "rows", "first", "at", "shown", "passed", "found", "p", "row"]) (sc := defScope s_law) (by decide +kernel)) (fun _ _ _ _ _ => (pg_name (i := 16) sc_law.nd rfl (Or.inl rfl))) (fun _ _ _ _ _ => pts_nil) (fun _ _ _ _ _ => (pe_op op_add pe_int (pe_op op_mod (pe_ix (ix_l K) (pv 2) (pe_op op_add pe_int (pv 16)) (fun _ _ => rfl)) (pe_ix (ix_l K) (pe_lst (pa_cons pe_int (pa_cons pe_int pa_nil))) (pe_op op_fdiv (pe_ix (ix_l K) (pv 2) pe_int (fun _ _ => rfl)) pe_int) (fun _ _ => rfl))))))
      (pss_cons (ps_set (i := 5) sc_law.nd rfl (Or.inl rfl) (pe_cal c_l_ties hr (by decide) rfl pass0 (pa_cons (pv 3) (pa_cons (pe_ix (ix_l K) (pv 2) pe_int (fun _ _ => rfl)) (pa_cons (pe_slice (k_sll K) (pv 2) (po_some pe_int) po_none) pa_nil)))))
      (pss_cons (ps_set (i := 6) sc_law.nd rfl (Or.inl rfl) (pe_mak m_WebD_initD O_Web hr (by decide) rfl pass0 (pa_cons (pv 3) (pa_cons (k_revL K (pv 5)) pa_nil))))
      (pss_cons (ps_set (i := 7) sc_law.nd rfl (Or.inl rfl) pe_dnewT)
      (pss_cons (ps_set (i := 8) sc_law.nd rfl (Or.inl rfl) (pe_callTy (cl_listOf K) (by rfl) T.z_list (by decide +kernel) (pa_cons (pv 4) pa_nil)))
      (pss_cons (ps_if (pt_cmpR op_ne (pe_cal c_leader hr (by decide) rfl pass0 (pa_cons (pv 6) (pa_cons (pv 8) pa_nil))) (pe_ix (ix_l K) (pe_lst (pa_cons pe_str (pa_cons pe_str pa_nil))) (pe_callTy cl_int (by rfl) T.z_int (by decide +kernel) (pa_cons (pe_cal c_l_led hr (by decide) rfl pass0 (pa_cons (pv 5) (pa_cons (pv 4) (pa_cons (pv 7) pa_nil)))) pa_nil)) (fun _ _ => rfl)) (nomark _))
        (pss_one (ps_ret pe_bl)) pss_nil)
      (pss_cons (ps_set (i := 9) sc_law.nd rfl (Or.inl rfl) (pe_cal c_l_first hr (by decide) rfl pass0 (pa_cons (pv 5) (pa_cons (pv 4) (pa_cons (pv 7) pa_nil)))))
      (pss_cons (ps_setLc (i := 10) (own := [("row", 17)]) (g := gName 17) rfl sc_law.nd rfl rfl (sw_true rfl rfl rfl (by decide +kernel)) (k_pil K (pe_cal c_l_subsets hr (by decide) rfl pass0 (pa_cons (pe_listRg rfl rfl T.z_list (prg_1 rfl T.z_range (pv 3))) pa_nil))) (blkOk_by (own := [("row", 17)]) (N := ["script", "k", "picks", "many", "tokens", "ties", "web", "known", "handed", "due", "rows", "first", "at", "shown", "passed", "found", "p", "row"]) (sc := defScope s_law) (by decide +kernel)) (fun _ _ _ _ _ => (pg_name (i := 17) sc_law.nd rfl (Or.inl rfl))) (fun _ _ _ _ _ => pts_one (pt_cmpR (k_neD K hr.units) (pv 17) (pe_lst pa_nil) (nomark _))) (fun _ _ _ _ _ => (pv 17)))
      (pss_cons (ps_set (i := 11) sc_law.nd rfl (Or.inl rfl) (pe_cal c_showing hr (by decide) rfl pass0 (pa_cons (pv 6) (pa_cons (pv 8) pa_nil))))
      (pss_cons (ps_if (PW.pt (pw_or (pt_cmpR (k_neD K hr.units) (pv 11) (pv 9) (nomark _)) (pw_or (PW.pt (pw_and (pt_cmpR k_notN (pv 11) pe_non (nomark _)) (pw_and1 (pt_not (pt_val (pe_cal c_l_wholes hr (by decide) rfl pass0 (pa_cons (pv 11) pa_nil))))))) (pw_or1 (pt_cmpR (k_neD K hr.units) (pv 8) (pv 4) (nomark _))))))
        (pss_one (ps_ret pe_bl)) pss_nil)
      (Evl.pss_cut (ps_if (pt_cmpR k_notN (pv 11) pe_non (nomark _))
        (pss_one (ps_expr (k_bm0 K PySem.F.plainAttrs_list PySem.F.slot_list_clear PySem.F.type_list_clear mt_clear (pv 11)))) pss_nil)
      (pss_cons (ps_for PassesOwn.never rfl (k_pil K (pe_op op_cat (pe_slice (k_sll K) (pv 2) (po_some pe_int) po_none) (pe_slice (k_sll K) (pv 2) (po_some pe_int) (po_some pe_int)))) (pg_name (i := 12) sc_law.nd rfl (Or.inl rfl))
        (pss_cons (ps_if (pt_cmpR op_eq (pv 3) pe_int (nomark _))
        (pss_one ps_break) pss_nil)
      (pss_cons (ps_set (i := 13) sc_law.nd rfl (Or.inl rfl) (pe_ix (ix_l K) (pv 10) (pe_op op_mod (pv 12) (pe_callB (cl_len K) (by rfl) T.z_len PySem.boot_len (pa_cons (pv 10) pa_nil))) (fun _ _ => rfl)))
      (pss_cons (ps_set (i := 14) sc_law.nd rfl (Or.inl rfl) (pe_callTy (cl_listOf K) (by rfl) T.z_list (by decide +kernel) (pa_cons (pv 13) pa_nil)))
      (pss_cons (ps_set (i := 15) sc_law.nd rfl (Or.inl rfl) (pe_cal c_painting hr (by decide) rfl pass0 (pa_cons (pv 6) (pa_cons (pv 8) (pa_cons (pv 14) pa_nil)))))
      (pss_cons (ps_if (PW.pt (pw_or (pt_cmpR (k_neD K hr.units) (pv 15) (pe_cal c_l_best hr (by decide) rfl pass0 (pa_cons (pv 5) (pa_cons (pv 4) (pa_cons (pv 13) (pa_cons (pv 7) pa_nil))))) (nomark _)) (pw_or (pt_cmpR (k_neD K hr.units) (pv 8) (pv 4) (nomark _)) (pw_or1 (pt_cmpR (k_neD K hr.units) (pv 14) (pv 13) (nomark _))))))
        (pss_one (ps_ret pe_bl)) pss_nil)
      (pss_cons (ps_if (PW.pt (pw_and (pt_cmpR k_notN (pv 15) pe_non (nomark _)) (pw_and1 (pt_not (pt_val (pe_cal c_l_wholes hr (by decide) rfl pass0 (pa_cons (pv 15) pa_nil)))))))
        (pss_one (ps_ret pe_bl)) pss_nil)
      (Evl.pss_cut (ps_if (pt_cmpR k_notN (pv 15) pe_non (nomark _))
        (pss_one (ps_expr (k_bm K PySem.F.plainAttrs_list PySem.F.slot_list_append PySem.F.type_list_append mt_append (pv 15) (pa_cons (pv 3) pa_nil)))) pss_nil)
      (pss_one (ps_if (pt_cmpR (k_neD K hr.units) (pv 14) (pv 13) (nomark _))
        (pss_one (ps_ret pe_bl)) pss_nil))))))))))
      (pss_one (ps_if (pt_cmpR (k_neD K hr.units) (pe_cal c_showing hr (by decide) rfl pass0 (pa_cons (pv 6) (pa_cons (pv 8) pa_nil))) (pv 9) (nomark _))
        (pss_one (ps_ret pe_bl)) pss_nil)))))))))))))))))
      (pss_one (ps_ret pe_bl))), ?_⟩
    have hE0 : Wst ⟨[], TL⟩ F H [(rScr K).at p_script, sAny, sAny, sAny, sAny, sAny, sAny, sAny, sAny, sAny, sAny, sAny, sAny, sAny, sAny, sAny, sAny, sAny] [] (start ["script", "k", "picks", "many", "tokens", "ties", "web", "known", "handed", "due", "rows", "first", "at", "shown", "passed", "found", "p", "row"] [v_script]) F H := Wst.start (vs := [v_script]) (n := 17) (ss := [(rScr K).at p_script]) (cs := []) sm0 nt0 (fun p hp => by cases hp) List.nodup_nil (.cons ⟨_, rfl, r_script⟩ .nil)
    revert hE0
    generalize start ["script", "k", "picks", "many", "tokens", "ties", "web", "known", "handed", "due", "rows", "first", "at", "shown", "passed", "found", "p", "row"] [v_script] = σ0
    intro hE0
    refine x_seq ?_
    refine x_for ?_
    refine x_rg1 ?_
    refine x_cons ?_
    refine w_cN 2 ?_
    refine x_nil ?_
    refine w_r1 (by decide) ?_
    have hE11 : Wst ⟨[], TL⟩ _ _ [(rScr K).at p_script, sAny, sAny, sAny, sAny, sAny, sAny, sAny, sAny, sAny, sAny, sAny, sAny, sAny, sAny, sAny, sAny, sAny] [] _ _ _ := hE0
    obtain ⟨x13, hx13, hf⟩ := bnd hf
    refine w_forS 0 (fun (s1 : Unit) (ad9 : Nat → Addr) => [(rScr K).at p_script, sAny, sAny, sAny, sAny, sAny, sAny, sAny, sAny, sAny, sAny, sAny, sAny, sAny, sAny, sAny, sAny, sAny]) (fun (s1 : Unit) (ad9 : Nat → Addr) => []) hx13 adZ no_ad hE11 (fun _ ad9 _ _ _ sm w850 => jok_r0 w850.fh w850.nt) (fun s1 ad9 x2 v3 o4 _ _ _ ha10 s5 r6 hE7 hb8 hrx13 hkx13 => ?_) (fun x13s ad9 _ _ _ eex13 ha10 s851 hE852 => ?_)
    · have hE12 : Wst ⟨[], TL⟩ _ _ [(rScr K).at p_script, sAny, sAny, sAny, sAny, sAny, sAny, sAny, sAny, sAny, sAny, sAny, sAny, sAny, sAny, sAny, sAny, sAny] [] _ _ _ := hE7
      obtain rfl := (show v3 = (V.int ((x2 : Nat) : Int)) from r6)
      refine w_name (R := rN) (ss' := [(rScr K).at p_script, rN.at x2, sAny, sAny, sAny, sAny, sAny, sAny, sAny, sAny, sAny, sAny, sAny, sAny, sAny, sAny, sAny, sAny]) hE12 rfl rfl fun _ hE14 => ?_
      refine x_seq ?_
      refine x_asg ?_
      refine x_call ?_
      refine x_cons ?_
      refine w_var hE14 (i := 0) rfl fun v15 r16 => ?_
      refine x_cons ?_
      refine w_vN hE14 (i := 1) rfl ?_
      refine x_cons ?_
      refine x_op ?_
      refine x_op ?_
      refine x_op ?_
      refine m_lst ?_
      refine x_cons ?_
      refine w_cN 4 ?_
      refine x_cons ?_
      refine w_cN 4 ?_
      refine x_cons ?_
      refine w_cN 4 ?_
      refine x_nil ?_
      refine w_lstF hE14 (R := rN) (l := [4, 4, 4]) (by show 3 ≤ 100000; decide) (.cons rfl (.cons rfl (.cons rfl .nil))) fun v17 _ _ s18 hE20 r19 => ?_
      refine x_op ?_
      refine m_lst ?_
      refine x_cons ?_
      refine w_cN 3 ?_
      refine x_nil ?_
      refine w_lstF hE20 (R := rN) (l := [3]) (by show 1 ≤ 100000; decide) (.cons rfl .nil) fun v21 _ _ s22 hE24 r23 => ?_
      refine w_cN 4 ?_
      obtain ⟨_, u25, hb8⟩ := bnd hb8
      have u25 := gd_ok u25
      refine w_repF hE24 (lv_f hE24.fh r23) u25 fun v26 _ _ s27 hE29 r28 => ?_
      obtain ⟨_, u30, hb8⟩ := bnd hb8
      have u30 := gd_ok u30
      refine w_catF hE29 (lv_f hE29.fh ((rL rN).mono s27 ((rL rN).mono s22 r19))) (lv_f hE29.fh r28) u30 fun v31 _ _ s32 hE34 r33 => ?_
      refine x_op ?_
      refine m_lst ?_
      refine x_cons ?_
      refine w_cN 6 ?_
      refine x_nil ?_
      refine w_lstF hE34 (R := rN) (l := [6]) (by show 1 ≤ 100000; decide) (.cons rfl .nil) fun v35 _ _ s36 hE38 r37 => ?_
      refine w_cN 6 ?_
      obtain ⟨_, u39, hb8⟩ := bnd hb8
      have u39 := gd_ok u39
      refine w_repF hE38 (lv_f hE38.fh r37) u39 fun v40 _ _ s41 hE43 r42 => ?_
      obtain ⟨_, u44, hb8⟩ := bnd hb8
      have u44 := gd_ok u44
      refine w_catF hE43 (lv_f hE43.fh ((rL rN).mono s41 ((rL rN).mono s36 r33))) (lv_f hE43.fh r42) u44 fun v45 _ _ s46 hE48 r47 => ?_
      refine x_op ?_
      refine m_lst ?_
      refine x_cons ?_
      refine w_cN 105 ?_
      refine x_nil ?_
      refine w_lstF hE48 (R := rN) (l := [105]) (by show 1 ≤ 100000; decide) (.cons rfl .nil) fun v49 _ _ s50 hE52 r51 => ?_
      refine w_cN 5 ?_
      obtain ⟨_, u53, hb8⟩ := bnd hb8
      have u53 := gd_ok u53
      refine w_repF hE52 (lv_f hE52.fh r51) u53 fun v54 _ _ s55 hE57 r56 => ?_
      obtain ⟨_, u58, hb8⟩ := bnd hb8
      have u58 := gd_ok u58
      refine w_catF hE57 (lv_f hE57.fh ((rL rN).mono s55 ((rL rN).mono s50 r47))) (lv_f hE57.fh r56) u58 fun v59 _ _ s60 hE62 r61 => ?_
      refine x_nil ?_
      obtain ⟨x63, hx63, hb8⟩ := bnd hb8
      refine ⟨_, v15, p_script, x2, v59, ((([4, 4, 4] ++ (List.replicate 4 [3]).flatten) ++ (List.replicate 6 [6]).flatten) ++ (List.replicate 5 [105]).flatten), x63, rfl, hE62.fh, hE62.nt, ((rScr K).mono s60 ((rScr K).mono s55 ((rScr K).mono s50 ((rScr K).mono s46 ((rScr K).mono s41 ((rScr K).mono s36 ((rScr K).mono s32 ((rScr K).mono s27 ((rScr K).mono s22 ((rScr K).mono s18 r16)))))))))), r61, hx63, fun c66 _ _ e64 o67 p68 q69 => ?_⟩
      have hE70 : Wst ⟨[], TL⟩ _ _ [(rScr K).at p_script, rN.at x2, sAny, sAny, sAny, sAny, sAny, sAny, sAny, sAny, sAny, sAny, sAny, sAny, sAny, sAny, sAny, sAny] [] _ _ _ := hE62.grow e64
      have o71 := hE62.own o67
      have hE72 : Wst ⟨[], TL⟩ _ _ [(rScr K).at p_script, rN.at x2, sAny, sAny, sAny, sAny, sAny, sAny, sAny, sAny, sAny, sAny, sAny, sAny, sAny, sAny, sAny, sAny] [(c66, cL rN x63)] _ _ _ := hE70.addC (A := cL rN x63) o71 p68 q69 (hE62.fresh_ne o67)
      obtain ⟨F73, s74, hE76, r75⟩ := hE72.freeze (k := 0) rfl o71
      have hE77 : Wst ⟨[], TL⟩ _ _ [(rScr K).at p_script, rN.at x2, sAny, sAny, sAny, sAny, sAny, sAny, sAny, sAny, sAny, sAny, sAny, sAny, sAny, sAny, sAny, sAny] [] _ _ _ := hE76
      refine w_name (R := (rL rN)) (ss' := [(rScr K).at p_script, rN.at x2, (rL rN).at x63, sAny, sAny, sAny, sAny, sAny, sAny, sAny, sAny, sAny, sAny, sAny, sAny, sAny, sAny, sAny]) hE77 rfl r75 fun _ hE78 => ?_
      refine x_seq ?_
      refine x_asg ?_
      refine x_op ?_
      refine m_lst ?_
      refine x_cons ?_
      refine x_op ?_
      refine w_var hE78 (i := 2) rfl fun v79 r80 => ?_
      refine w_cN 1 ?_
      obtain ⟨x81, hx81, hb8⟩ := bnd hb8
      refine w_ix (lv_f hE78.fh r80) hx81 fun v82 r83 => ?_
      obtain rfl := (show v82 = (V.int ((x81 : Nat) : Int)) from r83)
      refine x_cons ?_
      refine w_cN 4 ?_
      refine x_nil ?_
      refine w_lstF hE78 (R := rN) (l := [x81, 4]) (by show 2 ≤ 100000; decide) (.cons rfl (.cons rfl .nil)) fun v84 _ _ s85 hE87 r86 => ?_
      refine x_op ?_
      refine x_op ?_
      refine w_var hE87 (i := 2) rfl fun v88 r89 => ?_
      refine w_cN 0 ?_
      obtain ⟨x90, hx90, hb8⟩ := bnd hb8
      refine w_ix (lv_f hE87.fh r89) hx90 fun v91 r92 => ?_
      obtain rfl := (show v91 = (V.int ((x90 : Nat) : Int)) from r92)
      refine w_cN 3 ?_
      refine w_divN (by decide) ?_
      obtain ⟨x93, hx93, hb8⟩ := bnd hb8
      refine w_ix (lv_f hE87.fh r86) hx93 fun v94 r95 => ?_
      obtain rfl := (show v94 = (V.int ((x93 : Nat) : Int)) from r95)
      refine w_name (R := rN) (ss' := [(rScr K).at p_script, rN.at x2, (rL rN).at x63, rN.at x93, sAny, sAny, sAny, sAny, sAny, sAny, sAny, sAny, sAny, sAny, sAny, sAny, sAny, sAny]) hE87 rfl rfl fun _ hE96 => ?_
      refine x_seq ?_
      refine x_asg ?_
      refine x_lc ?_
      refine x_rg1 ?_
      refine x_cons ?_
      refine w_vN hE96 (i := 3) rfl ?_
      refine x_nil ?_
      obtain ⟨_, u97, hb8⟩ := bnd hb8
      have u97 := gd_ok u97
      refine w_r1 u97 ?_
      obtain ⟨x131, hx131, hb8⟩ := bnd hb8
      obtain ⟨_, u132, hb8⟩ := bnd hb8
      have u132 := gd_ok u132
      intro c98 d99
      refine w_lc (B := rN) hx131 u132 hE96 d99 (fun _ _ _ sm w138 => jok_r0 w138.fh w138.nt) (fun x100 v102 o103 ac110 _ _ s104 r105 hE106 hb107 z108 ew109 => ?_) (fun _ _ o135 s136 hE137 => ?_)
      · have hE106 : Wst ⟨[], TL⟩ _ _ [(rScr K).at p_script, rN.at x2, (rL rN).at x63, rN.at x93, sAny, sAny, sAny, sAny, sAny, sAny, sAny, sAny, sAny, sAny, sAny, sAny, sAny, sAny] [(c98, cL rN ac110)] _ _ _ := hE106
        refine w_nameW (ss' := [(rScr K).at p_script, rN.at x2, (rL rN).at x63, rN.at x93, sAny, sAny, sAny, sAny, sAny, sAny, sAny, sAny, sAny, sAny, sAny, sAny, rN.at x100, sAny]) hE106 rfl r105 (by decide) ew109 fun _ ew112 hE111 => ?_
        refine ⟨ew112, ?_⟩
        refine x_yes ?_
        refine x_T ?_
        refine x_op ?_
        refine w_cN 1 ?_
        refine x_op ?_
        refine x_op ?_
        refine w_var hE111 (i := 2) rfl fun v113 r114 => ?_
        refine x_op ?_
        refine w_cN 3 ?_
        refine w_vN hE111 (i := 16) rfl ?_
        refine w_addN ?_
        obtain ⟨x115, hx115, hb107⟩ := bnd hb107
        refine w_ix (lv_f hE111.fh r114) hx115 fun v116 r117 => ?_
        obtain rfl := (show v116 = (V.int ((x115 : Nat) : Int)) from r117)
        refine x_op ?_
        refine m_lst ?_
        refine x_cons ?_
        refine w_cN 3 ?_
        refine x_cons ?_
        refine w_cN 2 ?_
        refine x_nil ?_
        refine w_lstF hE111 (R := rN) (l := [3, 2]) (by show 2 ≤ 100000; decide) (.cons rfl (.cons rfl .nil)) fun v118 _ _ s119 hE121 r120 => ?_
        refine x_op ?_
        refine x_op ?_
        refine w_var hE121 (i := 2) rfl fun v122 r123 => ?_
        refine w_cN 0 ?_
        obtain ⟨x124, hx124, hb107⟩ := bnd hb107
        refine w_ix (lv_f hE121.fh r123) hx124 fun v125 r126 => ?_
        obtain rfl := (show v125 = (V.int ((x124 : Nat) : Int)) from r126)
        refine w_cN 3 ?_
        refine w_divN (by decide) ?_
        obtain ⟨x127, hx127, hb107⟩ := bnd hb107
        refine w_ix (lv_f hE121.fh r120) hx127 fun v128 r129 => ?_
        obtain rfl := (show v128 = (V.int ((x127 : Nat) : Int)) from r129)
        obtain ⟨_, u130, hb107⟩ := bnd hb107
        have u130 := gd_ok u130
        refine w_modN u130 ?_
        refine w_addN ?_
        have hb107 := Option.some.inj hb107
        subst hb107
        exact w_acc (s := ()) hE121 (s104.trans s119) rfl z108 ew112 rfl
      have hE139 : Wst ⟨[], TL⟩ _ _ [(rScr K).at p_script, rN.at x2, (rL rN).at x63, rN.at x93, sAny, sAny, sAny, sAny, sAny, sAny, sAny, sAny, sAny, sAny, sAny, sAny, sAny, sAny] [(c98, cL rN x131)] _ _ _ := hE137
      obtain ⟨F140, s141, hE143, r142⟩ := hE139.freeze (k := 0) rfl o135
      have hE144 : Wst ⟨[], TL⟩ _ _ [(rScr K).at p_script, rN.at x2, (rL rN).at x63, rN.at x93, sAny, sAny, sAny, sAny, sAny, sAny, sAny, sAny, sAny, sAny, sAny, sAny, sAny, sAny] [] _ _ _ := hE143
      refine w_name (R := (rL rN)) (ss' := [(rScr K).at p_script, rN.at x2, (rL rN).at x63, rN.at x93, (rL rN).at x131, sAny, sAny, sAny, sAny, sAny, sAny, sAny, sAny, sAny, sAny, sAny, sAny, sAny]) hE144 rfl r142 fun _ hE145 => ?_
      refine x_seq ?_
      refine x_asg ?_
      refine x_call ?_
      refine x_cons ?_
      refine w_vN hE145 (i := 3) rfl ?_
      refine x_cons ?_
      refine x_op ?_
      refine w_var hE145 (i := 2) rfl fun v146 r147 => ?_
      refine w_cN 2 ?_
      obtain ⟨x148, hx148, hb8⟩ := bnd hb8
      refine w_ix (lv_f hE145.fh r147) hx148 fun v149 r150 => ?_
      obtain rfl := (show v149 = (V.int ((x148 : Nat) : Int)) from r150)
      refine x_cons ?_
      refine x_sl ?_
      refine w_var hE145 (i := 2) rfl fun v151 r152 => ?_
      refine x_part ?_
      refine w_cN 7 ?_
      refine ⟨_, rfl, ?_⟩
      refine x_noPart ?_
      refine w_slDF hE145 (lv_f hE145.fh r152) fun v153 _ _ s154 hE156 r155 => ?_
      refine x_nil ?_
      obtain ⟨x157, hx157, hb8⟩ := bnd hb8
      refine ⟨_, x93, x148, v153, (x63.drop 7), x157, rfl, hE156.fh, hE156.nt, r155, hx157, fun c160 _ _ e158 o161 p162 q163 => ?_⟩
      have hE164 : Wst ⟨[], TL⟩ _ _ [(rScr K).at p_script, rN.at x2, (rL rN).at x63, rN.at x93, (rL rN).at x131, sAny, sAny, sAny, sAny, sAny, sAny, sAny, sAny, sAny, sAny, sAny, sAny, sAny] [] _ _ _ := hE156.grow e158
      have o165 := hE156.own o161
      have hE166 : Wst ⟨[], TL⟩ _ _ [(rScr K).at p_script, rN.at x2, (rL rN).at x63, rN.at x93, (rL rN).at x131, sAny, sAny, sAny, sAny, sAny, sAny, sAny, sAny, sAny, sAny, sAny, sAny, sAny] [(c160, cL (rT2 rN rN) x157)] _ _ _ := hE164.addC (A := cL (rT2 rN rN) x157) o165 p162 q163 (hE156.fresh_ne o161)
      obtain ⟨F167, s168, hE170, r169⟩ := hE166.freeze (k := 0) rfl o165
      have hE171 : Wst ⟨[], TL⟩ _ _ [(rScr K).at p_script, rN.at x2, (rL rN).at x63, rN.at x93, (rL rN).at x131, sAny, sAny, sAny, sAny, sAny, sAny, sAny, sAny, sAny, sAny, sAny, sAny, sAny] [] _ _ _ := hE170
      refine w_name (R := (rL (rT2 rN rN))) (ss' := [(rScr K).at p_script, rN.at x2, (rL rN).at x63, rN.at x93, (rL rN).at x131, (rL (rT2 rN rN)).at x157, sAny, sAny, sAny, sAny, sAny, sAny, sAny, sAny, sAny, sAny, sAny, sAny]) hE171 rfl r169 fun _ hE172 => ?_
      refine x_seq ?_
      refine x_asg ?_
      refine m_make ?_
      refine x_cons ?_
      refine w_vN hE172 (i := 3) rfl ?_
      refine x_cons ?_
      refine m_revT ?_
      refine w_var hE172 (i := 5) rfl fun v173 r174 => ?_
      refine w_revF hE172 (lv_f hE172.fh r174) fun v175 _ _ s176 hE178 r177 => ?_
      refine x_nil ?_
      obtain ⟨x183, hx183, hb8⟩ := bnd hb8
      refine w_mkWeb hE178 r177 hx183 fun v179 _ _ s180 hE182 r181 => ?_
      refine w_name (R := (rWb C_Web)) (ss' := [(rScr K).at p_script, rN.at x2, (rL rN).at x63, rN.at x93, (rL rN).at x131, (rL (rT2 rN rN)).at x157, (rWb C_Web).at x183, sAny, sAny, sAny, sAny, sAny, sAny, sAny, sAny, sAny, sAny, sAny]) hE182 rfl r181 fun _ hE184 => ?_
      refine x_seq ?_
      refine x_asg ?_
      refine w_dnewT (B := rB) hE184 fun c185 _ o186 hE187 => ?_
      have hE188 : Wst ⟨[], TL⟩ _ _ [(rScr K).at p_script, rN.at x2, (rL rN).at x63, rN.at x93, (rL rN).at x131, (rL (rT2 rN rN)).at x157, (rWb C_Web).at x183, sAny, sAny, sAny, sAny, sAny, sAny, sAny, sAny, sAny, sAny, sAny] [(c185, cDT rB ([] : (List ((List Nat) × Bool))))] _ _ _ := hE187
      refine w_nameC (ss' := [(rScr K).at p_script, rN.at x2, (rL rN).at x63, rN.at x93, (rL rN).at x131, (rL (rT2 rN rN)).at x157, (rWb C_Web).at x183, sRef c185, sAny, sAny, sAny, sAny, sAny, sAny, sAny, sAny, sAny, sAny]) hE188 rfl fun _ hE189 => ?_
      refine x_seq ?_
      refine x_asg ?_
      refine x_cb ?_
      refine x_cons ?_
      refine w_var hE189 (i := 4) rfl fun v190 r191 => ?_
      refine x_nil ?_
      refine w_listF hE189 (lv_f hE189.fh r191) fun v192 _ _ s193 hE195 r194 => ?_
      refine w_name (R := (rL rN)) (ss' := [(rScr K).at p_script, rN.at x2, (rL rN).at x63, rN.at x93, (rL rN).at x131, (rL (rT2 rN rN)).at x157, (rWb C_Web).at x183, sRef c185, (rL rN).at x131, sAny, sAny, sAny, sAny, sAny, sAny, sAny, sAny, sAny]) hE195 rfl r194 fun _ hE196 => ?_
      refine x_seq ?_
      refine x_ifs ?_
      refine x_test ?_
      refine x_op ?_
      refine x_call ?_
      refine x_cons ?_
      refine w_var hE196 (i := 6) rfl fun v197 r198 => ?_
      refine x_cons ?_
      refine w_var hE196 (i := 8) rfl fun v199 r200 => ?_
      refine x_nil ?_
      obtain ⟨x201, hx201, hb8⟩ := bnd hb8
      refine ⟨_, v197, x183, v199, x131, x201, rfl, hE196.fh, hE196.nt, (hE196.tb tb0), r198, r200, hx201, fun v204 _ _ e202 r203 => ?_⟩
      have hE205 : Wst ⟨[], TL⟩ _ _ [(rScr K).at p_script, rN.at x2, (rL rN).at x63, rN.at x93, (rL rN).at x131, (rL (rT2 rN rN)).at x157, (rWb C_Web).at x183, sRef c185, (rL rN).at x131, sAny, sAny, sAny, sAny, sAny, sAny, sAny, sAny, sAny] [(c185, cDT rB ([] : (List ((List Nat) × Bool))))] _ _ _ := hE196.grow e202
      obtain rfl := (show v204 = (V.str x201) from r203)
      refine x_op ?_
      refine m_lst ?_
      refine x_cons ?_
      refine x_c ?_
      refine x_cons ?_
      refine x_c ?_
      refine x_nil ?_
      refine w_lstF hE205 (R := rSt) (l := (["foe", "painter"] : List Str)) (by show 2 ≤ 100000; decide) (.cons rfl (.cons rfl .nil)) fun v206 _ _ s207 hE209 r208 => ?_
      refine x_cb ?_
      refine x_cons ?_
      refine x_call ?_
      refine x_cons ?_
      refine w_var hE209 (i := 5) rfl fun v210 r211 => ?_
      refine x_cons ?_
      refine w_var hE209 (i := 4) rfl fun v212 r213 => ?_
      refine x_cons ?_
      refine w_ref hE209 (i := 7) rfl ?_
      refine x_nil ?_
      obtain ⟨x214, hx214, hb8⟩ := bnd hb8
      refine ⟨_, v210, x157, v212, x131, c185, ([] : (List ((List Nat) × Bool))), x214, rfl, hE209.fh, hE209.nt, hE209.apart (k := 0) rfl, hE209.cell (k := 0) rfl, r211, r213, hx214, fun v217 _ _ e215 w218 r216 => ?_⟩
      have hE219 : Wst ⟨[], TL⟩ _ _ [(rScr K).at p_script, rN.at x2, (rL rN).at x63, rN.at x93, (rL rN).at x131, (rL (rT2 rN rN)).at x157, (rWb C_Web).at x183, sRef c185, (rL rN).at x131, sAny, sAny, sAny, sAny, sAny, sAny, sAny, sAny, sAny] [(c185, cDT rB x214.2)] _ _ _ := hE209.call1 (k := 0) (A' := cDT rB x214.2) rfl e215 w218
      obtain rfl := (show v217 = (V.bl x214.1) from r216)
      refine x_nil ?_
      refine w_intB ?_
      obtain ⟨x220, hx220, hb8⟩ := bnd hb8
      refine w_ix (lv_f hE219.fh ((rL rSt).mono e215.ff r208)) hx220 fun v221 r222 => ?_
      obtain rfl := (show v221 = (V.str x220) from r222)
      refine w_neS ?_
      refine x_bl ?_
      refine x_itb (fun hc223 => ?_) (fun hc223 => ?_)
      · have hb8 := ite_t hb8 hc223
        refine x_ret ?_
        refine x_c ?_
        have hb8 := Option.some.inj hb8
        subst hb8
        cases (hrx13 _ rfl)
        have hf := Option.some.inj hf
        subst hf
        exact q _ _ _ hE219.ex rfl
      · have hb8 := ite_f hb8 hc223
        refine x_next ?_
        refine x_seq ?_
        refine x_asg ?_
        refine x_call ?_
        refine x_cons ?_
        refine w_var hE219 (i := 5) rfl fun v224 r225 => ?_
        refine x_cons ?_
        refine w_var hE219 (i := 4) rfl fun v226 r227 => ?_
        refine x_cons ?_
        refine w_ref hE219 (i := 7) rfl ?_
        refine x_nil ?_
        obtain ⟨x228, hx228, hb8⟩ := bnd hb8
        refine ⟨_, v224, x157, v226, x131, c185, x214.2, x228, rfl, hE219.fh, hE219.nt, hE219.apart (k := 0) rfl, hE219.cell (k := 0) rfl, r225, r227, hx228, fun v231 _ _ e229 w232 r230 => ?_⟩
        have hE233 : Wst ⟨[], TL⟩ _ _ [(rScr K).at p_script, rN.at x2, (rL rN).at x63, rN.at x93, (rL rN).at x131, (rL (rT2 rN rN)).at x157, (rWb C_Web).at x183, sRef c185, (rL rN).at x131, sAny, sAny, sAny, sAny, sAny, sAny, sAny, sAny, sAny] [(c185, cDT rB x228.2)] _ _ _ := hE219.call1 (k := 0) (A' := cDT rB x228.2) rfl e229 w232
        refine w_name (R := (rO (rL rN))) (ss' := [(rScr K).at p_script, rN.at x2, (rL rN).at x63, rN.at x93, (rL rN).at x131, (rL (rT2 rN rN)).at x157, (rWb C_Web).at x183, sRef c185, (rL rN).at x131, (rO (rL rN)).at x228.1, sAny, sAny, sAny, sAny, sAny, sAny, sAny, sAny]) hE233 rfl r230 fun _ hE234 => ?_
        refine x_seq ?_
        refine x_asg ?_
        refine x_lc ?_
        refine x_il ?_
        refine x_call ?_
        refine x_cons ?_
        refine m_lstRg ?_
        refine x_tRg1 ?_
        refine w_vN hE234 (i := 3) rfl ?_
        refine x_rgN ?_
        obtain ⟨_, u235, hb8⟩ := bnd hb8
        have u235 := gd_ok u235
        refine w_lrgF hE234 u235 fun v236 _ _ s237 hE239 r238 => ?_
        refine x_nil ?_
        obtain ⟨x240, hx240, hb8⟩ := bnd hb8
        refine ⟨_, v236, (List.range x93), x240, rfl, hE239.fh, hE239.nt, r238, hx240, fun v243 _ _ e241 r242 => ?_⟩
        have hE244 : Wst ⟨[], TL⟩ _ _ [(rScr K).at p_script, rN.at x2, (rL rN).at x63, rN.at x93, (rL rN).at x131, (rL (rT2 rN rN)).at x157, (rWb C_Web).at x183, sRef c185, (rL rN).at x131, (rO (rL rN)).at x228.1, sAny, sAny, sAny, sAny, sAny, sAny, sAny, sAny] [(c185, cDT rB x228.2)] _ _ _ := hE239.grow e241
        refine w_il (lv_f hE244.fh r242) fun a245 ea => ?_
        cases ea
        obtain ⟨x270, hx270, hb8⟩ := bnd hb8
        obtain ⟨_, u271, hb8⟩ := bnd hb8
        have u271 := gd_ok u271
        intro c246 d247
        refine w_lc (B := (rL rN)) hx270 u271 hE244 d247 (fun _ _ _ sm w277 => jok_l w277.fh w277.nt (lv_f w277.fh ((rL (rL rN)).mono sm r242))) (fun x248 v250 o251 ac258 _ _ s252 r253 hE254 hb255 z256 ew257 => ?_) (fun _ _ o274 s275 hE276 => ?_)
        · have hE254 : Wst ⟨[], TL⟩ _ _ [(rScr K).at p_script, rN.at x2, (rL rN).at x63, rN.at x93, (rL rN).at x131, (rL (rT2 rN rN)).at x157, (rWb C_Web).at x183, sRef c185, (rL rN).at x131, (rO (rL rN)).at x228.1, sAny, sAny, sAny, sAny, sAny, sAny, sAny, sAny] [(c246, cL (rL rN) ac258), (c185, cDT rB x228.2)] _ _ _ := hE254
          refine w_nameW (ss' := [(rScr K).at p_script, rN.at x2, (rL rN).at x63, rN.at x93, (rL rN).at x131, (rL (rT2 rN rN)).at x157, (rWb C_Web).at x183, sRef c185, (rL rN).at x131, (rO (rL rN)).at x228.1, sAny, sAny, sAny, sAny, sAny, sAny, sAny, (rL rN).at x248]) hE254 rfl r253 (by decide) ew257 fun _ ew260 hE259 => ?_
          refine ⟨ew260, ?_⟩
          refine x_test ?_
          refine x_op ?_
          refine w_var hE259 (i := 17) rfl fun v261 r262 => ?_
          refine m_lst ?_
          refine x_nil ?_
          refine w_lstF hE259 (R := rN) (l := ([] : List Nat)) (by show 0 ≤ 100000; decide) .nil fun v263 _ _ s264 hE266 r265 => ?_
          refine w_neD (dtL dtN) (a := x248) (b := ([] : List Nat)) (dv_l dtN hE266.fh (lv_f hE266.fh ((rL rN).mono s264 r262))) (dv_l dtN hE266.fh (lv_f hE266.fh r265)) ?_
          refine x_bl ?_
          refine x_itb (fun hc267 => ?_) (fun hc267 => ?_)
          · have hb255 := ite_t hb255 hc267
            refine w_var hE266 (i := 17) rfl fun v268 r269 => ?_
            have hb255 := Option.some.inj hb255
            subst hb255
            exact w_acc (s := ()) hE266 (s252.trans s264) r269 z256 ew260 rfl
          · have hb255 := ite_f hb255 hc267
            have hb255 := Option.some.inj hb255
            subst hb255
            exact w_skip (s := ()) hE266 (s252.trans s264) ew260 rfl
        have hE278 : Wst ⟨[], TL⟩ _ _ [(rScr K).at p_script, rN.at x2, (rL rN).at x63, rN.at x93, (rL rN).at x131, (rL (rT2 rN rN)).at x157, (rWb C_Web).at x183, sRef c185, (rL rN).at x131, (rO (rL rN)).at x228.1, sAny, sAny, sAny, sAny, sAny, sAny, sAny, sAny] [(c246, cL (rL rN) x270), (c185, cDT rB x228.2)] _ _ _ := hE276
        obtain ⟨F279, s280, hE282, r281⟩ := hE278.freeze (k := 0) rfl o274
        have hE283 : Wst ⟨[], TL⟩ _ _ [(rScr K).at p_script, rN.at x2, (rL rN).at x63, rN.at x93, (rL rN).at x131, (rL (rT2 rN rN)).at x157, (rWb C_Web).at x183, sRef c185, (rL rN).at x131, (rO (rL rN)).at x228.1, sAny, sAny, sAny, sAny, sAny, sAny, sAny, sAny] [(c185, cDT rB x228.2)] _ _ _ := hE282
        refine w_name (R := (rL (rL rN))) (ss' := [(rScr K).at p_script, rN.at x2, (rL rN).at x63, rN.at x93, (rL rN).at x131, (rL (rT2 rN rN)).at x157, (rWb C_Web).at x183, sRef c185, (rL rN).at x131, (rO (rL rN)).at x228.1, (rL (rL rN)).at x270, sAny, sAny, sAny, sAny, sAny, sAny, sAny]) hE283 rfl r281 fun _ hE284 => ?_
        refine x_seq ?_
        refine x_asg ?_
        refine x_call ?_
        refine x_cons ?_
        refine w_var hE284 (i := 6) rfl fun v285 r286 => ?_
        refine x_cons ?_
        refine w_var hE284 (i := 8) rfl fun v287 r288 => ?_
        refine x_nil ?_
        obtain ⟨x289, hx289, hb8⟩ := bnd hb8
        refine ⟨_, v285, x183, v287, x131, x289, rfl, hE284.fh, hE284.nt, (hE284.tb tb0), r286, r288, hx289, fun l292 e297 c293 _ _ e290 o294 p295 q296 => ?_, fun e297 _ _ e290 => ?_⟩
        · have hb8 := optE_s hb8 e297
          have hE298 : Wst ⟨[], TL⟩ _ _ [(rScr K).at p_script, rN.at x2, (rL rN).at x63, rN.at x93, (rL rN).at x131, (rL (rT2 rN rN)).at x157, (rWb C_Web).at x183, sRef c185, (rL rN).at x131, (rO (rL rN)).at x228.1, (rL (rL rN)).at x270, sAny, sAny, sAny, sAny, sAny, sAny, sAny] [(c185, cDT rB x228.2)] _ _ _ := hE284.grow e290
          have o299 := hE284.own o294
          have hE300 : Wst ⟨[], TL⟩ _ _ [(rScr K).at p_script, rN.at x2, (rL rN).at x63, rN.at x93, (rL rN).at x131, (rL (rT2 rN rN)).at x157, (rWb C_Web).at x183, sRef c185, (rL rN).at x131, (rO (rL rN)).at x228.1, (rL (rL rN)).at x270, sAny, sAny, sAny, sAny, sAny, sAny, sAny] [(c293, cL rN l292), (c185, cDT rB x228.2)] _ _ _ := hE298.addC (A := cL rN l292) o299 p295 q296 (hE284.fresh_ne o294)
          refine w_nameC (ss' := [(rScr K).at p_script, rN.at x2, (rL rN).at x63, rN.at x93, (rL rN).at x131, (rL (rT2 rN rN)).at x157, (rWb C_Web).at x183, sRef c185, (rL rN).at x131, (rO (rL rN)).at x228.1, (rL (rL rN)).at x270, sRef c293, sAny, sAny, sAny, sAny, sAny, sAny]) hE300 rfl fun _ hE301 => ?_
          refine x_seq ?_
          refine x_ifs ?_
          obtain ⟨b340, h341, hb8⟩ := bnd hb8
          refine w_orO (cs := [(c293, cL rN l292), (c185, cDT rB x228.2)]) hE301 (ca := (!eqD (some l292) x228.1)) h341 (fun _ q0 => ?_) (fun _ _ s306 hE305 _ hkk304 _ q0 => ?_) (fun _ _ s338 hE339 => ?_)
          · refine x_test ?_
            refine x_op ?_
            refine w_ref hE301 (i := 11) rfl ?_
            refine w_var hE301 (i := 9) rfl fun v302 r303 => ?_
            refine w_neD (dtOL dtN) (a := (some l292)) (b := x228.1) (dv_oS (dv_l dtN hE301.fh (lv_c hE301 (k := 0) rfl))) (dv_r (dtOL dtN) hE301.fh r303) ?_
            refine x_bl ?_
            exact q0 _ _ (Same.refl _) hE301
          · obtain ⟨b327, h328, hkk304⟩ := bnd hkk304
            refine w_orP (cs := [(c293, cL rN l292), (c185, cDT rB x228.2)]) hE305 (ca := b327) (cb := (!eqD x131 x131)) (fun _ q0 => ?_) (fun _ _ s331 hE330 _ _ q0 => ?_) (fun _ _ s336 hE337 => ?_)
            · refine w_andO (cs := [(c293, cL rN l292), (c185, cDT rB x228.2)]) hE305 (ca := true) h328 (fun _ q0 => ?_) (fun _ _ s309 hE308 _ hkk307 _ q0 => ?_) (fun _ _ s325 hE326 => ?_)
              · refine x_test ?_
                refine x_op ?_
                refine w_ref hE305 (i := 11) rfl ?_
                refine x_c ?_
                refine w_isnotNx (fun z => by cases z) ?_
                refine x_bl ?_
                exact q0 _ _ (Same.refl _) hE305
              · refine x_not ?_
                refine x_B ?_
                refine x_call ?_
                refine x_cons ?_
                refine w_ref hE308 (i := 11) rfl ?_
                refine x_nil ?_
                obtain ⟨F310, s311, f312, r313, n314, k315⟩ := hE308.borrow (k := 0) rfl
                obtain ⟨x316, hx316, hkk307⟩ := bnd hkk307
                refine ⟨_, (V.ref c293), l292, x316, rfl, f312.1, f312.2, r313, hx316, fun v319 _ _ e317 r318 => ?_⟩
                obtain ⟨F320, x321, s322, n323⟩ := k315 _ _ _ e317
                have hE324 : Wst ⟨[], TL⟩ _ _ [(rScr K).at p_script, rN.at x2, (rL rN).at x63, rN.at x93, (rL rN).at x131, (rL (rT2 rN rN)).at x157, (rWb C_Web).at x183, sRef c185, (rL rN).at x131, (rO (rL rN)).at x228.1, (rL (rL rN)).at x270, sRef c293, sAny, sAny, sAny, sAny, sAny, sAny] [(c293, cL rN l292), (c185, cDT rB x228.2)] _ _ _ := hE308.grow x321
                obtain rfl := (show v319 = (V.bl x316) from r318)
                refine x_bl ?_
                have hkk307 := Option.some.inj hkk307
                subst hkk307
                exact q0 _ _ ((Same.refl _).trans x321.ff) hE324
              exact q0 _ _ ((Same.refl _).trans s325) hE326
            · refine x_test ?_
              refine x_op ?_
              refine w_var hE330 (i := 8) rfl fun v332 r333 => ?_
              refine w_var hE330 (i := 4) rfl fun v334 r335 => ?_
              refine w_neD (dtL dtN) (a := x131) (b := x131) (dv_l dtN hE330.fh (lv_f hE330.fh r333)) (dv_l dtN hE330.fh (lv_f hE330.fh r335)) ?_
              refine x_bl ?_
              exact q0 _ _ (Same.refl _) hE330
            have hkk304 := Option.some.inj hkk304
            subst hkk304
            exact q0 _ _ ((Same.refl _).trans s336) hE337
          refine x_itb (fun hc342 => ?_) (fun hc342 => ?_)
          · have hb8 := ite_t hb8 hc342
            refine x_ret ?_
            refine x_c ?_
            have hb8 := Option.some.inj hb8
            subst hb8
            cases (hrx13 _ rfl)
            have hf := Option.some.inj hf
            subst hf
            exact q _ _ _ hE339.ex rfl
          · have hb8 := ite_f hb8 hc342
            refine x_next ?_
            obtain ⟨x346, hx346, hb8⟩ := bnd hb8
            refine w_cut 0 (fun (s343 : (List Nat)) (ad344 : Nat → Addr) => [(rScr K).at p_script, rN.at x2, (rL rN).at x63, rN.at x93, (rL rN).at x131, (rL (rT2 rN rN)).at x157, (rWb C_Web).at x183, sRef c185, (rL rN).at x131, (rO (rL rN)).at x228.1, (rL (rL rN)).at x270, sRef c293, sAny, sAny, sAny, sAny, sAny, sAny]) (fun (s343 : (List Nat)) (ad344 : Nat → Addr) => [(c293, cL rN s343), (c185, cDT rB x228.2)]) x346 hE339 ?_ (fun ad344 _ _ _ ha345 s348 hE349 => ?_)
            · refine x_ifs ?_
              refine x_test ?_
              refine x_op ?_
              refine w_ref hE339 (i := 11) rfl ?_
              refine x_c ?_
              refine w_isnotNx (fun z => by cases z) ?_
              refine x_bl ?_
              refine x_T ?_
              refine x_drop ?_
              refine x_bm0 ?_
              refine w_ref hE339 (i := 11) rfl ?_
              refine w_tyC hE339 (k := 0) rfl ?_
              refine w_clear hE339 (k := 0) rfl (cs' := [(c293, cL rN ([] : List Nat)), (c185, cDT rB x228.2)]) rfl fun _ hE347 => ?_
              have hx346 := Option.some.inj hx346
              subst hx346
              exact ⟨adZ, _, no_ad, (Same.refl _), hE347⟩
            have hE350 : Wst ⟨[], TL⟩ _ _ [(rScr K).at p_script, rN.at x2, (rL rN).at x63, rN.at x93, (rL rN).at x131, (rL (rT2 rN rN)).at x157, (rWb C_Web).at x183, sRef c185, (rL rN).at x131, (rO (rL rN)).at x228.1, (rL (rL rN)).at x270, sRef c293, sAny, sAny, sAny, sAny, sAny, sAny] [(c293, cL rN x346), (c185, cDT rB x228.2)] _ _ _ := hE349
            refine x_seq ?_
            refine x_for ?_
            refine x_il ?_
            refine x_op ?_
            refine x_sl ?_
            refine w_var hE350 (i := 2) rfl fun v351 r352 => ?_
            refine x_part ?_
            refine w_cN 13 ?_
            refine ⟨_, rfl, ?_⟩
            refine x_noPart ?_
            refine w_slDF hE350 (lv_f hE350.fh r352) fun v353 _ _ s354 hE356 r355 => ?_
            refine x_sl ?_
            refine w_var hE356 (i := 2) rfl fun v357 r358 => ?_
            refine x_part ?_
            refine w_cN 13 ?_
            refine ⟨_, rfl, ?_⟩
            refine x_part ?_
            refine w_cN 14 ?_
            refine ⟨_, rfl, ?_⟩
            refine w_slF hE356 (lv_f hE356.fh r358) fun v359 _ _ s360 hE362 r361 => ?_
            obtain ⟨_, u363, hb8⟩ := bnd hb8
            have u363 := gd_ok u363
            refine w_catF hE362 (lv_f hE362.fh ((rL rN).mono s360 r355)) (lv_f hE362.fh r361) u363 fun v364 _ _ s365 hE367 r366 => ?_
            refine w_il (lv_f hE367.fh r366) fun a368 ea => ?_
            cases ea
            have hE379 : Wst ⟨[], TL⟩ _ _ [(rScr K).at p_script, rN.at x2, (rL rN).at x63, rN.at x93, (rL rN).at x131, (rL (rT2 rN rN)).at x157, (rWb C_Web).at x183, sRef c185, (rL rN).at x131, (rO (rL rN)).at x228.1, (rL (rL rN)).at x270, sRef c293, sAny, sAny, sAny, sAny, sAny, sAny] [(c293, cL rN x346), (c185, cDT rB x228.2)] _ _ _ := hE367
            obtain ⟨x381, hx381, hb8⟩ := bnd hb8
            refine w_forS 0 (fun (s369 : (List ((List Nat) × Bool))) (ad377 : Nat → Addr) => [(rScr K).at p_script, rN.at x2, (rL rN).at x63, rN.at x93, (rL rN).at x131, (rL (rT2 rN rN)).at x157, (rWb C_Web).at x183, sRef c185, (rL rN).at x131, (rO (rL rN)).at x228.1, (rL (rL rN)).at x270, sRef c293, sAny, sAny, sAny, sAny, sAny, sAny]) (fun (s369 : (List ((List Nat) × Bool))) (ad377 : Nat → Addr) => [(c293, cL rN x346), (c185, cDT rB s369)]) hx381 adZ no_ad hE379 (fun _ ad377 _ _ _ sm w555 => jok_l w555.fh w555.nt (lv_f w555.fh ((rL rN).mono sm r366))) (fun s369 ad377 x370 v371 o372 _ _ _ ha378 s373 r374 hE375 hb376 hrx381 hkx381 => ?_) (fun x381s ad377 _ _ _ eex381 ha378 s556 hE557 => ?_)
            · have hE380 : Wst ⟨[], TL⟩ _ _ [(rScr K).at p_script, rN.at x2, (rL rN).at x63, rN.at x93, (rL rN).at x131, (rL (rT2 rN rN)).at x157, (rWb C_Web).at x183, sRef c185, (rL rN).at x131, (rO (rL rN)).at x228.1, (rL (rL rN)).at x270, sRef c293, sAny, sAny, sAny, sAny, sAny, sAny] [(c293, cL rN x346), (c185, cDT rB s369)] _ _ _ := hE375
              obtain rfl := (show v371 = (V.int ((x370 : Nat) : Int)) from r374)
              refine w_name (R := rN) (ss' := [(rScr K).at p_script, rN.at x2, (rL rN).at x63, rN.at x93, (rL rN).at x131, (rL (rT2 rN rN)).at x157, (rWb C_Web).at x183, sRef c185, (rL rN).at x131, (rO (rL rN)).at x228.1, (rL (rL rN)).at x270, sRef c293, rN.at x370, sAny, sAny, sAny, sAny, sAny]) hE380 rfl rfl fun _ hE382 => ?_
              refine x_seq ?_
              refine x_ifs ?_
              refine x_test ?_
              refine x_op ?_
              refine w_vN hE382 (i := 3) rfl ?_
              refine w_cN 0 ?_
              refine w_eqN ?_
              refine x_bl ?_
              refine x_itb (fun hc383 => ?_) (fun hc383 => ?_)
              · have hb376 := ite_t hb376 hc383
                refine x_break ?_
                have hb376 := Option.some.inj hb376
                subst hb376
                cases (hkx381 _ rfl)
                have hE384 : Wst ⟨[], TL⟩ _ _ [(rScr K).at p_script, rN.at x2, (rL rN).at x63, rN.at x93, (rL rN).at x131, (rL (rT2 rN rN)).at x157, (rWb C_Web).at x183, sRef c185, (rL rN).at x131, (rO (rL rN)).at x228.1, (rL (rL rN)).at x270, sRef c293, sAny, sAny, sAny, sAny, sAny, sAny] [(c293, cL rN x346), (c185, cDT rB s369)] _ _ _ := (hE382.toAny 12)
                refine x_ifs ?_
                refine x_test ?_
                refine x_op ?_
                refine x_call ?_
                refine x_cons ?_
                refine w_var hE384 (i := 6) rfl fun v385 r386 => ?_
                refine x_cons ?_
                refine w_var hE384 (i := 8) rfl fun v387 r388 => ?_
                refine x_nil ?_
                obtain ⟨x389, hx389, hb8⟩ := bnd hb8
                refine ⟨_, v385, x183, v387, x131, x389, rfl, hE384.fh, hE384.nt, (hE384.tb tb0), r386, r388, hx389, optC_go fun v392 _ _ e390 r391 => ?_⟩
                have hE393 : Wst ⟨[], TL⟩ _ _ [(rScr K).at p_script, rN.at x2, (rL rN).at x63, rN.at x93, (rL rN).at x131, (rL (rT2 rN rN)).at x157, (rWb C_Web).at x183, sRef c185, (rL rN).at x131, (rO (rL rN)).at x228.1, (rL (rL rN)).at x270, sRef c293, sAny, sAny, sAny, sAny, sAny, sAny] [(c293, cL rN x346), (c185, cDT rB s369)] _ _ _ := hE384.grow e390
                refine w_var hE393 (i := 9) rfl fun v394 r395 => ?_
                refine w_neD (dtOL dtN) (a := x389) (b := x228.1) (dv_r (dtOL dtN) hE393.fh r391) (dv_r (dtOL dtN) hE393.fh r395) ?_
                refine x_bl ?_
                refine x_itb (fun hc396 => ?_) (fun hc396 => ?_)
                · have hb8 := ite_t hb8 hc396
                  refine x_ret ?_
                  refine x_c ?_
                  have hb8 := Option.some.inj hb8
                  subst hb8
                  cases (hrx13 _ rfl)
                  have hf := Option.some.inj hf
                  subst hf
                  exact q _ _ _ hE393.ex rfl
                · have hb8 := ite_f hb8 hc396
                  refine x_next ?_
                  have hb8 := Option.some.inj hb8
                  subst hb8
                  exact ⟨_, rfl, ⟨adZ, _, no_ad, (((((((((((((((((((((((((((((((((((((s5.trans s18).trans s22).trans s27).trans s32).trans s36).trans s41).trans s46).trans s50).trans s55).trans s60).trans e64.ff).trans s74).trans s85).trans s136).trans s141).trans s154).trans e158.ff).trans s168).trans s176).trans s180).trans s193).trans e202.ff).trans s207).trans e215.ff).trans e229.ff).trans s237).trans e241.ff).trans s275).trans s280).trans e290.ff).trans s338).trans s348).trans s354).trans s360).trans s365).trans s373).trans e390.ff), (((((((((((((hE393.dropC 0).dropC 0).toAny 1).toAny 2).toAny 3).toAny 4).toAny 5).toAny 6).toAny 7).toAny 8).toAny 9).toAny 10).toAny 11)⟩⟩
              · have hb376 := ite_f hb376 hc383
                refine x_next ?_
                refine x_seq ?_
                refine x_asg ?_
                refine x_op ?_
                refine w_var hE382 (i := 10) rfl fun v397 r398 => ?_
                refine x_op ?_
                refine w_vN hE382 (i := 12) rfl ?_
                refine x_cb ?_
                refine x_cons ?_
                refine w_var hE382 (i := 10) rfl fun v399 r400 => ?_
                refine x_nil ?_
                refine w_len (lv_f hE382.fh r400) ?_
                obtain ⟨_, u401, hb376⟩ := bnd hb376
                have u401 := gd_ok u401
                refine w_modN u401 ?_
                obtain ⟨x402, hx402, hb376⟩ := bnd hb376
                refine w_ix (lv_f hE382.fh r398) hx402 fun v403 r404 => ?_
                refine w_name (R := (rL rN)) (ss' := [(rScr K).at p_script, rN.at x2, (rL rN).at x63, rN.at x93, (rL rN).at x131, (rL (rT2 rN rN)).at x157, (rWb C_Web).at x183, sRef c185, (rL rN).at x131, (rO (rL rN)).at x228.1, (rL (rL rN)).at x270, sRef c293, rN.at x370, (rL rN).at x402, sAny, sAny, sAny, sAny]) hE382 rfl r404 fun _ hE405 => ?_
                refine x_seq ?_
                refine x_asg ?_
                refine x_cb ?_
                refine x_cons ?_
                refine w_var hE405 (i := 13) rfl fun v406 r407 => ?_
                refine x_nil ?_
                refine w_listF hE405 (lv_f hE405.fh r407) fun v408 _ _ s409 hE411 r410 => ?_
                refine w_name (R := (rL rN)) (ss' := [(rScr K).at p_script, rN.at x2, (rL rN).at x63, rN.at x93, (rL rN).at x131, (rL (rT2 rN rN)).at x157, (rWb C_Web).at x183, sRef c185, (rL rN).at x131, (rO (rL rN)).at x228.1, (rL (rL rN)).at x270, sRef c293, rN.at x370, (rL rN).at x402, (rL rN).at x402, sAny, sAny, sAny]) hE411 rfl r410 fun _ hE412 => ?_
                refine x_seq ?_
                refine x_asg ?_
                refine x_call ?_
                refine x_cons ?_
                refine w_var hE412 (i := 6) rfl fun v413 r414 => ?_
                refine x_cons ?_
                refine w_var hE412 (i := 8) rfl fun v415 r416 => ?_
                refine x_cons ?_
                refine w_var hE412 (i := 14) rfl fun v417 r418 => ?_
                refine x_nil ?_
                obtain ⟨x419, hx419, hb376⟩ := bnd hb376
                refine ⟨_, v413, x183, v415, x131, v417, x402, x419, rfl, hE412.fh, hE412.nt, (hE412.tb tb0), r414, r416, r418, hx419, fun l422 e427 c423 _ _ e420 o424 p425 q426 => ?_, fun e427 _ _ e420 => ?_⟩
                · have hb376 := optE_s hb376 e427
                  have hE428 : Wst ⟨[], TL⟩ _ _ [(rScr K).at p_script, rN.at x2, (rL rN).at x63, rN.at x93, (rL rN).at x131, (rL (rT2 rN rN)).at x157, (rWb C_Web).at x183, sRef c185, (rL rN).at x131, (rO (rL rN)).at x228.1, (rL (rL rN)).at x270, sRef c293, rN.at x370, (rL rN).at x402, (rL rN).at x402, sAny, sAny, sAny] [(c293, cL rN x346), (c185, cDT rB s369)] _ _ _ := hE412.grow e420
                  have o429 := hE412.own o424
                  have hE430 : Wst ⟨[], TL⟩ _ _ [(rScr K).at p_script, rN.at x2, (rL rN).at x63, rN.at x93, (rL rN).at x131, (rL (rT2 rN rN)).at x157, (rWb C_Web).at x183, sRef c185, (rL rN).at x131, (rO (rL rN)).at x228.1, (rL (rL rN)).at x270, sRef c293, rN.at x370, (rL rN).at x402, (rL rN).at x402, sAny, sAny, sAny] [(c423, cL rN l422), (c293, cL rN x346), (c185, cDT rB s369)] _ _ _ := hE428.addC (A := cL rN l422) o429 p425 q426 (hE412.fresh_ne o424)
                  refine w_nameC (ss' := [(rScr K).at p_script, rN.at x2, (rL rN).at x63, rN.at x93, (rL rN).at x131, (rL (rT2 rN rN)).at x157, (rWb C_Web).at x183, sRef c185, (rL rN).at x131, (rO (rL rN)).at x228.1, (rL (rL rN)).at x270, sRef c293, rN.at x370, (rL rN).at x402, (rL rN).at x402, sRef c423, sAny, sAny]) hE430 rfl fun _ hE431 => ?_
                  refine x_seq ?_
                  refine x_ifs ?_
                  obtain ⟨x438, hx438, hb376⟩ := bnd hb376
                  refine w_orP (cs := [(c423, cL rN l422), (c293, cL rN x346), (c185, cDT rB x438.2)]) hE431 (ca := (!eqD (some l422) x438.1)) (cb := ((!eqD x131 x131) || (!eqD x402 x402))) (fun _ q0 => ?_) (fun _ _ s446 hE445 _ _ q0 => ?_) (fun _ _ s460 hE461 => ?_)
                  · refine x_test ?_
                    refine x_op ?_
                    refine w_ref hE431 (i := 15) rfl ?_
                    refine x_call ?_
                    refine x_cons ?_
                    refine w_var hE431 (i := 5) rfl fun v432 r433 => ?_
                    refine x_cons ?_
                    refine w_var hE431 (i := 4) rfl fun v434 r435 => ?_
                    refine x_cons ?_
                    refine w_var hE431 (i := 13) rfl fun v436 r437 => ?_
                    refine x_cons ?_
                    refine w_ref hE431 (i := 7) rfl ?_
                    refine x_nil ?_
                    refine ⟨_, v432, x157, v434, x131, v436, x402, c185, s369, x438, rfl, hE431.fh, hE431.nt, hE431.apart (k := 2) rfl, hE431.cell (k := 2) rfl, r433, r435, r437, hx438, fun v441 _ _ e439 w442 r440 => ?_⟩
                    have hE443 : Wst ⟨[], TL⟩ _ _ [(rScr K).at p_script, rN.at x2, (rL rN).at x63, rN.at x93, (rL rN).at x131, (rL (rT2 rN rN)).at x157, (rWb C_Web).at x183, sRef c185, (rL rN).at x131, (rO (rL rN)).at x228.1, (rL (rL rN)).at x270, sRef c293, rN.at x370, (rL rN).at x402, (rL rN).at x402, sRef c423, sAny, sAny] [(c423, cL rN l422), (c293, cL rN x346), (c185, cDT rB x438.2)] _ _ _ := hE431.call1 (k := 2) (A' := cDT rB x438.2) rfl e439 w442
                    refine w_neD (dtOL dtN) (a := (some l422)) (b := x438.1) (dv_oS (dv_l dtN hE443.fh (lv_c hE443 (k := 0) rfl))) (dv_r (dtOL dtN) hE443.fh r440) ?_
                    refine x_bl ?_
                    exact q0 _ _ ((Same.refl _).trans e439.ff) hE443
                  · refine w_orP (cs := [(c423, cL rN l422), (c293, cL rN x346), (c185, cDT rB x438.2)]) hE445 (ca := (!eqD x131 x131)) (cb := (!eqD x402 x402)) (fun _ q0 => ?_) (fun _ _ s453 hE452 _ _ q0 => ?_) (fun _ _ s458 hE459 => ?_)
                    · refine x_test ?_
                      refine x_op ?_
                      refine w_var hE445 (i := 8) rfl fun v447 r448 => ?_
                      refine w_var hE445 (i := 4) rfl fun v449 r450 => ?_
                      refine w_neD (dtL dtN) (a := x131) (b := x131) (dv_l dtN hE445.fh (lv_f hE445.fh r448)) (dv_l dtN hE445.fh (lv_f hE445.fh r450)) ?_
                      refine x_bl ?_
                      exact q0 _ _ (Same.refl _) hE445
                    · refine x_test ?_
                      refine x_op ?_
                      refine w_var hE452 (i := 14) rfl fun v454 r455 => ?_
                      refine w_var hE452 (i := 13) rfl fun v456 r457 => ?_
                      refine w_neD (dtL dtN) (a := x402) (b := x402) (dv_l dtN hE452.fh (lv_f hE452.fh r455)) (dv_l dtN hE452.fh (lv_f hE452.fh r457)) ?_
                      refine x_bl ?_
                      exact q0 _ _ (Same.refl _) hE452
                    exact q0 _ _ ((Same.refl _).trans s458) hE459
                  refine x_itb (fun hc462 => ?_) (fun hc462 => ?_)
                  · have hb376 := ite_t hb376 hc462
                    refine x_ret ?_
                    refine x_c ?_
                    have hb376 := Option.some.inj hb376
                    subst hb376
                    cases (hrx381 _ rfl)
                    have hb8 := Option.some.inj hb8
                    subst hb8
                    cases (hrx13 _ rfl)
                    have hf := Option.some.inj hf
                    subst hf
                    exact q _ _ _ hE461.ex rfl
                  · have hb376 := ite_f hb376 hc462
                    refine x_next ?_
                    refine x_seq ?_
                    refine x_ifs ?_
                    obtain ⟨b483, h484, hb376⟩ := bnd hb376
                    refine w_andO (cs := [(c423, cL rN l422), (c293, cL rN x346), (c185, cDT rB x438.2)]) hE461 (ca := true) h484 (fun _ q0 => ?_) (fun _ _ s465 hE464 _ hkk463 _ q0 => ?_) (fun _ _ s481 hE482 => ?_)
                    · refine x_test ?_
                      refine x_op ?_
                      refine w_ref hE461 (i := 15) rfl ?_
                      refine x_c ?_
                      refine w_isnotNx (fun z => by cases z) ?_
                      refine x_bl ?_
                      exact q0 _ _ (Same.refl _) hE461
                    · refine x_not ?_
                      refine x_B ?_
                      refine x_call ?_
                      refine x_cons ?_
                      refine w_ref hE464 (i := 15) rfl ?_
                      refine x_nil ?_
                      obtain ⟨F466, s467, f468, r469, n470, k471⟩ := hE464.borrow (k := 0) rfl
                      obtain ⟨x472, hx472, hkk463⟩ := bnd hkk463
                      refine ⟨_, (V.ref c423), l422, x472, rfl, f468.1, f468.2, r469, hx472, fun v475 _ _ e473 r474 => ?_⟩
                      obtain ⟨F476, x477, s478, n479⟩ := k471 _ _ _ e473
                      have hE480 : Wst ⟨[], TL⟩ _ _ [(rScr K).at p_script, rN.at x2, (rL rN).at x63, rN.at x93, (rL rN).at x131, (rL (rT2 rN rN)).at x157, (rWb C_Web).at x183, sRef c185, (rL rN).at x131, (rO (rL rN)).at x228.1, (rL (rL rN)).at x270, sRef c293, rN.at x370, (rL rN).at x402, (rL rN).at x402, sRef c423, sAny, sAny] [(c423, cL rN l422), (c293, cL rN x346), (c185, cDT rB x438.2)] _ _ _ := hE464.grow x477
                      obtain rfl := (show v475 = (V.bl x472) from r474)
                      refine x_bl ?_
                      have hkk463 := Option.some.inj hkk463
                      subst hkk463
                      exact q0 _ _ ((Same.refl _).trans x477.ff) hE480
                    refine x_itb (fun hc485 => ?_) (fun hc485 => ?_)
                    · have hb376 := ite_t hb376 hc485
                      refine x_ret ?_
                      refine x_c ?_
                      have hb376 := Option.some.inj hb376
                      subst hb376
                      cases (hrx381 _ rfl)
                      have hb8 := Option.some.inj hb8
                      subst hb8
                      cases (hrx13 _ rfl)
                      have hf := Option.some.inj hf
                      subst hf
                      exact q _ _ _ hE482.ex rfl
                    · have hb376 := ite_f hb376 hc485
                      refine x_next ?_
                      obtain ⟨x489, hx489, hb376⟩ := bnd hb376
                      refine w_cut 0 (fun (s486 : (List Nat)) (ad487 : Nat → Addr) => [(rScr K).at p_script, rN.at x2, (rL rN).at x63, rN.at x93, (rL rN).at x131, (rL (rT2 rN rN)).at x157, (rWb C_Web).at x183, sRef c185, (rL rN).at x131, (rO (rL rN)).at x228.1, (rL (rL rN)).at x270, sRef c293, rN.at x370, (rL rN).at x402, (rL rN).at x402, sRef c423, sAny, sAny]) (fun (s486 : (List Nat)) (ad487 : Nat → Addr) => [(c423, cL rN s486), (c293, cL rN x346), (c185, cDT rB x438.2)]) x489 hE482 ?_ (fun ad487 _ _ _ ha488 s492 hE493 => ?_)
                      · refine x_ifs ?_
                        refine x_test ?_
                        refine x_op ?_
                        refine w_ref hE482 (i := 15) rfl ?_
                        refine x_c ?_
                        refine w_isnotNx (fun z => by cases z) ?_
                        refine x_bl ?_
                        refine x_T ?_
                        refine x_drop ?_
                        refine x_bm ?_
                        refine w_ref hE482 (i := 15) rfl ?_
                        refine w_tyC hE482 (k := 0) rfl ?_
                        refine x_cons ?_
                        refine w_vN hE482 (i := 3) rfl ?_
                        refine x_nil ?_
                        obtain ⟨_, u490, hx489⟩ := bnd hx489
                        have u490 := gd_ok u490
                        refine w_app hE482 (k := 0) (a := x93) rfl u490 rfl (cs' := [(c423, cL rN (l422 ++ [x93])), (c293, cL rN x346), (c185, cDT rB x438.2)]) rfl fun _ hE491 => ?_
                        have hx489 := Option.some.inj hx489
                        subst hx489
                        exact ⟨adZ, _, no_ad, (Same.refl _), hE491⟩
                      have hE494 : Wst ⟨[], TL⟩ _ _ [(rScr K).at p_script, rN.at x2, (rL rN).at x63, rN.at x93, (rL rN).at x131, (rL (rT2 rN rN)).at x157, (rWb C_Web).at x183, sRef c185, (rL rN).at x131, (rO (rL rN)).at x228.1, (rL (rL rN)).at x270, sRef c293, rN.at x370, (rL rN).at x402, (rL rN).at x402, sRef c423, sAny, sAny] [(c423, cL rN x489), (c293, cL rN x346), (c185, cDT rB x438.2)] _ _ _ := hE493
                      refine x_ifs ?_
                      refine x_test ?_
                      refine x_op ?_
                      refine w_var hE494 (i := 14) rfl fun v495 r496 => ?_
                      refine w_var hE494 (i := 13) rfl fun v497 r498 => ?_
                      refine w_neD (dtL dtN) (a := x402) (b := x402) (dv_l dtN hE494.fh (lv_f hE494.fh r496)) (dv_l dtN hE494.fh (lv_f hE494.fh r498)) ?_
                      refine x_bl ?_
                      refine x_itb (fun hc499 => ?_) (fun hc499 => ?_)
                      · have hb376 := ite_t hb376 hc499
                        refine x_ret ?_
                        refine x_c ?_
                        have hb376 := Option.some.inj hb376
                        subst hb376
                        cases (hrx381 _ rfl)
                        have hb8 := Option.some.inj hb8
                        subst hb8
                        cases (hrx13 _ rfl)
                        have hf := Option.some.inj hf
                        subst hf
                        exact q _ _ _ hE494.ex rfl
                      · have hb376 := ite_f hb376 hc499
                        refine x_next ?_
                        have hb376 := Option.some.inj hb376
                        subst hb376
                        exact ⟨_, rfl, ⟨adZ, _, no_ad, (((((s373.trans s409).trans e420.ff).trans s460).trans s481).trans s492), (((((hE494.dropC 0).toAny 12).toAny 13).toAny 14).toAny 15)⟩⟩
                · have hb376 := optE_n hb376 e427
                  have hE500 : Wst ⟨[], TL⟩ _ _ [(rScr K).at p_script, rN.at x2, (rL rN).at x63, rN.at x93, (rL rN).at x131, (rL (rT2 rN rN)).at x157, (rWb C_Web).at x183, sRef c185, (rL rN).at x131, (rO (rL rN)).at x228.1, (rL (rL rN)).at x270, sRef c293, rN.at x370, (rL rN).at x402, (rL rN).at x402, sAny, sAny, sAny] [(c293, cL rN x346), (c185, cDT rB s369)] _ _ _ := hE412.grow e420
                  refine w_name (R := rNo) (ss' := [(rScr K).at p_script, rN.at x2, (rL rN).at x63, rN.at x93, (rL rN).at x131, (rL (rT2 rN rN)).at x157, (rWb C_Web).at x183, sRef c185, (rL rN).at x131, (rO (rL rN)).at x228.1, (rL (rL rN)).at x270, sRef c293, rN.at x370, (rL rN).at x402, (rL rN).at x402, rNo.at (), sAny, sAny]) hE500 rfl rfl fun _ hE501 => ?_
                  refine x_seq ?_
                  refine x_ifs ?_
                  obtain ⟨x510, hx510, hb376⟩ := bnd hb376
                  refine w_orP (cs := [(c293, cL rN x346), (c185, cDT rB x510.2)]) hE501 (ca := (!eqD (none : Option (List Nat)) x510.1)) (cb := ((!eqD x131 x131) || (!eqD x402 x402))) (fun _ q0 => ?_) (fun _ _ s518 hE517 _ _ q0 => ?_) (fun _ _ s532 hE533 => ?_)
                  · refine x_test ?_
                    refine x_op ?_
                    refine w_var hE501 (i := 15) rfl fun v502 r503 => ?_
                    obtain rfl := (show v502 = V.non from r503)
                    refine x_call ?_
                    refine x_cons ?_
                    refine w_var hE501 (i := 5) rfl fun v504 r505 => ?_
                    refine x_cons ?_
                    refine w_var hE501 (i := 4) rfl fun v506 r507 => ?_
                    refine x_cons ?_
                    refine w_var hE501 (i := 13) rfl fun v508 r509 => ?_
                    refine x_cons ?_
                    refine w_ref hE501 (i := 7) rfl ?_
                    refine x_nil ?_
                    refine ⟨_, v504, x157, v506, x131, v508, x402, c185, s369, x510, rfl, hE501.fh, hE501.nt, hE501.apart (k := 1) rfl, hE501.cell (k := 1) rfl, r505, r507, r509, hx510, fun v513 _ _ e511 w514 r512 => ?_⟩
                    have hE515 : Wst ⟨[], TL⟩ _ _ [(rScr K).at p_script, rN.at x2, (rL rN).at x63, rN.at x93, (rL rN).at x131, (rL (rT2 rN rN)).at x157, (rWb C_Web).at x183, sRef c185, (rL rN).at x131, (rO (rL rN)).at x228.1, (rL (rL rN)).at x270, sRef c293, rN.at x370, (rL rN).at x402, (rL rN).at x402, rNo.at (), sAny, sAny] [(c293, cL rN x346), (c185, cDT rB x510.2)] _ _ _ := hE501.call1 (k := 1) (A' := cDT rB x510.2) rfl e511 w514
                    refine w_neD (dtOL dtN) (a := (none : Option (List Nat))) (b := x510.1) (dv_oN) (dv_r (dtOL dtN) hE515.fh r512) ?_
                    refine x_bl ?_
                    exact q0 _ _ ((Same.refl _).trans e511.ff) hE515
                  · refine w_orP (cs := [(c293, cL rN x346), (c185, cDT rB x510.2)]) hE517 (ca := (!eqD x131 x131)) (cb := (!eqD x402 x402)) (fun _ q0 => ?_) (fun _ _ s525 hE524 _ _ q0 => ?_) (fun _ _ s530 hE531 => ?_)
                    · refine x_test ?_
                      refine x_op ?_
                      refine w_var hE517 (i := 8) rfl fun v519 r520 => ?_
                      refine w_var hE517 (i := 4) rfl fun v521 r522 => ?_
                      refine w_neD (dtL dtN) (a := x131) (b := x131) (dv_l dtN hE517.fh (lv_f hE517.fh r520)) (dv_l dtN hE517.fh (lv_f hE517.fh r522)) ?_
                      refine x_bl ?_
                      exact q0 _ _ (Same.refl _) hE517
                    · refine x_test ?_
                      refine x_op ?_
                      refine w_var hE524 (i := 14) rfl fun v526 r527 => ?_
                      refine w_var hE524 (i := 13) rfl fun v528 r529 => ?_
                      refine w_neD (dtL dtN) (a := x402) (b := x402) (dv_l dtN hE524.fh (lv_f hE524.fh r527)) (dv_l dtN hE524.fh (lv_f hE524.fh r529)) ?_
                      refine x_bl ?_
                      exact q0 _ _ (Same.refl _) hE524
                    exact q0 _ _ ((Same.refl _).trans s530) hE531
                  refine x_itb (fun hc534 => ?_) (fun hc534 => ?_)
                  · have hb376 := ite_t hb376 hc534
                    refine x_ret ?_
                    refine x_c ?_
                    have hb376 := Option.some.inj hb376
                    subst hb376
                    cases (hrx381 _ rfl)
                    have hb8 := Option.some.inj hb8
                    subst hb8
                    cases (hrx13 _ rfl)
                    have hf := Option.some.inj hf
                    subst hf
                    exact q _ _ _ hE533.ex rfl
                  · have hb376 := ite_f hb376 hc534
                    refine x_next ?_
                    refine x_seq ?_
                    refine x_ifs ?_
                    refine w_andP (cs := [(c293, cL rN x346), (c185, cDT rB x510.2)]) hE533 (ca := false) (cb := false) (fun _ q0 => ?_) (fun _ _ _ _ hz539 _ q0 => ?_) (fun _ _ s537 hE538 => ?_)
                    · refine x_test ?_
                      refine x_op ?_
                      refine w_var hE533 (i := 15) rfl fun v535 r536 => ?_
                      obtain rfl := (show v535 = V.non from r536)
                      refine x_c ?_
                      refine w_isnotN0 ?_
                      refine x_bl ?_
                      exact q0 _ _ (Same.refl _) hE533
                    · cases hz539
                    refine x_itb (fun hc540 => ?_) (fun hc540 => ?_)
                    · have hb376 := ite_t hb376 hc540
                      refine x_ret ?_
                      refine x_c ?_
                      have hb376 := Option.some.inj hb376
                      subst hb376
                      cases (hrx381 _ rfl)
                      have hb8 := Option.some.inj hb8
                      subst hb8
                      cases (hrx13 _ rfl)
                      have hf := Option.some.inj hf
                      subst hf
                      exact q _ _ _ hE538.ex rfl
                    · have hb376 := ite_f hb376 hc540
                      refine x_next ?_
                      obtain ⟨x544, hx544, hb376⟩ := bnd hb376
                      refine w_cut 0 (fun (s541 : Unit) (ad542 : Nat → Addr) => [(rScr K).at p_script, rN.at x2, (rL rN).at x63, rN.at x93, (rL rN).at x131, (rL (rT2 rN rN)).at x157, (rWb C_Web).at x183, sRef c185, (rL rN).at x131, (rO (rL rN)).at x228.1, (rL (rL rN)).at x270, sRef c293, rN.at x370, (rL rN).at x402, (rL rN).at x402, rNo.at (), sAny, sAny]) (fun (s541 : Unit) (ad542 : Nat → Addr) => [(c293, cL rN x346), (c185, cDT rB x510.2)]) x544 hE538 ?_ (fun ad542 _ _ _ ha543 s547 hE548 => ?_)
                      · refine x_ifs ?_
                        refine x_test ?_
                        refine x_op ?_
                        refine w_var hE538 (i := 15) rfl fun v545 r546 => ?_
                        obtain rfl := (show v545 = V.non from r546)
                        refine x_c ?_
                        refine w_isnotN0 ?_
                        refine x_bl ?_
                        refine x_F ?_
                        refine x_next ?_
                        have hx544 := Option.some.inj hx544
                        subst hx544
                        exact ⟨adZ, _, no_ad, (Same.refl _), hE538⟩
                      have hE549 : Wst ⟨[], TL⟩ _ _ [(rScr K).at p_script, rN.at x2, (rL rN).at x63, rN.at x93, (rL rN).at x131, (rL (rT2 rN rN)).at x157, (rWb C_Web).at x183, sRef c185, (rL rN).at x131, (rO (rL rN)).at x228.1, (rL (rL rN)).at x270, sRef c293, rN.at x370, (rL rN).at x402, (rL rN).at x402, rNo.at (), sAny, sAny] [(c293, cL rN x346), (c185, cDT rB x510.2)] _ _ _ := hE548
                      refine x_ifs ?_
                      refine x_test ?_
                      refine x_op ?_
                      refine w_var hE549 (i := 14) rfl fun v550 r551 => ?_
                      refine w_var hE549 (i := 13) rfl fun v552 r553 => ?_
                      refine w_neD (dtL dtN) (a := x402) (b := x402) (dv_l dtN hE549.fh (lv_f hE549.fh r551)) (dv_l dtN hE549.fh (lv_f hE549.fh r553)) ?_
                      refine x_bl ?_
                      refine x_itb (fun hc554 => ?_) (fun hc554 => ?_)
                      · have hb376 := ite_t hb376 hc554
                        refine x_ret ?_
                        refine x_c ?_
                        have hb376 := Option.some.inj hb376
                        subst hb376
                        cases (hrx381 _ rfl)
                        have hb8 := Option.some.inj hb8
                        subst hb8
                        cases (hrx13 _ rfl)
                        have hf := Option.some.inj hf
                        subst hf
                        exact q _ _ _ hE549.ex rfl
                      · have hb376 := ite_f hb376 hc554
                        refine x_next ?_
                        have hb376 := Option.some.inj hb376
                        subst hb376
                        exact ⟨_, rfl, ⟨adZ, _, no_ad, (((((s373.trans s409).trans e420.ff).trans s532).trans s537).trans s547), ((((hE549.toAny 12).toAny 13).toAny 14).toAny 15)⟩⟩
            subst eex381
            have hE570 : Wst ⟨[], TL⟩ _ _ [(rScr K).at p_script, rN.at x2, (rL rN).at x63, rN.at x93, (rL rN).at x131, (rL (rT2 rN rN)).at x157, (rWb C_Web).at x183, sRef c185, (rL rN).at x131, (rO (rL rN)).at x228.1, (rL (rL rN)).at x270, sRef c293, sAny, sAny, sAny, sAny, sAny, sAny] [(c293, cL rN x346), (c185, cDT rB x381s)] _ _ _ := hE557
            refine x_ifs ?_
            refine x_test ?_
            refine x_op ?_
            refine x_call ?_
            refine x_cons ?_
            refine w_var hE570 (i := 6) rfl fun v571 r572 => ?_
            refine x_cons ?_
            refine w_var hE570 (i := 8) rfl fun v573 r574 => ?_
            refine x_nil ?_
            obtain ⟨x575, hx575, hb8⟩ := bnd hb8
            refine ⟨_, v571, x183, v573, x131, x575, rfl, hE570.fh, hE570.nt, (hE570.tb tb0), r572, r574, hx575, optC_go fun v578 _ _ e576 r577 => ?_⟩
            have hE579 : Wst ⟨[], TL⟩ _ _ [(rScr K).at p_script, rN.at x2, (rL rN).at x63, rN.at x93, (rL rN).at x131, (rL (rT2 rN rN)).at x157, (rWb C_Web).at x183, sRef c185, (rL rN).at x131, (rO (rL rN)).at x228.1, (rL (rL rN)).at x270, sRef c293, sAny, sAny, sAny, sAny, sAny, sAny] [(c293, cL rN x346), (c185, cDT rB x381s)] _ _ _ := hE570.grow e576
            refine w_var hE579 (i := 9) rfl fun v580 r581 => ?_
            refine w_neD (dtOL dtN) (a := x575) (b := x228.1) (dv_r (dtOL dtN) hE579.fh r577) (dv_r (dtOL dtN) hE579.fh r581) ?_
            refine x_bl ?_
            refine x_itb (fun hc582 => ?_) (fun hc582 => ?_)
            · have hb8 := ite_t hb8 hc582
              refine x_ret ?_
              refine x_c ?_
              have hb8 := Option.some.inj hb8
              subst hb8
              cases (hrx13 _ rfl)
              have hf := Option.some.inj hf
              subst hf
              exact q _ _ _ hE579.ex rfl
            · have hb8 := ite_f hb8 hc582
              refine x_next ?_
              have hb8 := Option.some.inj hb8
              subst hb8
              exact ⟨_, rfl, ⟨adZ, _, no_ad, (((((((((((((((((((((((((((((((((((((s5.trans s18).trans s22).trans s27).trans s32).trans s36).trans s41).trans s46).trans s50).trans s55).trans s60).trans e64.ff).trans s74).trans s85).trans s136).trans s141).trans s154).trans e158.ff).trans s168).trans s176).trans s180).trans s193).trans e202.ff).trans s207).trans e215.ff).trans e229.ff).trans s237).trans e241.ff).trans s275).trans s280).trans e290.ff).trans s338).trans s348).trans s354).trans s360).trans s365).trans s556).trans e576.ff), (((((((((((((hE579.dropC 0).dropC 0).toAny 1).toAny 2).toAny 3).toAny 4).toAny 5).toAny 6).toAny 7).toAny 8).toAny 9).toAny 10).toAny 11)⟩⟩
        · have hb8 := optE_n hb8 e297
          have hE583 : Wst ⟨[], TL⟩ _ _ [(rScr K).at p_script, rN.at x2, (rL rN).at x63, rN.at x93, (rL rN).at x131, (rL (rT2 rN rN)).at x157, (rWb C_Web).at x183, sRef c185, (rL rN).at x131, (rO (rL rN)).at x228.1, (rL (rL rN)).at x270, sAny, sAny, sAny, sAny, sAny, sAny, sAny] [(c185, cDT rB x228.2)] _ _ _ := hE284.grow e290
          refine w_name (R := rNo) (ss' := [(rScr K).at p_script, rN.at x2, (rL rN).at x63, rN.at x93, (rL rN).at x131, (rL (rT2 rN rN)).at x157, (rWb C_Web).at x183, sRef c185, (rL rN).at x131, (rO (rL rN)).at x228.1, (rL (rL rN)).at x270, rNo.at (), sAny, sAny, sAny, sAny, sAny, sAny]) hE583 rfl rfl fun _ hE584 => ?_
          refine x_seq ?_
          refine x_ifs ?_
          refine w_orP (cs := [(c185, cDT rB x228.2)]) hE584 (ca := (!eqD (none : Option (List Nat)) x228.1)) (cb := ((false && false) || (!eqD x131 x131))) (fun _ q0 => ?_) (fun _ _ s591 hE590 _ _ q0 => ?_) (fun _ _ s606 hE607 => ?_)
          · refine x_test ?_
            refine x_op ?_
            refine w_var hE584 (i := 11) rfl fun v585 r586 => ?_
            obtain rfl := (show v585 = V.non from r586)
            refine w_var hE584 (i := 9) rfl fun v587 r588 => ?_
            refine w_neD (dtOL dtN) (a := (none : Option (List Nat))) (b := x228.1) (dv_oN) (dv_r (dtOL dtN) hE584.fh r588) ?_
            refine x_bl ?_
            exact q0 _ _ (Same.refl _) hE584
          · refine w_orP (cs := [(c185, cDT rB x228.2)]) hE590 (ca := (false && false)) (cb := (!eqD x131 x131)) (fun _ q0 => ?_) (fun _ _ s599 hE598 _ _ q0 => ?_) (fun _ _ s604 hE605 => ?_)
            · refine w_andP (cs := [(c185, cDT rB x228.2)]) hE590 (ca := false) (cb := false) (fun _ q0 => ?_) (fun _ _ _ _ hz596 _ q0 => ?_) (fun _ _ s594 hE595 => ?_)
              · refine x_test ?_
                refine x_op ?_
                refine w_var hE590 (i := 11) rfl fun v592 r593 => ?_
                obtain rfl := (show v592 = V.non from r593)
                refine x_c ?_
                refine w_isnotN0 ?_
                refine x_bl ?_
                exact q0 _ _ (Same.refl _) hE590
              · cases hz596
              exact q0 _ _ ((Same.refl _).trans s594) hE595
            · refine x_test ?_
              refine x_op ?_
              refine w_var hE598 (i := 8) rfl fun v600 r601 => ?_
              refine w_var hE598 (i := 4) rfl fun v602 r603 => ?_
              refine w_neD (dtL dtN) (a := x131) (b := x131) (dv_l dtN hE598.fh (lv_f hE598.fh r601)) (dv_l dtN hE598.fh (lv_f hE598.fh r603)) ?_
              refine x_bl ?_
              exact q0 _ _ (Same.refl _) hE598
            exact q0 _ _ ((Same.refl _).trans s604) hE605
          refine x_itb (fun hc608 => ?_) (fun hc608 => ?_)
          · have hb8 := ite_t hb8 hc608
            refine x_ret ?_
            refine x_c ?_
            have hb8 := Option.some.inj hb8
            subst hb8
            cases (hrx13 _ rfl)
            have hf := Option.some.inj hf
            subst hf
            exact q _ _ _ hE607.ex rfl
          · have hb8 := ite_f hb8 hc608
            refine x_next ?_
            obtain ⟨x612, hx612, hb8⟩ := bnd hb8
            refine w_cut 0 (fun (s609 : Unit) (ad610 : Nat → Addr) => [(rScr K).at p_script, rN.at x2, (rL rN).at x63, rN.at x93, (rL rN).at x131, (rL (rT2 rN rN)).at x157, (rWb C_Web).at x183, sRef c185, (rL rN).at x131, (rO (rL rN)).at x228.1, (rL (rL rN)).at x270, rNo.at (), sAny, sAny, sAny, sAny, sAny, sAny]) (fun (s609 : Unit) (ad610 : Nat → Addr) => [(c185, cDT rB x228.2)]) x612 hE607 ?_ (fun ad610 _ _ _ ha611 s615 hE616 => ?_)
            · refine x_ifs ?_
              refine x_test ?_
              refine x_op ?_
              refine w_var hE607 (i := 11) rfl fun v613 r614 => ?_
              obtain rfl := (show v613 = V.non from r614)
              refine x_c ?_
              refine w_isnotN0 ?_
              refine x_bl ?_
              refine x_F ?_
              refine x_next ?_
              have hx612 := Option.some.inj hx612
              subst hx612
              exact ⟨adZ, _, no_ad, (Same.refl _), hE607⟩
            have hE617 : Wst ⟨[], TL⟩ _ _ [(rScr K).at p_script, rN.at x2, (rL rN).at x63, rN.at x93, (rL rN).at x131, (rL (rT2 rN rN)).at x157, (rWb C_Web).at x183, sRef c185, (rL rN).at x131, (rO (rL rN)).at x228.1, (rL (rL rN)).at x270, rNo.at (), sAny, sAny, sAny, sAny, sAny, sAny] [(c185, cDT rB x228.2)] _ _ _ := hE616
            refine x_seq ?_
            refine x_for ?_
            refine x_il ?_
            refine x_op ?_
            refine x_sl ?_
            refine w_var hE617 (i := 2) rfl fun v618 r619 => ?_
            refine x_part ?_
            refine w_cN 13 ?_
            refine ⟨_, rfl, ?_⟩
            refine x_noPart ?_
            refine w_slDF hE617 (lv_f hE617.fh r619) fun v620 _ _ s621 hE623 r622 => ?_
            refine x_sl ?_
            refine w_var hE623 (i := 2) rfl fun v624 r625 => ?_
            refine x_part ?_
            refine w_cN 13 ?_
            refine ⟨_, rfl, ?_⟩
            refine x_part ?_
            refine w_cN 14 ?_
            refine ⟨_, rfl, ?_⟩
            refine w_slF hE623 (lv_f hE623.fh r625) fun v626 _ _ s627 hE629 r628 => ?_
            obtain ⟨_, u630, hb8⟩ := bnd hb8
            have u630 := gd_ok u630
            refine w_catF hE629 (lv_f hE629.fh ((rL rN).mono s627 r622)) (lv_f hE629.fh r628) u630 fun v631 _ _ s632 hE634 r633 => ?_
            refine w_il (lv_f hE634.fh r633) fun a635 ea => ?_
            cases ea
            have hE646 : Wst ⟨[], TL⟩ _ _ [(rScr K).at p_script, rN.at x2, (rL rN).at x63, rN.at x93, (rL rN).at x131, (rL (rT2 rN rN)).at x157, (rWb C_Web).at x183, sRef c185, (rL rN).at x131, (rO (rL rN)).at x228.1, (rL (rL rN)).at x270, rNo.at (), sAny, sAny, sAny, sAny, sAny, sAny] [(c185, cDT rB x228.2)] _ _ _ := hE634
            obtain ⟨x648, hx648, hb8⟩ := bnd hb8
            refine w_forS 0 (fun (s636 : (List ((List Nat) × Bool))) (ad644 : Nat → Addr) => [(rScr K).at p_script, rN.at x2, (rL rN).at x63, rN.at x93, (rL rN).at x131, (rL (rT2 rN rN)).at x157, (rWb C_Web).at x183, sRef c185, (rL rN).at x131, (rO (rL rN)).at x228.1, (rL (rL rN)).at x270, rNo.at (), sAny, sAny, sAny, sAny, sAny, sAny]) (fun (s636 : (List ((List Nat) × Bool))) (ad644 : Nat → Addr) => [(c185, cDT rB s636)]) hx648 adZ no_ad hE646 (fun _ ad644 _ _ _ sm w822 => jok_l w822.fh w822.nt (lv_f w822.fh ((rL rN).mono sm r633))) (fun s636 ad644 x637 v638 o639 _ _ _ ha645 s640 r641 hE642 hb643 hrx648 hkx648 => ?_) (fun x648s ad644 _ _ _ eex648 ha645 s823 hE824 => ?_)
            · have hE647 : Wst ⟨[], TL⟩ _ _ [(rScr K).at p_script, rN.at x2, (rL rN).at x63, rN.at x93, (rL rN).at x131, (rL (rT2 rN rN)).at x157, (rWb C_Web).at x183, sRef c185, (rL rN).at x131, (rO (rL rN)).at x228.1, (rL (rL rN)).at x270, rNo.at (), sAny, sAny, sAny, sAny, sAny, sAny] [(c185, cDT rB s636)] _ _ _ := hE642
              obtain rfl := (show v638 = (V.int ((x637 : Nat) : Int)) from r641)
              refine w_name (R := rN) (ss' := [(rScr K).at p_script, rN.at x2, (rL rN).at x63, rN.at x93, (rL rN).at x131, (rL (rT2 rN rN)).at x157, (rWb C_Web).at x183, sRef c185, (rL rN).at x131, (rO (rL rN)).at x228.1, (rL (rL rN)).at x270, rNo.at (), rN.at x637, sAny, sAny, sAny, sAny, sAny]) hE647 rfl rfl fun _ hE649 => ?_
              refine x_seq ?_
              refine x_ifs ?_
              refine x_test ?_
              refine x_op ?_
              refine w_vN hE649 (i := 3) rfl ?_
              refine w_cN 0 ?_
              refine w_eqN ?_
              refine x_bl ?_
              refine x_itb (fun hc650 => ?_) (fun hc650 => ?_)
              · have hb643 := ite_t hb643 hc650
                refine x_break ?_
                have hb643 := Option.some.inj hb643
                subst hb643
                cases (hkx648 _ rfl)
                have hE651 : Wst ⟨[], TL⟩ _ _ [(rScr K).at p_script, rN.at x2, (rL rN).at x63, rN.at x93, (rL rN).at x131, (rL (rT2 rN rN)).at x157, (rWb C_Web).at x183, sRef c185, (rL rN).at x131, (rO (rL rN)).at x228.1, (rL (rL rN)).at x270, rNo.at (), sAny, sAny, sAny, sAny, sAny, sAny] [(c185, cDT rB s636)] _ _ _ := (hE649.toAny 12)
                refine x_ifs ?_
                refine x_test ?_
                refine x_op ?_
                refine x_call ?_
                refine x_cons ?_
                refine w_var hE651 (i := 6) rfl fun v652 r653 => ?_
                refine x_cons ?_
                refine w_var hE651 (i := 8) rfl fun v654 r655 => ?_
                refine x_nil ?_
                obtain ⟨x656, hx656, hb8⟩ := bnd hb8
                refine ⟨_, v652, x183, v654, x131, x656, rfl, hE651.fh, hE651.nt, (hE651.tb tb0), r653, r655, hx656, optC_go fun v659 _ _ e657 r658 => ?_⟩
                have hE660 : Wst ⟨[], TL⟩ _ _ [(rScr K).at p_script, rN.at x2, (rL rN).at x63, rN.at x93, (rL rN).at x131, (rL (rT2 rN rN)).at x157, (rWb C_Web).at x183, sRef c185, (rL rN).at x131, (rO (rL rN)).at x228.1, (rL (rL rN)).at x270, rNo.at (), sAny, sAny, sAny, sAny, sAny, sAny] [(c185, cDT rB s636)] _ _ _ := hE651.grow e657
                refine w_var hE660 (i := 9) rfl fun v661 r662 => ?_
                refine w_neD (dtOL dtN) (a := x656) (b := x228.1) (dv_r (dtOL dtN) hE660.fh r658) (dv_r (dtOL dtN) hE660.fh r662) ?_
                refine x_bl ?_
                refine x_itb (fun hc663 => ?_) (fun hc663 => ?_)
                · have hb8 := ite_t hb8 hc663
                  refine x_ret ?_
                  refine x_c ?_
                  have hb8 := Option.some.inj hb8
                  subst hb8
                  cases (hrx13 _ rfl)
                  have hf := Option.some.inj hf
                  subst hf
                  exact q _ _ _ hE660.ex rfl
                · have hb8 := ite_f hb8 hc663
                  refine x_next ?_
                  have hb8 := Option.some.inj hb8
                  subst hb8
                  exact ⟨_, rfl, ⟨adZ, _, no_ad, (((((((((((((((((((((((((((((((((((((s5.trans s18).trans s22).trans s27).trans s32).trans s36).trans s41).trans s46).trans s50).trans s55).trans s60).trans e64.ff).trans s74).trans s85).trans s136).trans s141).trans s154).trans e158.ff).trans s168).trans s176).trans s180).trans s193).trans e202.ff).trans s207).trans e215.ff).trans e229.ff).trans s237).trans e241.ff).trans s275).trans s280).trans e290.ff).trans s606).trans s615).trans s621).trans s627).trans s632).trans s640).trans e657.ff), ((((((((((((hE660.dropC 0).toAny 1).toAny 2).toAny 3).toAny 4).toAny 5).toAny 6).toAny 7).toAny 8).toAny 9).toAny 10).toAny 11)⟩⟩
              · have hb643 := ite_f hb643 hc650
                refine x_next ?_
                refine x_seq ?_
                refine x_asg ?_
                refine x_op ?_
                refine w_var hE649 (i := 10) rfl fun v664 r665 => ?_
                refine x_op ?_
                refine w_vN hE649 (i := 12) rfl ?_
                refine x_cb ?_
                refine x_cons ?_
                refine w_var hE649 (i := 10) rfl fun v666 r667 => ?_
                refine x_nil ?_
                refine w_len (lv_f hE649.fh r667) ?_
                obtain ⟨_, u668, hb643⟩ := bnd hb643
                have u668 := gd_ok u668
                refine w_modN u668 ?_
                obtain ⟨x669, hx669, hb643⟩ := bnd hb643
                refine w_ix (lv_f hE649.fh r665) hx669 fun v670 r671 => ?_
                refine w_name (R := (rL rN)) (ss' := [(rScr K).at p_script, rN.at x2, (rL rN).at x63, rN.at x93, (rL rN).at x131, (rL (rT2 rN rN)).at x157, (rWb C_Web).at x183, sRef c185, (rL rN).at x131, (rO (rL rN)).at x228.1, (rL (rL rN)).at x270, rNo.at (), rN.at x637, (rL rN).at x669, sAny, sAny, sAny, sAny]) hE649 rfl r671 fun _ hE672 => ?_
                refine x_seq ?_
                refine x_asg ?_
                refine x_cb ?_
                refine x_cons ?_
                refine w_var hE672 (i := 13) rfl fun v673 r674 => ?_
                refine x_nil ?_
                refine w_listF hE672 (lv_f hE672.fh r674) fun v675 _ _ s676 hE678 r677 => ?_
                refine w_name (R := (rL rN)) (ss' := [(rScr K).at p_script, rN.at x2, (rL rN).at x63, rN.at x93, (rL rN).at x131, (rL (rT2 rN rN)).at x157, (rWb C_Web).at x183, sRef c185, (rL rN).at x131, (rO (rL rN)).at x228.1, (rL (rL rN)).at x270, rNo.at (), rN.at x637, (rL rN).at x669, (rL rN).at x669, sAny, sAny, sAny]) hE678 rfl r677 fun _ hE679 => ?_
                refine x_seq ?_
                refine x_asg ?_
                refine x_call ?_
                refine x_cons ?_
                refine w_var hE679 (i := 6) rfl fun v680 r681 => ?_
                refine x_cons ?_
                refine w_var hE679 (i := 8) rfl fun v682 r683 => ?_
                refine x_cons ?_
                refine w_var hE679 (i := 14) rfl fun v684 r685 => ?_
                refine x_nil ?_
                obtain ⟨x686, hx686, hb643⟩ := bnd hb643
                refine ⟨_, v680, x183, v682, x131, v684, x669, x686, rfl, hE679.fh, hE679.nt, (hE679.tb tb0), r681, r683, r685, hx686, fun l689 e694 c690 _ _ e687 o691 p692 q693 => ?_, fun e694 _ _ e687 => ?_⟩
                · have hb643 := optE_s hb643 e694
                  have hE695 : Wst ⟨[], TL⟩ _ _ [(rScr K).at p_script, rN.at x2, (rL rN).at x63, rN.at x93, (rL rN).at x131, (rL (rT2 rN rN)).at x157, (rWb C_Web).at x183, sRef c185, (rL rN).at x131, (rO (rL rN)).at x228.1, (rL (rL rN)).at x270, rNo.at (), rN.at x637, (rL rN).at x669, (rL rN).at x669, sAny, sAny, sAny] [(c185, cDT rB s636)] _ _ _ := hE679.grow e687
                  have o696 := hE679.own o691
                  have hE697 : Wst ⟨[], TL⟩ _ _ [(rScr K).at p_script, rN.at x2, (rL rN).at x63, rN.at x93, (rL rN).at x131, (rL (rT2 rN rN)).at x157, (rWb C_Web).at x183, sRef c185, (rL rN).at x131, (rO (rL rN)).at x228.1, (rL (rL rN)).at x270, rNo.at (), rN.at x637, (rL rN).at x669, (rL rN).at x669, sAny, sAny, sAny] [(c690, cL rN l689), (c185, cDT rB s636)] _ _ _ := hE695.addC (A := cL rN l689) o696 p692 q693 (hE679.fresh_ne o691)
                  refine w_nameC (ss' := [(rScr K).at p_script, rN.at x2, (rL rN).at x63, rN.at x93, (rL rN).at x131, (rL (rT2 rN rN)).at x157, (rWb C_Web).at x183, sRef c185, (rL rN).at x131, (rO (rL rN)).at x228.1, (rL (rL rN)).at x270, rNo.at (), rN.at x637, (rL rN).at x669, (rL rN).at x669, sRef c690, sAny, sAny]) hE697 rfl fun _ hE698 => ?_
                  refine x_seq ?_
                  refine x_ifs ?_
                  obtain ⟨x705, hx705, hb643⟩ := bnd hb643
                  refine w_orP (cs := [(c690, cL rN l689), (c185, cDT rB x705.2)]) hE698 (ca := (!eqD (some l689) x705.1)) (cb := ((!eqD x131 x131) || (!eqD x669 x669))) (fun _ q0 => ?_) (fun _ _ s713 hE712 _ _ q0 => ?_) (fun _ _ s727 hE728 => ?_)
                  · refine x_test ?_
                    refine x_op ?_
                    refine w_ref hE698 (i := 15) rfl ?_
                    refine x_call ?_
                    refine x_cons ?_
                    refine w_var hE698 (i := 5) rfl fun v699 r700 => ?_
                    refine x_cons ?_
                    refine w_var hE698 (i := 4) rfl fun v701 r702 => ?_
                    refine x_cons ?_
                    refine w_var hE698 (i := 13) rfl fun v703 r704 => ?_
                    refine x_cons ?_
                    refine w_ref hE698 (i := 7) rfl ?_
                    refine x_nil ?_
                    refine ⟨_, v699, x157, v701, x131, v703, x669, c185, s636, x705, rfl, hE698.fh, hE698.nt, hE698.apart (k := 1) rfl, hE698.cell (k := 1) rfl, r700, r702, r704, hx705, fun v708 _ _ e706 w709 r707 => ?_⟩
                    have hE710 : Wst ⟨[], TL⟩ _ _ [(rScr K).at p_script, rN.at x2, (rL rN).at x63, rN.at x93, (rL rN).at x131, (rL (rT2 rN rN)).at x157, (rWb C_Web).at x183, sRef c185, (rL rN).at x131, (rO (rL rN)).at x228.1, (rL (rL rN)).at x270, rNo.at (), rN.at x637, (rL rN).at x669, (rL rN).at x669, sRef c690, sAny, sAny] [(c690, cL rN l689), (c185, cDT rB x705.2)] _ _ _ := hE698.call1 (k := 1) (A' := cDT rB x705.2) rfl e706 w709
                    refine w_neD (dtOL dtN) (a := (some l689)) (b := x705.1) (dv_oS (dv_l dtN hE710.fh (lv_c hE710 (k := 0) rfl))) (dv_r (dtOL dtN) hE710.fh r707) ?_
                    refine x_bl ?_
                    exact q0 _ _ ((Same.refl _).trans e706.ff) hE710
                  · refine w_orP (cs := [(c690, cL rN l689), (c185, cDT rB x705.2)]) hE712 (ca := (!eqD x131 x131)) (cb := (!eqD x669 x669)) (fun _ q0 => ?_) (fun _ _ s720 hE719 _ _ q0 => ?_) (fun _ _ s725 hE726 => ?_)
                    · refine x_test ?_
                      refine x_op ?_
                      refine w_var hE712 (i := 8) rfl fun v714 r715 => ?_
                      refine w_var hE712 (i := 4) rfl fun v716 r717 => ?_
                      refine w_neD (dtL dtN) (a := x131) (b := x131) (dv_l dtN hE712.fh (lv_f hE712.fh r715)) (dv_l dtN hE712.fh (lv_f hE712.fh r717)) ?_
                      refine x_bl ?_
                      exact q0 _ _ (Same.refl _) hE712
                    · refine x_test ?_
                      refine x_op ?_
                      refine w_var hE719 (i := 14) rfl fun v721 r722 => ?_
                      refine w_var hE719 (i := 13) rfl fun v723 r724 => ?_
                      refine w_neD (dtL dtN) (a := x669) (b := x669) (dv_l dtN hE719.fh (lv_f hE719.fh r722)) (dv_l dtN hE719.fh (lv_f hE719.fh r724)) ?_
                      refine x_bl ?_
                      exact q0 _ _ (Same.refl _) hE719
                    exact q0 _ _ ((Same.refl _).trans s725) hE726
                  refine x_itb (fun hc729 => ?_) (fun hc729 => ?_)
                  · have hb643 := ite_t hb643 hc729
                    refine x_ret ?_
                    refine x_c ?_
                    have hb643 := Option.some.inj hb643
                    subst hb643
                    cases (hrx648 _ rfl)
                    have hb8 := Option.some.inj hb8
                    subst hb8
                    cases (hrx13 _ rfl)
                    have hf := Option.some.inj hf
                    subst hf
                    exact q _ _ _ hE728.ex rfl
                  · have hb643 := ite_f hb643 hc729
                    refine x_next ?_
                    refine x_seq ?_
                    refine x_ifs ?_
                    obtain ⟨b750, h751, hb643⟩ := bnd hb643
                    refine w_andO (cs := [(c690, cL rN l689), (c185, cDT rB x705.2)]) hE728 (ca := true) h751 (fun _ q0 => ?_) (fun _ _ s732 hE731 _ hkk730 _ q0 => ?_) (fun _ _ s748 hE749 => ?_)
                    · refine x_test ?_
                      refine x_op ?_
                      refine w_ref hE728 (i := 15) rfl ?_
                      refine x_c ?_
                      refine w_isnotNx (fun z => by cases z) ?_
                      refine x_bl ?_
                      exact q0 _ _ (Same.refl _) hE728
                    · refine x_not ?_
                      refine x_B ?_
                      refine x_call ?_
                      refine x_cons ?_
                      refine w_ref hE731 (i := 15) rfl ?_
                      refine x_nil ?_
                      obtain ⟨F733, s734, f735, r736, n737, k738⟩ := hE731.borrow (k := 0) rfl
                      obtain ⟨x739, hx739, hkk730⟩ := bnd hkk730
                      refine ⟨_, (V.ref c690), l689, x739, rfl, f735.1, f735.2, r736, hx739, fun v742 _ _ e740 r741 => ?_⟩
                      obtain ⟨F743, x744, s745, n746⟩ := k738 _ _ _ e740
                      have hE747 : Wst ⟨[], TL⟩ _ _ [(rScr K).at p_script, rN.at x2, (rL rN).at x63, rN.at x93, (rL rN).at x131, (rL (rT2 rN rN)).at x157, (rWb C_Web).at x183, sRef c185, (rL rN).at x131, (rO (rL rN)).at x228.1, (rL (rL rN)).at x270, rNo.at (), rN.at x637, (rL rN).at x669, (rL rN).at x669, sRef c690, sAny, sAny] [(c690, cL rN l689), (c185, cDT rB x705.2)] _ _ _ := hE731.grow x744
                      obtain rfl := (show v742 = (V.bl x739) from r741)
                      refine x_bl ?_
                      have hkk730 := Option.some.inj hkk730
                      subst hkk730
                      exact q0 _ _ ((Same.refl _).trans x744.ff) hE747
                    refine x_itb (fun hc752 => ?_) (fun hc752 => ?_)
                    · have hb643 := ite_t hb643 hc752
                      refine x_ret ?_
                      refine x_c ?_
                      have hb643 := Option.some.inj hb643
                      subst hb643
                      cases (hrx648 _ rfl)
                      have hb8 := Option.some.inj hb8
                      subst hb8
                      cases (hrx13 _ rfl)
                      have hf := Option.some.inj hf
                      subst hf
                      exact q _ _ _ hE749.ex rfl
                    · have hb643 := ite_f hb643 hc752
                      refine x_next ?_
                      obtain ⟨x756, hx756, hb643⟩ := bnd hb643
                      refine w_cut 0 (fun (s753 : (List Nat)) (ad754 : Nat → Addr) => [(rScr K).at p_script, rN.at x2, (rL rN).at x63, rN.at x93, (rL rN).at x131, (rL (rT2 rN rN)).at x157, (rWb C_Web).at x183, sRef c185, (rL rN).at x131, (rO (rL rN)).at x228.1, (rL (rL rN)).at x270, rNo.at (), rN.at x637, (rL rN).at x669, (rL rN).at x669, sRef c690, sAny, sAny]) (fun (s753 : (List Nat)) (ad754 : Nat → Addr) => [(c690, cL rN s753), (c185, cDT rB x705.2)]) x756 hE749 ?_ (fun ad754 _ _ _ ha755 s759 hE760 => ?_)
                      · refine x_ifs ?_
                        refine x_test ?_
                        refine x_op ?_
                        refine w_ref hE749 (i := 15) rfl ?_
                        refine x_c ?_
                        refine w_isnotNx (fun z => by cases z) ?_
                        refine x_bl ?_
                        refine x_T ?_
                        refine x_drop ?_
                        refine x_bm ?_
                        refine w_ref hE749 (i := 15) rfl ?_
                        refine w_tyC hE749 (k := 0) rfl ?_
                        refine x_cons ?_
                        refine w_vN hE749 (i := 3) rfl ?_
                        refine x_nil ?_
                        obtain ⟨_, u757, hx756⟩ := bnd hx756
                        have u757 := gd_ok u757
                        refine w_app hE749 (k := 0) (a := x93) rfl u757 rfl (cs' := [(c690, cL rN (l689 ++ [x93])), (c185, cDT rB x705.2)]) rfl fun _ hE758 => ?_
                        have hx756 := Option.some.inj hx756
                        subst hx756
                        exact ⟨adZ, _, no_ad, (Same.refl _), hE758⟩
                      have hE761 : Wst ⟨[], TL⟩ _ _ [(rScr K).at p_script, rN.at x2, (rL rN).at x63, rN.at x93, (rL rN).at x131, (rL (rT2 rN rN)).at x157, (rWb C_Web).at x183, sRef c185, (rL rN).at x131, (rO (rL rN)).at x228.1, (rL (rL rN)).at x270, rNo.at (), rN.at x637, (rL rN).at x669, (rL rN).at x669, sRef c690, sAny, sAny] [(c690, cL rN x756), (c185, cDT rB x705.2)] _ _ _ := hE760
                      refine x_ifs ?_
                      refine x_test ?_
                      refine x_op ?_
                      refine w_var hE761 (i := 14) rfl fun v762 r763 => ?_
                      refine w_var hE761 (i := 13) rfl fun v764 r765 => ?_
                      refine w_neD (dtL dtN) (a := x669) (b := x669) (dv_l dtN hE761.fh (lv_f hE761.fh r763)) (dv_l dtN hE761.fh (lv_f hE761.fh r765)) ?_
                      refine x_bl ?_
                      refine x_itb (fun hc766 => ?_) (fun hc766 => ?_)
                      · have hb643 := ite_t hb643 hc766
                        refine x_ret ?_
                        refine x_c ?_
                        have hb643 := Option.some.inj hb643
                        subst hb643
                        cases (hrx648 _ rfl)
                        have hb8 := Option.some.inj hb8
                        subst hb8
                        cases (hrx13 _ rfl)
                        have hf := Option.some.inj hf
                        subst hf
                        exact q _ _ _ hE761.ex rfl
                      · have hb643 := ite_f hb643 hc766
                        refine x_next ?_
                        have hb643 := Option.some.inj hb643
                        subst hb643
                        exact ⟨_, rfl, ⟨adZ, _, no_ad, (((((s640.trans s676).trans e687.ff).trans s727).trans s748).trans s759), (((((hE761.dropC 0).toAny 12).toAny 13).toAny 14).toAny 15)⟩⟩
                · have hb643 := optE_n hb643 e694
                  have hE767 : Wst ⟨[], TL⟩ _ _ [(rScr K).at p_script, rN.at x2, (rL rN).at x63, rN.at x93, (rL rN).at x131, (rL (rT2 rN rN)).at x157, (rWb C_Web).at x183, sRef c185, (rL rN).at x131, (rO (rL rN)).at x228.1, (rL (rL rN)).at x270, rNo.at (), rN.at x637, (rL rN).at x669, (rL rN).at x669, sAny, sAny, sAny] [(c185, cDT rB s636)] _ _ _ := hE679.grow e687
                  refine w_name (R := rNo) (ss' := [(rScr K).at p_script, rN.at x2, (rL rN).at x63, rN.at x93, (rL rN).at x131, (rL (rT2 rN rN)).at x157, (rWb C_Web).at x183, sRef c185, (rL rN).at x131, (rO (rL rN)).at x228.1, (rL (rL rN)).at x270, rNo.at (), rN.at x637, (rL rN).at x669, (rL rN).at x669, rNo.at (), sAny, sAny]) hE767 rfl rfl fun _ hE768 => ?_
                  refine x_seq ?_
                  refine x_ifs ?_
                  obtain ⟨x777, hx777, hb643⟩ := bnd hb643
                  refine w_orP (cs := [(c185, cDT rB x777.2)]) hE768 (ca := (!eqD (none : Option (List Nat)) x777.1)) (cb := ((!eqD x131 x131) || (!eqD x669 x669))) (fun _ q0 => ?_) (fun _ _ s785 hE784 _ _ q0 => ?_) (fun _ _ s799 hE800 => ?_)
                  · refine x_test ?_
                    refine x_op ?_
                    refine w_var hE768 (i := 15) rfl fun v769 r770 => ?_
                    obtain rfl := (show v769 = V.non from r770)
                    refine x_call ?_
                    refine x_cons ?_
                    refine w_var hE768 (i := 5) rfl fun v771 r772 => ?_
                    refine x_cons ?_
                    refine w_var hE768 (i := 4) rfl fun v773 r774 => ?_
                    refine x_cons ?_
                    refine w_var hE768 (i := 13) rfl fun v775 r776 => ?_
                    refine x_cons ?_
                    refine w_ref hE768 (i := 7) rfl ?_
                    refine x_nil ?_
                    refine ⟨_, v771, x157, v773, x131, v775, x669, c185, s636, x777, rfl, hE768.fh, hE768.nt, hE768.apart (k := 0) rfl, hE768.cell (k := 0) rfl, r772, r774, r776, hx777, fun v780 _ _ e778 w781 r779 => ?_⟩
                    have hE782 : Wst ⟨[], TL⟩ _ _ [(rScr K).at p_script, rN.at x2, (rL rN).at x63, rN.at x93, (rL rN).at x131, (rL (rT2 rN rN)).at x157, (rWb C_Web).at x183, sRef c185, (rL rN).at x131, (rO (rL rN)).at x228.1, (rL (rL rN)).at x270, rNo.at (), rN.at x637, (rL rN).at x669, (rL rN).at x669, rNo.at (), sAny, sAny] [(c185, cDT rB x777.2)] _ _ _ := hE768.call1 (k := 0) (A' := cDT rB x777.2) rfl e778 w781
                    refine w_neD (dtOL dtN) (a := (none : Option (List Nat))) (b := x777.1) (dv_oN) (dv_r (dtOL dtN) hE782.fh r779) ?_
                    refine x_bl ?_
                    exact q0 _ _ ((Same.refl _).trans e778.ff) hE782
                  · refine w_orP (cs := [(c185, cDT rB x777.2)]) hE784 (ca := (!eqD x131 x131)) (cb := (!eqD x669 x669)) (fun _ q0 => ?_) (fun _ _ s792 hE791 _ _ q0 => ?_) (fun _ _ s797 hE798 => ?_)
                    · refine x_test ?_
                      refine x_op ?_
                      refine w_var hE784 (i := 8) rfl fun v786 r787 => ?_
                      refine w_var hE784 (i := 4) rfl fun v788 r789 => ?_
                      refine w_neD (dtL dtN) (a := x131) (b := x131) (dv_l dtN hE784.fh (lv_f hE784.fh r787)) (dv_l dtN hE784.fh (lv_f hE784.fh r789)) ?_
                      refine x_bl ?_
                      exact q0 _ _ (Same.refl _) hE784
                    · refine x_test ?_
                      refine x_op ?_
                      refine w_var hE791 (i := 14) rfl fun v793 r794 => ?_
                      refine w_var hE791 (i := 13) rfl fun v795 r796 => ?_
                      refine w_neD (dtL dtN) (a := x669) (b := x669) (dv_l dtN hE791.fh (lv_f hE791.fh r794)) (dv_l dtN hE791.fh (lv_f hE791.fh r796)) ?_
                      refine x_bl ?_
                      exact q0 _ _ (Same.refl _) hE791
                    exact q0 _ _ ((Same.refl _).trans s797) hE798
                  refine x_itb (fun hc801 => ?_) (fun hc801 => ?_)
                  · have hb643 := ite_t hb643 hc801
                    refine x_ret ?_
                    refine x_c ?_
                    have hb643 := Option.some.inj hb643
                    subst hb643
                    cases (hrx648 _ rfl)
                    have hb8 := Option.some.inj hb8
                    subst hb8
                    cases (hrx13 _ rfl)
                    have hf := Option.some.inj hf
                    subst hf
                    exact q _ _ _ hE800.ex rfl
                  · have hb643 := ite_f hb643 hc801
                    refine x_next ?_
                    refine x_seq ?_
                    refine x_ifs ?_
                    refine w_andP (cs := [(c185, cDT rB x777.2)]) hE800 (ca := false) (cb := false) (fun _ q0 => ?_) (fun _ _ _ _ hz806 _ q0 => ?_) (fun _ _ s804 hE805 => ?_)
                    · refine x_test ?_
                      refine x_op ?_
                      refine w_var hE800 (i := 15) rfl fun v802 r803 => ?_
                      obtain rfl := (show v802 = V.non from r803)
                      refine x_c ?_
                      refine w_isnotN0 ?_
                      refine x_bl ?_
                      exact q0 _ _ (Same.refl _) hE800
                    · cases hz806
                    refine x_itb (fun hc807 => ?_) (fun hc807 => ?_)
                    · have hb643 := ite_t hb643 hc807
                      refine x_ret ?_
                      refine x_c ?_
                      have hb643 := Option.some.inj hb643
                      subst hb643
                      cases (hrx648 _ rfl)
                      have hb8 := Option.some.inj hb8
                      subst hb8
                      cases (hrx13 _ rfl)
                      have hf := Option.some.inj hf
                      subst hf
                      exact q _ _ _ hE805.ex rfl
                    · have hb643 := ite_f hb643 hc807
                      refine x_next ?_
                      obtain ⟨x811, hx811, hb643⟩ := bnd hb643
                      refine w_cut 0 (fun (s808 : Unit) (ad809 : Nat → Addr) => [(rScr K).at p_script, rN.at x2, (rL rN).at x63, rN.at x93, (rL rN).at x131, (rL (rT2 rN rN)).at x157, (rWb C_Web).at x183, sRef c185, (rL rN).at x131, (rO (rL rN)).at x228.1, (rL (rL rN)).at x270, rNo.at (), rN.at x637, (rL rN).at x669, (rL rN).at x669, rNo.at (), sAny, sAny]) (fun (s808 : Unit) (ad809 : Nat → Addr) => [(c185, cDT rB x777.2)]) x811 hE805 ?_ (fun ad809 _ _ _ ha810 s814 hE815 => ?_)
                      · refine x_ifs ?_
                        refine x_test ?_
                        refine x_op ?_
                        refine w_var hE805 (i := 15) rfl fun v812 r813 => ?_
                        obtain rfl := (show v812 = V.non from r813)
                        refine x_c ?_
                        refine w_isnotN0 ?_
                        refine x_bl ?_
                        refine x_F ?_
                        refine x_next ?_
                        have hx811 := Option.some.inj hx811
                        subst hx811
                        exact ⟨adZ, _, no_ad, (Same.refl _), hE805⟩
                      have hE816 : Wst ⟨[], TL⟩ _ _ [(rScr K).at p_script, rN.at x2, (rL rN).at x63, rN.at x93, (rL rN).at x131, (rL (rT2 rN rN)).at x157, (rWb C_Web).at x183, sRef c185, (rL rN).at x131, (rO (rL rN)).at x228.1, (rL (rL rN)).at x270, rNo.at (), rN.at x637, (rL rN).at x669, (rL rN).at x669, rNo.at (), sAny, sAny] [(c185, cDT rB x777.2)] _ _ _ := hE815
                      refine x_ifs ?_
                      refine x_test ?_
                      refine x_op ?_
                      refine w_var hE816 (i := 14) rfl fun v817 r818 => ?_
                      refine w_var hE816 (i := 13) rfl fun v819 r820 => ?_
                      refine w_neD (dtL dtN) (a := x669) (b := x669) (dv_l dtN hE816.fh (lv_f hE816.fh r818)) (dv_l dtN hE816.fh (lv_f hE816.fh r820)) ?_
                      refine x_bl ?_
                      refine x_itb (fun hc821 => ?_) (fun hc821 => ?_)
                      · have hb643 := ite_t hb643 hc821
                        refine x_ret ?_
                        refine x_c ?_
                        have hb643 := Option.some.inj hb643
                        subst hb643
                        cases (hrx648 _ rfl)
                        have hb8 := Option.some.inj hb8
                        subst hb8
                        cases (hrx13 _ rfl)
                        have hf := Option.some.inj hf
                        subst hf
                        exact q _ _ _ hE816.ex rfl
                      · have hb643 := ite_f hb643 hc821
                        refine x_next ?_
                        have hb643 := Option.some.inj hb643
                        subst hb643
                        exact ⟨_, rfl, ⟨adZ, _, no_ad, (((((s640.trans s676).trans e687.ff).trans s799).trans s804).trans s814), ((((hE816.toAny 12).toAny 13).toAny 14).toAny 15)⟩⟩
            subst eex648
            have hE837 : Wst ⟨[], TL⟩ _ _ [(rScr K).at p_script, rN.at x2, (rL rN).at x63, rN.at x93, (rL rN).at x131, (rL (rT2 rN rN)).at x157, (rWb C_Web).at x183, sRef c185, (rL rN).at x131, (rO (rL rN)).at x228.1, (rL (rL rN)).at x270, rNo.at (), sAny, sAny, sAny, sAny, sAny, sAny] [(c185, cDT rB x648s)] _ _ _ := hE824
            refine x_ifs ?_
            refine x_test ?_
            refine x_op ?_
            refine x_call ?_
            refine x_cons ?_
            refine w_var hE837 (i := 6) rfl fun v838 r839 => ?_
            refine x_cons ?_
            refine w_var hE837 (i := 8) rfl fun v840 r841 => ?_
            refine x_nil ?_
            obtain ⟨x842, hx842, hb8⟩ := bnd hb8
            refine ⟨_, v838, x183, v840, x131, x842, rfl, hE837.fh, hE837.nt, (hE837.tb tb0), r839, r841, hx842, optC_go fun v845 _ _ e843 r844 => ?_⟩
            have hE846 : Wst ⟨[], TL⟩ _ _ [(rScr K).at p_script, rN.at x2, (rL rN).at x63, rN.at x93, (rL rN).at x131, (rL (rT2 rN rN)).at x157, (rWb C_Web).at x183, sRef c185, (rL rN).at x131, (rO (rL rN)).at x228.1, (rL (rL rN)).at x270, rNo.at (), sAny, sAny, sAny, sAny, sAny, sAny] [(c185, cDT rB x648s)] _ _ _ := hE837.grow e843
            refine w_var hE846 (i := 9) rfl fun v847 r848 => ?_
            refine w_neD (dtOL dtN) (a := x842) (b := x228.1) (dv_r (dtOL dtN) hE846.fh r844) (dv_r (dtOL dtN) hE846.fh r848) ?_
            refine x_bl ?_
            refine x_itb (fun hc849 => ?_) (fun hc849 => ?_)
            · have hb8 := ite_t hb8 hc849
              refine x_ret ?_
              refine x_c ?_
              have hb8 := Option.some.inj hb8
              subst hb8
              cases (hrx13 _ rfl)
              have hf := Option.some.inj hf
              subst hf
              exact q _ _ _ hE846.ex rfl
            · have hb8 := ite_f hb8 hc849
              refine x_next ?_
              have hb8 := Option.some.inj hb8
              subst hb8
              exact ⟨_, rfl, ⟨adZ, _, no_ad, (((((((((((((((((((((((((((((((((((((s5.trans s18).trans s22).trans s27).trans s32).trans s36).trans s41).trans s46).trans s50).trans s55).trans s60).trans e64.ff).trans s74).trans s85).trans s136).trans s141).trans s154).trans e158.ff).trans s168).trans s176).trans s180).trans s193).trans e202.ff).trans s207).trans e215.ff).trans e229.ff).trans s237).trans e241.ff).trans s275).trans s280).trans e290.ff).trans s606).trans s615).trans s621).trans s627).trans s632).trans s823).trans e843.ff), ((((((((((((hE846.dropC 0).toAny 1).toAny 2).toAny 3).toAny 4).toAny 5).toAny 6).toAny 7).toAny 8).toAny 9).toAny 10).toAny 11)⟩⟩
    subst eex13
    have hE853 : Wst ⟨[], TL⟩ _ _ [(rScr K).at p_script, sAny, sAny, sAny, sAny, sAny, sAny, sAny, sAny, sAny, sAny, sAny, sAny, sAny, sAny, sAny, sAny, sAny] [] _ _ _ := hE852
    refine x_ret ?_
    refine x_c ?_
    have hf := Option.some.inj hf
    subst hf
    exact q _ _ _ hE853.ex rfl
end
/-! ### mirrors: what they answer, step by step -/
section
variable {α β S T : Type} {P : β → Prop}
theorem ex_b {m : Option α} {k : α → Option β} (a : α) (h : m = some a) (q : ∃ r, k a = some r ∧ P r) : ∃ r, m.bind k = some r ∧ P r := by rw [h]; exact q
theorem ex_g {p : Prop} [Decidable p] {k : Unit → Option β} (h : p) (q : ∃ r, k () = some r ∧ P r) : ∃ r, (gd p).bind k = some r ∧ P r := ex_b () (gd_true h) q
theorem ex_s {a : β} (h : P a) : ∃ r, some a = some r ∧ P r := ⟨a, rfl, h⟩
theorem ex_e {m : Option α} {k : α → Option β} {A : α → Prop} (h : ∃ a, m = some a ∧ A a) (q : ∀ a, A a → ∃ r, k a = some r ∧ P r) : ∃ r, m.bind k = some r ∧ P r := by
  obtain ⟨a, e, ha⟩ := h
  exact ex_b a e (q a ha)
theorem ex_t {c : Bool} {a b : Option β} (h : c = true) (q : ∃ r, a = some r ∧ P r) : ∃ r, (if c = true then a else b) = some r ∧ P r := by rw [if_pos h]; exact q
theorem ex_n {c : Bool} {a b : Option β} (h : c = false) (q : ∃ r, b = some r ∧ P r) : ∃ r, (if c = true then a else b) = some r ∧ P r := by rw [if_neg (by rw [h]; decide)]; exact q
theorem ex_i {c : Bool} {a b : Option β} (q1 : c = true → ∃ r, a = some r ∧ P r) (q2 : c = false → ∃ r, b = some r ∧ P r) : ∃ r, (if c = true then a else b) = some r ∧ P r := by
  cases c with
  | true => rw [if_pos rfl]; exact q1 rfl
  | false => rw [if_neg (by decide)]; exact q2 rfl
theorem ex_mono {m : Option β} {P' : β → Prop} (h : ∃ r, m = some r ∧ P' r) (q : ∀ r, P' r → P r) : ∃ r, m = some r ∧ P r := by
  obtain ⟨r, e, h⟩ := h
  exact ⟨r, e, q r h⟩
theorem compS_ok {f : S → α → Option (Option β × S)} (I : Nat → S → List β → Prop) {xs : List α} {s0 : S} (h0 : I 0 s0 []) (hs : ∀ i x s l, xs[i]? = some x → I i s l → ∃ o, f s x = some o ∧ I (i + 1) o.2 (l ++ o.1.toList)) : ∃ r, compS f xs s0 = some r ∧ I xs.length r.2 r.1 := by
  have gen : ∀ (xs : List α) (I : Nat → S → List β → Prop) (s0 : S) (l0 : List β), I 0 s0 l0 → (∀ i x s l, xs[i]? = some x → I i s l → ∃ o, f s x = some o ∧ I (i + 1) o.2 (l ++ o.1.toList)) → ∃ r, compS f xs s0 = some r ∧ I xs.length r.2 (l0 ++ r.1) := by
    intro xs
    induction xs with
    | nil => intro I s0 l0 h0 _; exact ⟨([], s0), rfl, by rw [List.append_nil]; exact h0⟩
    | cons x xs ih =>
      intro I s0 l0 h0 hs
      obtain ⟨o, e1, h1⟩ := hs 0 x s0 l0 rfl h0
      obtain ⟨r, e2, h2⟩ := ih (fun i => I (i + 1)) o.2 (l0 ++ o.1.toList) h1 fun i x s l hx hi => hs (i + 1) x s l (by simpa using hx) hi
      refine ⟨(o.1.toList ++ r.1, r.2), ?_, by rw [← List.append_assoc]; exact h2⟩
      show (f s0 x).bind (fun p => (compS f xs p.2).bind fun q => some (p.1.toList ++ q.1, q.2)) = _
      rw [e1]
      show (compS f xs o.2).bind _ = _
      rw [e2]
      rfl
  exact gen xs I s0 [] h0 hs
/-- a search: the first one that says so -/
theorem loopO_all {body : S → α → Option (Stp S T)} (I : Nat → S → Prop) {xs : List α} {s0 : S} (h0 : I 0 s0) (hs : ∀ i x s, xs[i]? = some x → I i s → ∃ s', body s x = some (.nx s') ∧ I (i + 1) s') : ∃ s, loopO body xs s0 = some (.nx s) ∧ I xs.length s := by
  induction xs generalizing s0 I with
  | nil => exact ⟨s0, rfl, h0⟩
  | cons x xs ih =>
    obtain ⟨s1, e1, h1⟩ := hs 0 x s0 rfl h0
    obtain ⟨s2, e2, h2⟩ := ih (fun i => I (i + 1)) h1 fun i x s hx hi => hs (i + 1) x s (by simpa using hx) hi
    refine ⟨s2, ?_, h2⟩
    show (body s0 x).bind _ = _
    rw [e1]
    exact e2
theorem loopO_cases {body : S → α → Option (Stp S T)} (I : Nat → S → Prop) {xs : List α} {s0 : S} (h0 : I 0 s0) (B : Stp S T → Prop) (hs : ∀ i x s, xs[i]? = some x → I i s → (∃ s', body s x = some (.nx s') ∧ I (i + 1) s') ∨ (∃ s', body s x = some (.bk s') ∧ B (.bk s')) ∨ ∃ t, body s x = some (.rt t) ∧ B (.rt t)) (hd : ∀ s, I xs.length s → B (.nx s)) : ∃ e, loopO body xs s0 = some e ∧ B e := by
  induction xs generalizing s0 I with
  | nil => exact ⟨.nx s0, rfl, hd s0 h0⟩
  | cons x xs ih =>
    rcases hs 0 x s0 rfl h0 with ⟨s1, e1, h1⟩ | ⟨s1, e1, h1⟩ | ⟨t, e1, h1⟩
    · obtain ⟨e, e2, h2⟩ := ih (fun i => I (i + 1)) h1 (fun i x s hx hi => hs (i + 1) x s (by simpa using hx) hi) hd
      refine ⟨e, ?_, h2⟩
      show (body s0 x).bind _ = _
      rw [e1]
      exact e2
    · refine ⟨_, ?_, h1⟩
      show (body s0 x).bind _ = _
      rw [e1]
      rfl
    · refine ⟨_, ?_, h1⟩
      show (body s0 x).bind _ = _
      rw [e1]
      rfl
end
theorem mem_snoc {α : Type} {l : List α} {a x : α} : x ∈ l ++ [a] ↔ x ∈ l ∨ x = a := by simp
theorem nodup_snoc {α : Type} {l : List α} {a : α} (h : l.Nodup) (n : a ∉ l) : (l ++ [a]).Nodup := List.nodup_append.mpr ⟨h, by simp, fun x hx y hy => by rw [List.mem_singleton.mp hy]; exact fun z => n (z ▸ hx)⟩
theorem take_snoc {α : Type} {l : List α} {i : Nat} {a : α} (h : l[i]? = some a) : l.take (i + 1) = l.take i ++ [a] := by rw [List.take_add_one, h]; rfl
theorem range_at {n i x : Nat} (h : (List.range n)[i]? = some x) : x = i ∧ i < n := by
  have hl := (List.getElem?_eq_some_iff.mp h).1
  rw [List.length_range] at hl
  rw [List.getElem?_range hl] at h
  exact ⟨(Option.some.inj h).symm, hl⟩
theorem ite_oo {α : Type} {c : Bool} {x : α} : (if c = true then some (some x) else some none) = some (if c = true then some x else none) := by cases c <;> rfl
abbrev Asc (l : List Nat) : Prop := l.Pairwise (· < ·)
theorem whlO_ok {S : Type} {c : S → Option Bool} {body : S → Option S} (I : S → Prop) (μ : S → Nat) (hs : ∀ s, I s → ∃ b, c s = some b ∧ (b = true → ∃ s', body s = some s' ∧ I s' ∧ μ s' < μ s)) : ∀ (n : Nat) (s : S), I s → μ s < n → ∃ s', whlO c body n s = some s' ∧ I s' ∧ c s' = some false
  | 0, s, _, h => absurd h (Nat.not_lt_zero _)
  | n + 1, s, h, hn => by
    obtain ⟨b, e, q⟩ := hs s h
    show ∃ s', (c s).bind (fun b => if b = true then (body s).bind (whlO c body n) else some s) = some s' ∧ _
    rw [e]
    cases b with
    | false => exact ⟨s, rfl, h, e⟩
    | true =>
      obtain ⟨s1, e1, i1, m1⟩ := q rfl
      obtain ⟨s2, e2, i2⟩ := whlO_ok I μ hs n s1 i1 (by omega)
      refine ⟨s2, ?_, i2⟩
      show (body s).bind (whlO c body n) = _
      rw [e1]
      exact e2
theorem ex_w {S β : Type} {c : S → Option Bool} {body : S → Option S} {k : S → Option β} {P : β → Prop} {n : Nat} {s0 : S} (I : S → Prop) (μ : S → Nat) (h0 : I s0) (hm : μ s0 < n) (hs : ∀ s, I s → ∃ b, c s = some b ∧ (b = true → ∃ s', body s = some s' ∧ I s' ∧ μ s' < μ s))
    (q : ∀ s, I s → c s = some false → ∃ r, k s = some r ∧ P r) : ∃ r, (whlO c body n s0).bind k = some r ∧ P r := by
  obtain ⟨s, e, h1, h2⟩ := whlO_ok I μ hs n s0 h0 hm
  exact ex_b s e (q s h1 h2)
theorem nd_sub_len {α : Type} [DecidableEq α] : ∀ {l m : List α}, l.Nodup → (∀ x ∈ l, x ∈ m) → l.length ≤ m.length
  | [], _, _, _ => Nat.zero_le _
  | a :: l, m, nd, h => by
    obtain ⟨n1, n2⟩ := List.nodup_cons.mp nd
    have ha := h a (List.mem_cons_self ..)
    have ih := nd_sub_len (m := m.erase a) n2 fun x hx => (List.mem_erase_of_ne fun z => n1 (by rw [← z]; exact hx)).mpr (h x (List.mem_cons_of_mem _ hx))
    rw [List.length_erase_of_mem ha] at ih
    have := List.length_pos_of_mem ha
    rw [List.length_cons]
    omega
/-! ### what the web answers -/
theorem eqD_no {α : Type} [DecidableEq α] {a b : α} (h : a ≠ b) : eqD a b = false := by
  rw [Bool.eq_false_iff]
  exact fun z => h (eqD_iff.mp z)
theorem eqD_yes {α : Type} [DecidableEq α] {a b : α} (h : a = b) : eqD a b = true := eqD_iff.mpr h
theorem neighbours_eq {n : Nat} {e : Rel} {p : Nat} (h : p < n) : f_Web_neighbours (nbs n e) p = some (nb n e p) := by
  unfold f_Web_neighbours f_Web_is_place
  rw [nbs_at h]
  have : p < (nbs n e).length := by rw [nbs_len]; exact h
  simp [this]
theorem compL_of {α β : Type} {f : α → Option (List β)} {g : α → List β} {xs : List α} (h : ∀ x ∈ xs, f x = some (g x)) : compL f xs = some (xs.flatMap g) := compL_map h
theorem flat_le {α β : Type} {f : α → List β} {c : Nat} : ∀ {l : List α}, (∀ x ∈ l, (f x).length ≤ c) → (l.flatMap f).length ≤ l.length * c
  | [], _ => by simp
  | a :: l, h => by
    rw [List.flatMap_cons, List.length_append, List.length_cons, Nat.succ_mul]
    have h1 := h a (List.mem_cons_self ..)
    have h2 := flat_le (l := l) (f := f) fun x hx => h x (List.mem_cons_of_mem _ hx)
    omega
theorem map_filterMap {α β : Type} {p : α → Bool} {g : α → β} {l : List α} : l.filterMap (fun x => if p x = true then some (g x) else none) = (l.filter p).map g := by
  induction l with
  | nil => rfl
  | cons a l ih =>
    rw [List.filterMap_cons, List.filter_cons]
    by_cases c : p a = true
    · rw [if_pos c, if_pos c, List.map_cons, ih]
    · rw [if_neg c, if_neg c, ih]
theorem ltT_nodup {l : List (Nat × Nat)} (h : l.Pairwise ltT) : l.Nodup := h.imp fun {a b} h e => by
  subst e
  unfold ltT at h
  omega
theorem srtP_of_lt {l m : List (Nat × Nat)} (h : m.Pairwise ltT) (nd : l.Nodup) (e : ∀ p, p ∈ m ↔ p ∈ l) : m = srtP l := by
  refine srtP_eq ((List.perm_ext_iff_of_nodup (ltT_nodup h) nd).mpr e) (h.imp fun {a b} h => ?_)
  unfold leP
  unfold ltT at h
  rw [decide_eq_true_eq]
  omega
theorem tok_len {n : Nat} {ts : List Tie} (t : TOk n ts) : ts.length ≤ n * n := by
  refine Nat.le_trans (nd_sub_len (m := tiesOf n (eOf ts)) t.nd fun p hp => mem_tiesOf.mpr ⟨Nat.lt_trans (t.ok p hp).1 (t.ok p hp).2, (t.ok p hp).2, (t.ok p hp).1, eOf_iff.mpr (.inl hp)⟩) ?_
  unfold tiesOf
  refine Nat.le_trans (flat_le (c := n) fun x _ => ?_) (by rw [List.length_range]; exact Nat.le_refl _)
  rw [List.length_map]
  have h1 := List.length_filter_le (fun v => decide (x < v)) (nb n (eOf ts) x)
  have h2 := nb_len n (eOf ts) x
  omega
theorem mkWeb_rev {n : Nat} {ts : List Tie} (t : TOk n ts) (h : n ≤ 100) : mkWeb n ts.reverse = some (nbs n (eOf ts)) := by
  have z := tok_len t
  have z2 : n * n ≤ 100 * 100 := Nat.mul_le_mul h h
  rw [mkWeb_ok (t.perm (List.reverse_perm ts)) h (by rw [List.length_reverse]; omega), eOf_perm (List.reverse_perm ts)]
theorem mkWeb_tok {n : Nat} {ts : List Tie} (t : TOk n ts) (h : n ≤ 100) : mkWeb n ts = some (nbs n (eOf ts)) := by
  have z := tok_len t
  have z2 : n * n ≤ 100 * 100 := Nat.mul_le_mul h h
  exact mkWeb_ok t h (by omega)
theorem is_length_eq (n : Nat) : f_is_length n = some (decide (1 ≤ n)) := by
  unfold f_is_length
  simp
theorem check_lengths_ok {w : Wb} {L : List Nat} (hl : L.length = w.length) (z : w.length ≤ 1000) (h : ∀ x ∈ L, 1 ≤ x) : f_check_lengths w L = some () := by
  unfold f_check_lengths
  rw [gd_true (by omega)]
  simp only [Bool.false_eq_true, if_false, Option.bind_some, hl, decide_true, Bool.not_true]
  obtain ⟨s, e, _⟩ := foldO_ok (body := fun (s21 : Unit) (x22 : Nat) =>
      (f_is_length x22).bind fun x35 =>
      if (!x35) = true then
        none
      else
        some ()) (fun _ _ => True) (xs := L) (s0 := ()) trivial fun i x s hx _ => by
    rw [is_length_eq, decide_eq_true (h x (List.mem_of_getElem? hx))]
    exact ⟨(), rfl, trivial⟩
  show (foldO _ L ()).bind _ = _
  rw [e]
  rfl
theorem loop_nx {α S T : Type} {body : S → α → Option (Stp S T)} {xs : List α} {s0 : S} (hs : ∀ (i : Nat) (x : α) (s : S), xs[i]? = some x → ∃ r, body s x = some r ∧ ∃ s', r = .nx s') : ∃ e, loopO body xs s0 = some e ∧ ∃ s, e = .nx s := by
  obtain ⟨s, e, _⟩ := loopO_all (I := fun _ _ => True) (body := body) (xs := xs) (s0 := s0) trivial fun i x s hx _ => by
    obtain ⟨r, er, s', rfl⟩ := hs i x s hx
    exact ⟨s', er, trivial⟩
  exact ⟨_, e, s, rfl⟩
theorem cut_nat {α : Type} {l : List α} {a b : Nat} (h : b ≤ l.length) (h2 : a ≤ b) : cutL l (some ((a : Nat) : Int)) (some ((b : Nat) : Int)) = (l.drop a).take (b - a) := by
  unfold cutL
  rw [HT.sIx_nat, HT.sIx_nat, Nat.min_eq_left h, Nat.min_eq_left (by omega)]
/-! ### draws of a cell -/
theorem flat_rep {α : Type} (n : Nat) (a : α) : (List.replicate n [a]).flatten = List.replicate n a := by
  induction n with
  | zero => rfl
  | succ n ih => rw [List.replicate_succ, List.flatten_cons, ih]; rfl
/-- draws r by sizes -/
structure Drawn (sizes r : List Nat) : Prop where
  len : r.length = sizes.length
  lt : ∀ (i x s : Nat), r[i]? = some x → sizes[i]? = some s → x < s
theorem Drawn.get {sizes r : List Nat} (d : Drawn sizes r) {i s : Nat} (h : sizes[i]? = some s) : ∃ x, r[i]? = some x ∧ x < s := by
  have hi := (List.getElem?_eq_some_iff.mp h).1
  have hl := d.len
  have e : r[i]? = some (r[i]'(by omega)) := List.getElem?_eq_getElem (by omega)
  exact ⟨_, e, d.lt i _ s e h⟩
theorem draws_ok {ns : List Int} {k : Nat} {sizes : List Nat} (hz : ∀ s ∈ sizes, 0 < s ∧ s < 1073741824) (hl : sizes.length ≤ 1000) : ∃ r, f_l_draws ns k sizes = some r ∧ Drawn sizes r := by
  unfold f_l_draws
  refine ex_i (fun c => ex_g (by show 1 * sizes.length ≤ 100000 ∧ _; omega) (ex_s ⟨?_, fun i x s h1 h2 => ?_⟩)) fun c => ?_
  · rw [flat_rep, List.length_replicate]
  · rw [flat_rep, List.getElem?_replicate] at h1
    split at h1
    · cases h1
      exact (hz s (List.mem_of_getElem? h2)).1
    · cases h1
  · have c := of_decide_eq_false c
    have e : ns[k]? = some (ns[k]'(by omega)) := List.getElem?_eq_getElem (by omega)
    refine ex_b _ e (ex_g (.inl (by decide)) (ex_b _ e (ex_g (by omega) ?_)))
    generalize (2 * (Int.natAbs ns[k])) + (decide (ns[k] < ((0 : Nat) : Int))).toNat = rest0
    generalize decide ((2 * (10 ^ 18)) ≤ rest0) = great
    refine ex_e (foldO_ok (fun i (s : Nat × List Nat) => s.2.length = i ∧ ∀ (j x z : Nat), s.2[j]? = some x → sizes[j]? = some z → x < z) ⟨rfl, fun j x z h => by cases h⟩ fun i x s hx ⟨i1, i2⟩ => ?_) fun s ⟨s1, s2⟩ => ex_s ⟨by rw [s1, List.length_range], s2⟩
    obtain ⟨rfl, hi⟩ := range_at hx
    have em : ∀ a b : Nat, 0 < b → b < 2 ^ 64 → a % b < 2 ^ 64 := fun a b h1 h2 => Nat.lt_trans (Nat.mod_lt a h1) h2
    refine ex_e (A := fun _ => True) (ex_i (fun _ => ex_g (.inl (by decide)) (ex_g (.inr (by omega)) (ex_g (.inr (by decide)) (ex_g (.inl (by omega)) (ex_g (.inl (em _ _ (by decide) (by decide))) (ex_s trivial)))))) fun _ => ex_s trivial) fun v _ => ?_
    have ez : sizes[x]? = some sizes[x] := List.getElem?_eq_getElem hi
    have hp := hz _ (List.getElem_mem hi)
    have nxt : (s.2 ++ [v % sizes[x]]).length = x + 1 ∧ ∀ (j y z : Nat), (s.2 ++ [v % sizes[x]])[j]? = some y → sizes[j]? = some z → y < z := by
      refine ⟨by rw [List.length_append, i1]; rfl, fun j y z h1 h2 => ?_⟩
      by_cases q : j < s.2.length
      · rw [List.getElem?_append_left q] at h1
        exact i2 j y z h1 h2
      · rw [List.getElem?_append_right (by omega)] at h1
        have q2 := (List.getElem?_eq_some_iff.mp h1).1
        have q2 : j - s.2.length < 1 := q2
        have q3 : j = x := by omega
        subst q3
        rw [show j - s.2.length = 0 by omega] at h1
        cases h1
        rw [ez] at h2
        cases h2
        exact Nat.mod_lt _ hp.1
    exact ex_b _ ez (ex_g hp.1 (ex_g (by omega) (ex_i (fun _ => ex_b _ ez (ex_g hp (ex_s nxt))) fun _ => ex_s nxt)))
/-! ### the game: the foe shows places, the painter paints some of them -/
def Apart (b : Nat → Nat → Prop) (P : List Nat) : Prop := ∀ p ∈ P, ∀ q ∈ P, ¬ b p q
def nxt (s : Nat → Nat) (S P : List Nat) (p : Nat) : Nat := if p ∈ S then (if p ∈ P then 0 else s p - 1) else s p
/-- the painter is not beaten within n rounds -/
def Win (b : Nat → Nat → Prop) : Nat → (Nat → Nat) → Prop
  | 0, _ => True
  | n + 1, s => ∀ S : List Nat, S ≠ [] → (∀ p ∈ S, 0 < s p) → ∃ P : List Nat, (∀ p ∈ P, p ∈ S) ∧ Apart b P ∧ (∀ p ∈ S, p ∉ P → 2 ≤ s p) ∧ Win b n (nxt s S P)
section
variable {b b' : Nat → Nat → Prop} {s s' : Nat → Nat} {n : Nat}
theorem Win.anti : ∀ {n : Nat} {s : Nat → Nat}, Win b (n + 1) s → Win b n s
  | 0, _, _ => trivial
  | n + 1, s, h => fun S h1 h2 => by
    obtain ⟨P, p1, p2, p3, p4⟩ := h S h1 h2
    exact ⟨P, p1, p2, p3, Win.anti p4⟩
theorem Win.le {m : Nat} (h : Win b n s) (le : m ≤ n) : Win b m s := by
  induction n with
  | zero => rw [show m = 0 by omega]; trivial
  | succ n ih =>
    by_cases c : m = n + 1
    · rw [c]; exact h
    · exact ih h.anti (by omega)
/-- a part of the game, with more tokens and fewer ties -/
theorem Win.emb (f : Nat → Nat) : ∀ {n : Nat} {s s' : Nat → Nat}, (∀ i j, 0 < s' i → 0 < s' j → f i = f j → i = j) → (∀ i, s' i = 0 ∨ (0 < s (f i) ∧ s (f i) ≤ s' i)) → (∀ i j, 0 < s' i → 0 < s' j → b' i j → b (f i) (f j)) → Win b n s → Win b' n s'
  | 0, _, _, _, _, _, _ => trivial
  | n + 1, s, s', inj, le, hb, h => fun S h1 h2 => by
    have live : ∀ p ∈ S.map f, 0 < s p := fun p hp => by
      obtain ⟨i, hi, rfl⟩ := List.mem_map.mp hp
      rcases le i with e | e
      · have := h2 i hi; omega
      · exact e.1
    obtain ⟨P, p1, p2, p3, p4⟩ := h (S.map f) (by simpa using h1) live
    refine ⟨S.filter fun i => decide (f i ∈ P), fun p hp => (List.mem_filter.mp hp).1, fun p hp q hq z => ?_, fun p hp np => ?_, ?_⟩
    · have hp := List.mem_filter.mp hp
      have hq := List.mem_filter.mp hq
      exact p2 _ (of_decide_eq_true hp.2) _ (of_decide_eq_true hq.2) (hb _ _ (h2 _ hp.1) (h2 _ hq.1) z)
    · have n2 : f p ∉ P := fun z => np (List.mem_filter.mpr ⟨hp, decide_eq_true z⟩)
      have := p3 (f p) (List.mem_map.mpr ⟨p, hp, rfl⟩) n2
      have q := h2 p hp
      rcases le p with e | e <;> omega
    · have down : ∀ i, nxt s' S (S.filter fun i => decide (f i ∈ P)) i ≤ s' i := fun i => by
        unfold nxt
        split
        · split <;> omega
        · exact Nat.le_refl _
      refine Win.emb f (fun i j hi hj e => inj i j (Nat.lt_of_lt_of_le hi (down i)) (Nat.lt_of_lt_of_le hj (down j)) e) (fun i => ?_) (fun i j hi hj => hb i j (Nat.lt_of_lt_of_le hi (down i)) (Nat.lt_of_lt_of_le hj (down j))) p4
      unfold nxt
      by_cases hi : i ∈ S
      · rw [if_pos hi]
        by_cases hP : f i ∈ P
        · rw [if_pos (List.mem_filter.mpr ⟨hi, decide_eq_true hP⟩)]
          exact .inl rfl
        · have hP2 : i ∉ S.filter fun i => decide (f i ∈ P) := fun z => hP (of_decide_eq_true (List.mem_filter.mp z).2)
          rw [if_neg hP2, if_pos (List.mem_map.mpr ⟨i, hi, rfl⟩), if_neg hP]
          have := p3 (f i) (List.mem_map.mpr ⟨i, hi, rfl⟩) hP
          have q := h2 i hi
          rcases le i with e | e
          · omega
          · right; omega
      · rw [if_neg hi]
        rcases le i with e | e
        · exact .inl e
        · by_cases z0 : s' i = 0
          · exact .inl z0
          · rw [if_neg (fun z => by
              obtain ⟨j, hj, ej⟩ := List.mem_map.mp z
              have := inj j i (h2 j hj) (by omega) ej
              exact hi (this ▸ hj))]
            exact .inr e
theorem Win.mono (le : ∀ i, s' i = 0 ∨ (0 < s i ∧ s i ≤ s' i)) (hb : ∀ i j, 0 < s' i → 0 < s' j → b' i j → b i j) (h : Win b n s) : Win b' n s' := Win.emb id (fun _ _ _ _ e => e) le hb h
theorem Win.congr (h : Win b n s) (e : ∀ i, s i = s' i) : Win b n s' := by
  rw [← show s = s' from funext e]; exact h
def off (s : Nat → Nat) (p : Nat) (i : Nat) : Nat := if i = p then 0 else s i
theorem off_ne {i p : Nat} (h : i ≠ p) : off s p i = s i := if_neg h
theorem off_eq {p : Nat} : off s p p = 0 := if_pos rfl
theorem Win.offd (h : Win b n s) (p : Nat) : Win b n (off s p) := h.mono (fun i => by
  unfold off
  split
  · exact .inl rfl
  · by_cases c : s i = 0
    · exact .inl c
    · exact .inr (by omega)) fun _ _ _ _ h => h
theorem filter_lt {α : Type} {p q : α → Bool} {l : List α} (h : ∀ x ∈ l, p x = true → q x = true) {x : α} (hx : x ∈ l) (h1 : p x = false) (h2 : q x = true) : (l.filter p).length < (l.filter q).length := by
  induction l with
  | nil => cases hx
  | cons a l ih =>
    have le : ∀ l' : List α, (∀ x ∈ l', p x = true → q x = true) → (l'.filter p).length ≤ (l'.filter q).length := fun l' => by
      induction l' with
      | nil => intro _; exact Nat.le_refl _
      | cons c l' ih =>
        intro h
        have ih := ih fun x hx => h x (List.mem_cons_of_mem _ hx)
        have hc := h c List.mem_cons_self
        rw [List.filter_cons, List.filter_cons]
        by_cases c1 : p c = true
        · rw [if_pos c1, if_pos (hc c1)]
          simpa using ih
        · rw [if_neg c1]
          split
          · rw [List.length_cons]; omega
          · exact ih
    rw [List.filter_cons, List.filter_cons]
    rcases List.mem_cons.mp hx with rfl | hx
    · rw [if_neg (by rw [h1]; exact nofun), if_pos h2, List.length_cons]
      have := le l fun x hx => h x (List.mem_cons_of_mem _ hx)
      omega
    · have ih := ih (fun x hx => h x (List.mem_cons_of_mem _ hx)) hx
      have hc := h a List.mem_cons_self
      by_cases c1 : p a = true
      · rw [if_pos c1, if_pos (hc c1)]
        simpa using ih
      · rw [if_neg c1]
        split
        · rw [List.length_cons]; omega
        · exact ih
theorem filter_le {α : Type} {p q : α → Bool} {l : List α} (h : ∀ x ∈ l, p x = true → q x = true) : (l.filter p).length ≤ (l.filter q).length := by
  induction l with
  | nil => exact Nat.le_refl _
  | cons c l ih =>
    have ih := ih fun x hx => h x (List.mem_cons_of_mem _ hx)
    have hc := h c List.mem_cons_self
    rw [List.filter_cons, List.filter_cons]
    by_cases c1 : p c = true
    · rw [if_pos c1, if_pos (hc c1)]
      simpa using ih
    · rw [if_neg c1]
      split
      · rw [List.length_cons]; omega
      · exact ih
/-- a place with more tokens than ties to places that are left -/
theorem Win.safe {p : Nat} {N : List Nat} (sym : ∀ i j, b i j → b j i) (irr : ¬ b p p) (hN : ∀ q, b p q → q ∈ N) : ∀ {n : Nat} {s : Nat → Nat}, (N.filter fun q => decide (0 < s q)).length < s p → Win b n (off s p) → Win b n s
  | 0, _, _, _ => trivial
  | n + 1, s, lt, h => fun S h1 h2 => by
    by_cases hp : p ∈ S
    · -- p is shown
      by_cases h0 : (S.filter fun i => !decide (i = p)) = []
      · -- alone
        have al : ∀ i ∈ S, i = p := fun i hi => Decidable.byContradiction fun c => by
          have : i ∈ S.filter fun i => !decide (i = p) := List.mem_filter.mpr ⟨hi, by rw [decide_eq_false c]; rfl⟩
          rw [h0] at this
          cases this
        refine ⟨[p], fun q hq => (List.mem_singleton.mp hq) ▸ hp, fun q hq r hr z => ?_, fun q hq nq => absurd (List.mem_singleton.mpr (al q hq)) nq, ?_⟩
        · rw [List.mem_singleton.mp hq, List.mem_singleton.mp hr] at z
          exact irr z
        · refine (Win.anti h).congr fun i => ?_
          by_cases e : i = p
          · rw [e, off_eq]
            unfold nxt
            rw [if_pos hp, if_pos (List.mem_singleton.mpr rfl)]
          · rw [off_ne e]
            unfold nxt
            rw [if_neg (fun z => e (al i z))]
      · have live : ∀ q ∈ S.filter fun i => !decide (i = p), 0 < off s p q := fun q hq => by
          have hq := List.mem_filter.mp hq
          have ne : q ≠ p := fun z => by rw [decide_eq_true z] at hq; exact absurd hq.2 (by decide)
          unfold off
          rw [if_neg ne]
          exact h2 q hq.1
        obtain ⟨P, p1, p2, p3, p4⟩ := h _ h0 live
        have pS : ∀ q ∈ P, q ∈ S ∧ q ≠ p := fun q hq => by
          have hq := List.mem_filter.mp (p1 q hq)
          exact ⟨hq.1, fun z => by rw [decide_eq_true z] at hq; exact absurd hq.2 (by decide)⟩
        have offne : ∀ i, i ≠ p → off s p i = s i := fun i ne => by unfold off; rw [if_neg ne]
        by_cases hb : ∃ q ∈ P, b p q
        · obtain ⟨q, hq, bq⟩ := hb
          have bad : 0 < (N.filter fun q => decide (0 < s q)).length := by
            have : q ∈ N.filter fun q => decide (0 < s q) := List.mem_filter.mpr ⟨hN q bq, decide_eq_true (h2 q (pS q hq).1)⟩
            exact List.length_pos_of_mem this
          refine ⟨P, fun r hr => (pS r hr).1, p2, fun r hr nr => ?_, ?_⟩
          · by_cases e : r = p
            · rw [e]; omega
            · have := p3 r (List.mem_filter.mpr ⟨hr, by rw [decide_eq_false e]; rfl⟩) nr
              rw [offne r e] at this
              exact this
          · have np : p ∉ P := fun z => (pS p z).2 rfl
            refine Win.safe sym irr hN ?_ (p4.congr fun i => ?_)
            · have e1 : nxt s S P p = s p - 1 := by unfold nxt; rw [if_pos hp, if_neg np]
              rw [e1]
              have := filter_lt (p := fun r => decide (0 < nxt s S P r)) (q := fun r => decide (0 < s r)) (l := N) (x := q) (fun x _ hx => by
                have hx := of_decide_eq_true hx
                refine decide_eq_true ?_
                unfold nxt at hx
                split at hx
                · split at hx <;> omega
                · exact hx) (hN q bq) (by
                refine decide_eq_false ?_
                unfold nxt
                rw [if_pos (pS q hq).1, if_pos hq]
                omega) (decide_eq_true (h2 q (pS q hq).1))
              omega
            · by_cases e : i = p
              · rw [e, off_eq]
                unfold nxt
                rw [if_neg (fun z => by have z := List.mem_filter.mp z; rw [decide_eq_true rfl] at z; exact absurd z.2 (by decide)), off_eq]
              · rw [off_ne e]
                unfold nxt
                rw [off_ne e]
                by_cases hi : i ∈ S
                · rw [if_pos hi, if_pos (List.mem_filter.mpr ⟨hi, by rw [decide_eq_false e]; rfl⟩)]
                · rw [if_neg hi, if_neg (fun z => hi (List.mem_filter.mp z).1)]
        · refine ⟨p :: P, fun r hr => ?_, fun r hr q hq z => ?_, fun r hr nr => ?_, ?_⟩
          · rcases List.mem_cons.mp hr with rfl | hr
            · exact hp
            · exact (pS r hr).1
          · rcases List.mem_cons.mp hr with er | hr2
            · rcases List.mem_cons.mp hq with eq | hq2
              · exact irr (by rw [er, eq] at z; exact z)
              · exact hb ⟨q, hq2, er ▸ z⟩
            · rcases List.mem_cons.mp hq with eq | hq2
              · exact hb ⟨r, hr2, sym _ _ (eq ▸ z)⟩
              · exact p2 r hr2 q hq2 z
          · have ne : r ≠ p := fun z => nr (by rw [z]; exact List.mem_cons_self)
            have := p3 r (List.mem_filter.mpr ⟨hr, by rw [decide_eq_false ne]; rfl⟩) (fun z => nr (List.mem_cons_of_mem _ z))
            rw [offne r ne] at this
            exact this
          · refine p4.congr fun i => ?_
            unfold nxt
            by_cases e : i = p
            · rw [e]
              rw [if_neg (fun z => by have z := List.mem_filter.mp z; rw [decide_eq_true rfl] at z; exact absurd z.2 (by decide)), off_eq, if_pos hp, if_pos List.mem_cons_self]
            · rw [off_ne e]
              by_cases hi : i ∈ S
              · rw [if_pos hi, if_pos (List.mem_filter.mpr ⟨hi, by rw [decide_eq_false e]; rfl⟩)]
                by_cases hq : i ∈ P
                · rw [if_pos hq, if_pos (List.mem_cons_of_mem _ hq)]
                · rw [if_neg hq, if_neg (fun z => by
                    rcases List.mem_cons.mp z with z | z
                    · exact e z
                    · exact hq z)]
              · rw [if_neg hi, if_neg (fun z => hi (List.mem_filter.mp z).1)]
    · -- p is not shown
      have ne : ∀ q ∈ S, q ≠ p := fun q hq z => hp (z ▸ hq)
      obtain ⟨P, p1, p2, p3, p4⟩ := h S h1 (fun q hq => by unfold off; rw [if_neg (ne q hq)]; exact h2 q hq)
      refine ⟨P, p1, p2, fun r hr nr => ?_, ?_⟩
      · have := p3 r hr nr
        unfold off at this
        rw [if_neg (ne r hr)] at this
        exact this
      · refine Win.safe sym irr hN ?_ (p4.congr fun i => ?_)
        · have e1 : nxt s S P p = s p := by unfold nxt; rw [if_neg hp]
          rw [e1]
          refine Nat.lt_of_le_of_lt (filter_le fun x _ hx => ?_) lt
          have hx := of_decide_eq_true hx
          refine decide_eq_true ?_
          unfold nxt at hx
          split at hx
          · split at hx <;> omega
          · exact hx
        · by_cases e : i = p
          · rw [e, off_eq]
            unfold nxt
            rw [if_neg hp, off_eq]
          · rw [off_ne e]
            unfold nxt
            rw [off_ne e]
theorem Win.zero (h : ∀ i, s i = 0) : Win b n s := by
  cases n with
  | zero => exact trivial
  | succ n =>
    intro S h1 h2
    obtain ⟨p, hp⟩ := List.exists_mem_of_ne_nil _ h1
    have := h2 p hp
    rw [h p] at this
    omega
end
/-- the painter leads -/
def Led (b : Nat → Nat → Prop) (s : Nat → Nat) : Prop := ∀ n, Win b n s
/-! ### the game on lists of tokens -/
def tok (s : List Nat) (p : Nat) : Nat := s.getD p 0
theorem tok_at {s : List Nat} {p x : Nat} (h : s[p]? = some x) : tok s p = x := by
  unfold tok
  rw [List.getD_eq_getElem?_getD, h]
  rfl
theorem tok_get {s : List Nat} {p : Nat} (h : p < s.length) : s[p]? = some (tok s p) := by
  rw [List.getElem?_eq_getElem h, tok_at (List.getElem?_eq_getElem h)]
theorem tok_out {s : List Nat} {p : Nat} (h : s.length ≤ p) : tok s p = 0 := by
  unfold tok
  rw [List.getD_eq_getElem?_getD, List.getElem?_eq_none_iff.mpr h]
  rfl
theorem tok_lt {s : List Nat} {p : Nat} (h : 0 < tok s p) : p < s.length := Decidable.byContradiction fun c => by rw [tok_out (by omega)] at h; omega
theorem tok_set {s : List Nat} {p x i : Nat} (h : p < s.length) : tok (s.set p x) i = if i = p then x else tok s i := by
  unfold tok
  rw [List.getD_eq_getElem?_getD, List.getD_eq_getElem?_getD, List.getElem?_set]
  by_cases e : p = i
  · rw [if_pos e, if_pos h, if_pos e.symm]
    rfl
  · rw [if_neg e, if_neg (fun z => e z.symm)]
theorem sum_le_tok : ∀ {s t : List Nat}, t.length = s.length → (∀ i, tok t i ≤ tok s i) → t.sum ≤ s.sum
  | [], [], _, _ => Nat.le_refl _
  | [], _ :: _, h, _ => by cases h
  | _ :: _, [], h, _ => by cases h
  | a :: s, b :: t, h, q => by
    have h1 : b ≤ a := q 0
    have h2 := sum_le_tok (s := s) (t := t) (by simpa using h) fun i => q (i + 1)
    rw [List.sum_cons, List.sum_cons]
    omega
theorem sum_lt_tok : ∀ {s t : List Nat}, t.length = s.length → (∀ i, tok t i ≤ tok s i) → (∃ i, tok t i < tok s i) → t.sum < s.sum
  | [], [], _, _, ⟨i, h⟩ => absurd h (Nat.lt_irrefl _)
  | [], _ :: _, h, _, _ => by cases h
  | _ :: _, [], h, _, _ => by cases h
  | a :: s, b :: t, h, q, ⟨i, hi⟩ => by
    have h1 : b ≤ a := q 0
    have hl : t.length = s.length := by simpa using h
    rw [List.sum_cons, List.sum_cons]
    cases i with
    | zero =>
      have h0 : b < a := hi
      have h2 := sum_le_tok (s := s) (t := t) hl fun i => q (i + 1)
      omega
    | succ i =>
      have h2 := sum_lt_tok (s := s) (t := t) hl (fun i => q (i + 1)) ⟨i, hi⟩
      omega
theorem sum_tok0 {s : List Nat} (h : s.sum = 0) (i : Nat) : tok s i = 0 := by
  induction s generalizing i with
  | nil => rfl
  | cons a s ih =>
    rw [List.sum_cons] at h
    cases i with
    | zero => show a = 0; omega
    | succ i => exact ih (by omega) i
theorem tok_le_sum {s : List Nat} (i : Nat) : tok s i ≤ s.sum := by
  induction s generalizing i with
  | nil => exact Nat.le_refl _
  | cons a s ih =>
    rw [List.sum_cons]
    cases i with
    | zero => show a ≤ _; omega
    | succ i => exact Nat.le_trans (ih i) (by omega)
/-- after a round -/
def aft (s S P : List Nat) : List Nat := S.foldl (fun t p => t.set p (if p ∈ P then 0 else tok t p - 1)) s
theorem aft_len (S P : List Nat) : ∀ s : List Nat, (aft s S P).length = s.length := by
  induction S with
  | nil => intro s; rfl
  | cons p S ih => intro s; show (aft _ S P).length = _; rw [ih, List.length_set]
theorem aft_tok (P : List Nat) : ∀ {S s : List Nat}, S.Nodup → (∀ p ∈ S, p < s.length) → ∀ i, tok (aft s S P) i = nxt (tok s) S P i
  | [], s, _, _, i => rfl
  | p :: S, s, nd, h, i => by
    rw [List.nodup_cons] at nd
    have hp := h p List.mem_cons_self
    show tok (aft (s.set p _) S P) i = _
    rw [aft_tok P nd.2 (fun q hq => by rw [List.length_set]; exact h q (List.mem_cons_of_mem _ hq)) i]
    unfold nxt
    rw [tok_set hp]
    by_cases e : i = p
    · rw [e, if_neg nd.1, if_pos rfl, if_pos List.mem_cons_self]
    · rw [if_neg e]
      by_cases hi : i ∈ S
      · rw [if_pos hi, if_pos (List.mem_cons_of_mem _ hi)]
      · rw [if_neg hi, if_neg (fun z => by
          rcases List.mem_cons.mp z with z | z
          · exact e z
          · exact hi z)]
theorem nxt_le (s : Nat → Nat) (S P : List Nat) (i : Nat) : nxt s S P i ≤ s i := by
  unfold nxt
  split
  · split <;> omega
  · exact Nat.le_refl _
theorem aft_sum {s S P : List Nat} (nd : S.Nodup) (ne : S ≠ []) (h : ∀ p ∈ S, 0 < tok s p) : (aft s S P).sum < s.sum := by
  have lt : ∀ p ∈ S, p < s.length := fun p hp => tok_lt (h p hp)
  refine sum_lt_tok (aft_len S P s) (fun i => by rw [aft_tok P nd lt]; exact nxt_le _ _ _ _) ?_
  obtain ⟨p, hp⟩ := List.exists_mem_of_ne_nil _ ne
  refine ⟨p, ?_⟩
  rw [aft_tok P nd lt]
  have := h p hp
  unfold nxt
  rw [if_pos hp]
  split <;> omega
section
variable {b : Nat → Nat → Prop}
theorem nxt_congr {s : Nat → Nat} {S S' P P' : List Nat} (h : ∀ p, p ∈ S ↔ p ∈ S') (h2 : ∀ p, p ∈ S → (p ∈ P ↔ p ∈ P')) (i : Nat) : nxt s S P i = nxt s S' P' i := by
  unfold nxt
  by_cases c : i ∈ S
  · rw [if_pos c, if_pos ((h i).mp c)]
    by_cases d : i ∈ P
    · rw [if_pos d, if_pos ((h2 i c).mp d)]
    · rw [if_neg d, if_neg (fun z => d ((h2 i c).mpr z))]
  · rw [if_neg c, if_neg (fun z => c ((h i).mpr z))]
/-- enough rounds -/
theorem Win.stab : ∀ {n : Nat} {s : List Nat}, s.sum ≤ n → Win b n (tok s) → Win b (n + 1) (tok s)
  | 0, s, h, _ => Win.zero fun i => sum_tok0 (by omega) i
  | n + 1, s, h, w => fun S h1 h2 => by
    -- S without repetitions
    let S' := (List.range s.length).filter fun p => decide (p ∈ S)
    have mem : ∀ p, p ∈ S' ↔ p ∈ S := fun p => ⟨fun z => of_decide_eq_true (List.mem_filter.mp z).2, fun z => List.mem_filter.mpr ⟨List.mem_range.mpr (tok_lt (h2 p z)), decide_eq_true z⟩⟩
    have nd : S'.Nodup := List.nodup_range.filter _
    have ne : S' ≠ [] := fun z => by
      obtain ⟨p, hp⟩ := List.exists_mem_of_ne_nil _ h1
      have := (mem p).mpr hp
      rw [z] at this
      cases this
    have live : ∀ p ∈ S', 0 < tok s p := fun p hp => h2 p ((mem p).mp hp)
    obtain ⟨P, p1, p2, p3, p4⟩ := w S h1 h2
    refine ⟨P, p1, p2, p3, ?_⟩
    have e : ∀ i, tok (aft s S' P) i = nxt (tok s) S P i := fun i => by
      rw [aft_tok P nd (fun p hp => tok_lt (live p hp))]
      exact nxt_congr mem (fun _ _ => Iff.rfl) i
    have lt := aft_sum (P := P) nd ne live
    exact (Win.stab (s := aft s S' P) (by omega) (p4.congr fun i => (e i).symm)).congr e
theorem Led.of {n : Nat} {s : List Nat} (h : s.sum ≤ n) (w : Win b n (tok s)) : Led b (tok s) := fun m => by
  by_cases c : m ≤ n
  · exact w.le c
  · have : ∀ k, Win b (n + k) (tok s) := fun k => by
      induction k with
      | zero => exact w
      | succ k ih => exact ih.stab (Nat.le_trans h (Nat.le_add_right n k))
    have := this (m - n)
    rw [show n + (m - n) = m by omega] at this
    exact this
end
/-- all lists of some places, in their order -/
def subs (l : List Nat) : List (List Nat) := l.foldl (fun rows p => rows ++ rows.map fun r => r ++ [p]) [[]]
theorem subs_gen : ∀ (l : List Nat) (R : List (List Nat)) (x : List Nat), x ∈ l.foldl (fun rows p => rows ++ rows.map fun r => r ++ [p]) R ↔ ∃ r ∈ R, ∃ t, t.Sublist l ∧ x = r ++ t
  | [], R, x => ⟨fun h => ⟨x, h, [], List.Sublist.refl _, (List.append_nil x).symm⟩, fun ⟨r, hr, t, ht, e⟩ => by rw [e, List.eq_nil_of_sublist_nil ht, List.append_nil]; exact hr⟩
  | p :: l, R, x => by
    rw [List.foldl_cons, subs_gen l]
    constructor
    · rintro ⟨r, hr, t, ht, rfl⟩
      rcases List.mem_append.mp hr with h | h
      · exact ⟨r, h, t, ht.cons p, rfl⟩
      · obtain ⟨r', h', rfl⟩ := List.mem_map.mp h
        exact ⟨r', h', p :: t, ht.cons_cons p, by simp⟩
    · rintro ⟨r, hr, t, ht, rfl⟩
      cases ht with
      | cons _ ht => exact ⟨r, List.mem_append_left _ hr, t, ht, rfl⟩
      | cons_cons _ ht => exact ⟨r ++ [p], List.mem_append_right _ (List.mem_map.mpr ⟨r, hr, rfl⟩), _, ht, by simp⟩
theorem mem_subs {l x : List Nat} : x ∈ subs l ↔ x.Sublist l := by
  unfold subs
  rw [subs_gen]
  constructor
  · rintro ⟨r, hr, t, ht, rfl⟩
    rw [List.mem_singleton.mp hr]
    exact ht
  · intro h
    exact ⟨[], List.mem_singleton.mpr rfl, x, h, rfl⟩
theorem subs_len : ∀ (l : List Nat) (R : List (List Nat)), (l.foldl (fun rows p => rows ++ rows.map fun r => r ++ [p]) R).length = R.length * 2 ^ l.length
  | [], R => by simp
  | p :: l, R => by
    rw [List.foldl_cons, subs_len l, List.length_append, List.length_map, List.length_cons, Nat.pow_succ]
    rw [← Nat.two_mul, Nat.mul_comm 2, Nat.mul_assoc, Nat.mul_comm 2]
theorem filter_subs {l S : List Nat} : (l.filter fun p => decide (p ∈ S)) ∈ subs l := mem_subs.mpr List.filter_sublist
/-! ### the game's functions -/
theorem bind_of {α β : Type} {m : Option α} {k : α → Option β} {a : α} {r : Option β} (h : m = some a) (q : k a = r) : m.bind k = r := by rw [h]; exact q
abbrev rb (e : Rel) (p q : Nat) : Prop := e p q = true
/-! ### the game's functions -/
theorem subs_snoc (l : List Nat) (x : Nat) : subs (l ++ [x]) = subs l ++ (subs l).map fun r => r ++ [x] := by
  unfold subs
  rw [List.foldl_append]
  rfl
theorem subsets_ok {l : List Nat} (h : l.length ≤ 8) : f_subsets l = some (subs l) := by
  have : ∃ r, f_subsets l = some r ∧ r = subs l := by
    unfold f_subsets
    refine ex_e (foldO_ok (fun i (s : List (List Nat)) => s = subs (l.take i)) rfl fun i x s hx hi => ?_) fun s hs => ex_s (by rw [List.take_length] at hs; exact hs)
    have hil := (List.getElem?_eq_some_iff.mp hx).1
    have zr : ∀ r ∈ s, r.length ≤ 8 := fun r hr => by
      rw [hi] at hr
      have := (mem_subs.mp hr).length_le
      rw [List.length_take] at this
      omega
    have zs : s.length ≤ 2 ^ 8 := by
      rw [hi]
      unfold subs
      rw [subs_len, List.length_take, List.length_singleton, Nat.one_mul]
      exact Nat.pow_le_pow_right (by decide) (by omega)
    refine ex_b (s.map fun r => r ++ [x]) (compO_all fun r hr => ?_) (ex_g (by rw [List.length_map]; omega) (ex_g (by rw [List.length_map]; omega) (ex_s ?_)))
    · have := zr r hr
      show (gd (r.length + 1 ≤ 100000)).bind _ = _
      rw [gd_true (by omega)]
      rfl
    · rw [take_snoc hx, subs_snoc, hi]
  obtain ⟨r, e, rfl⟩ := this
  exact e
theorem apart_ok {n : Nat} {e : Rel} {P : List Nat} (hP : ∀ p ∈ P, p < n) : ∃ r, f_are_apart (nbs n e) P = some r ∧ (r = true ↔ Apart (rb e) P) := by
  unfold f_are_apart
  refine ex_e (loopO_cases (fun i (_ : Unit) => ∀ p ∈ P.take i, ∀ q ∈ P, ¬ rb e p q) (fun p hp => by simp at hp) (fun o => match o with
    | .nx _ => Apart (rb e) P
    | .rt t => t = false ∧ ¬ Apart (rb e) P
    | .bk _ => False) (fun i x s hx hi => ?_) fun s hs => by rw [List.take_length] at hs; exact hs) fun o ho => ?_
  · have hxm := List.mem_of_getElem? hx
    have hxn := hP x hxm
    obtain ⟨o, eo, ho⟩ := loopO_cases (body := fun (s21 : Unit) (x22 : Nat) =>
      ((nbs n e)[x]?).bind fun x37 =>
      if (decide (x22 ∈ x37)) = true then
        some (Stp.rt (T := Bool) false)
      else
        some (Stp.nx ())) (s0 := ()) (fun j (_ : Unit) => ∀ q ∈ P.take j, ¬ rb e x q) (fun q hq => by simp at hq) (fun o => match o with
      | .nx _ => ∀ q ∈ P, ¬ rb e x q
      | .rt t => t = false ∧ ∃ q ∈ P, rb e x q
      | .bk _ => False) (xs := P) (fun j y s hy hj => by
        have hym := List.mem_of_getElem? hy
        by_cases c : rb e x y
        · refine .inr (.inr ⟨false, ?_, rfl, y, hym, c⟩)
          rw [nbs_at hxn]
          show (if decide (y ∈ nb n e x) = true then _ else _) = _
          rw [if_pos (decide_eq_true (mem_nb.mpr ⟨hP y hym, c⟩))]
        · refine .inl ⟨(), ?_, fun q hq => ?_⟩
          · rw [nbs_at hxn]
            show (if decide (y ∈ nb n e x) = true then _ else _) = _
            rw [if_neg (fun z => c (mem_nb.mp (of_decide_eq_true z)).2)]
          · rw [take_snoc hy, mem_snoc] at hq
            rcases hq with hq | rfl
            · exact hj q hq
            · exact c) (fun s hs => by rw [List.take_length] at hs; exact hs)
    cases o with
    | nx _ =>
      refine .inl ⟨(), ?_, fun p hp => ?_⟩
      · exact bind_of eo rfl
      · rw [take_snoc hx, mem_snoc] at hp
        rcases hp with hp | rfl
        · exact hi p hp
        · exact ho
    | rt t =>
      obtain ⟨rfl, q, hq, bq⟩ := ho
      exact .inr (.inr ⟨false, bind_of eo rfl, rfl, fun a => a x hxm q hq bq⟩)
    | bk _ => exact ho.elim
  · cases o with
    | nx _ => exact ⟨true, rfl, fun _ => ho, fun _ => rfl⟩
    | rt t => obtain ⟨rfl, h⟩ := ho; exact ⟨false, rfl, (fun z => by cases z), fun a => absurd a h⟩
    | bk _ => exact ho.elim
theorem aft_snoc (s S P : List Nat) (x : Nat) : aft s (S ++ [x]) P = (aft s S P).set x (if x ∈ P then 0 else tok (aft s S P) x - 1) := by
  unfold aft
  rw [List.foldl_append]
  rfl
/-- no shown place that is not painted loses its last token -/
def Lives (s S P : List Nat) : Prop := ∀ p ∈ S, p ∉ P → 2 ≤ tok s p
theorem after_ok {s S P : List Nat} (nd : S.Nodup) (h : ∀ p ∈ S, 0 < tok s p) : ∃ o, f_after_round s S P = some o ∧ ((o = some (aft s S P) ∧ Lives s S P) ∨ (o = none ∧ ¬ Lives s S P)) := by
  unfold f_after_round
  refine ex_e (loopO_cases (fun i (t : List Nat) => t = aft s (S.take i) P ∧ ∀ p ∈ S.take i, p ∉ P → 2 ≤ tok s p) ⟨rfl, fun p hp => by simp at hp⟩ (fun (o : Stp (List Nat) (Option (List Nat))) => match o with
    | .nx t => t = aft s S P ∧ Lives s S P
    | .rt t => t = none ∧ ¬ Lives s S P
    | .bk _ => False) (fun i x t hx ⟨i1, i2⟩ => ?_) fun t ht => by rw [List.take_length] at ht; exact ht) fun o ho => ?_
  · have hxm := List.mem_of_getElem? hx
    have hx0 := h x hxm
    have hxl : x < s.length := tok_lt hx0
    have zl : t.length = s.length := by rw [i1, aft_len]
    have nx : x ∉ S.take i := fun z => by
      have nd2 : (S.take (i + 1)).Nodup := nd.sublist (List.take_sublist (i + 1) S)
      rw [take_snoc hx] at nd2
      exact (List.nodup_append.mp nd2).2.2 x z x (List.mem_singleton.mpr rfl) rfl
    have e0 : tok t x = tok s x := by
      have q := aft_tok (s := s) (S := S.take i) P (nd.sublist (List.take_sublist i S)) (fun p hp => tok_lt (h p (List.mem_of_mem_take hp))) x
      unfold nxt at q
      rw [if_neg nx] at q
      rw [i1]
      exact q
    by_cases c : x ∈ P
    · refine .inl ⟨t.set x 0, ?_, ?_, fun p hp np => ?_⟩
      · rw [if_pos (decide_eq_true c)]
        exact bind_of (gd_true (by omega)) rfl
      · rw [take_snoc hx, aft_snoc, if_pos c, i1]
      · rw [take_snoc hx, mem_snoc] at hp
        rcases hp with hp | rfl
        · exact i2 p hp np
        · exact absurd c np
    · have et : t[x]? = some (tok t x) := tok_get (by omega)
      by_cases c1 : tok t x = 1
      · refine .inr (.inr ⟨none, ?_, rfl, fun z => ?_⟩)
        · rw [if_neg (by rw [decide_eq_false c]; decide), et]
          refine bind_of rfl ?_
          rw [if_pos (decide_eq_true c1)]
        · have := z x hxm c
          omega
      · refine .inl ⟨t.set x (tok t x - 1), ?_, ?_, fun p hp np => ?_⟩
        · rw [if_neg (by rw [decide_eq_false c]; decide), et]
          refine bind_of rfl ?_
          rw [if_neg (by rw [decide_eq_false c1]; decide)]
          refine bind_of rfl ?_
          exact bind_of (gd_true (by omega)) (bind_of (gd_true (by omega)) rfl)
        · rw [take_snoc hx, aft_snoc, if_neg c, ← i1]
        · rw [take_snoc hx, mem_snoc] at hp
          rcases hp with hp | rfl
          · exact i2 p hp np
          · omega
  · cases o with
    | nx t => obtain ⟨rfl, q⟩ := ho; exact ⟨_, rfl, .inl ⟨rfl, q⟩⟩
    | rt t => obtain ⟨rfl, q⟩ := ho; exact ⟨_, rfl, .inr ⟨rfl, q⟩⟩
    | bk _ => exact ho.elim
/-- how many places are left -/
def cnt (n : Nat) (t : List Nat) : Nat := ((List.range n).filter fun q => decide (0 < tok t q)).length
theorem cnt_le (n : Nat) (t : List Nat) : cnt n t ≤ n := by
  have := List.length_filter_le (fun q => decide (0 < tok t q)) (List.range n)
  rw [List.length_range] at this
  exact this
/-- some places gone, as the painter can do without harm -/
structure Safe (e : Rel) (s t : List Nat) : Prop where
  len : t.length = s.length
  or : ∀ p, tok t p = 0 ∨ tok t p = tok s p
  win : ∀ n, Win (rb e) n (tok t) → Win (rb e) n (tok s)
theorem Safe.refl {e : Rel} {s : List Nat} : Safe e s s := ⟨rfl, fun _ => .inr rfl, fun _ h => h⟩
theorem Safe.fwd {e : Rel} {s t : List Nat} (h : Safe e s t) {n : Nat} (w : Win (rb e) n (tok s)) : Win (rb e) n (tok t) := w.mono (fun i => by
  rcases h.or i with z | z
  · exact .inl z
  · by_cases c : tok t i = 0
    · exact .inl c
    · exact .inr (by omega)) fun _ _ _ _ h => h
theorem Safe.sum {e : Rel} {s t : List Nat} (h : Safe e s t) : t.sum ≤ s.sum := sum_le_tok h.len fun i => by
  rcases h.or i with z | z <;> omega
theorem Safe.step {n : Nat} {e : Rel} (g : Gr n e) {s t : List Nat} {p : Nat} (h : Safe e s t) (hp : p < t.length) (lt : ((nb n e p).filter fun q => decide (0 < tok t q)).length < tok t p) : Safe e s (t.set p 0) := by
  refine ⟨by rw [List.length_set]; exact h.len, fun q => ?_, fun m w => h.win m ?_⟩
  · rw [tok_set hp]
    split
    · exact .inl rfl
    · exact h.or q
  · refine Win.safe (b := rb e) (p := p) (N := nb n e p) (fun i j z => by show e j i = true; rw [g.sym]; exact z) (by show ¬ e p p = true; rw [g.irr]; decide) (fun q hq => mem_nb.mpr ⟨g.lt2 hq, hq⟩) lt (w.congr fun i => ?_)
    rw [tok_set hp]
    rfl
theorem safe_ok {n : Nat} {e : Rel} (g : Gr n e) (hn : n ≤ 100) {s : List Nat} (hs : s.length = n) : ∃ t, f_without_safe (nbs n e) s = some t ∧ Safe e s t := by
  unfold f_without_safe
  refine ex_w (fun t => Safe e s t.2) (fun t => if t.1 = true then cnt n t.2 + 1 else 0) Safe.refl (by
      have := cnt_le n s
      show (if true = true then cnt n s + 1 else 0) < 100000
      rw [if_pos rfl]
      omega) (fun t it => ⟨_, rfl, fun hb => ?_⟩) fun t it _ => ex_s it
  have hb : t.1 = true := hb
  have tl : t.2.length = n := by rw [it.len, hs]
  rw [hb]
  refine ex_e (foldO_ok (fun i (u : Bool × List Nat) => Safe e s u.2 ∧ u.2.length = n ∧ (∀ p, i ≤ p → tok u.2 p = tok t.2 p) ∧ (u.1 = true → cnt n u.2 < cnt n t.2) ∧ cnt n u.2 ≤ cnt n t.2) ⟨it, tl, fun _ _ => rfl, (fun z => by cases z), Nat.le_refl _⟩ fun i x u hx ⟨u1, u2, u3, u4, u5⟩ => ?_) fun u ⟨u1, u2, u3, u4, u5⟩ => ex_s ⟨u1, ?_⟩
  · have hi := (List.getElem?_eq_some_iff.mp hx).1
    rw [enumL_len] at hi
    have ex := enumL_get (tok_get hi)
    rw [ex] at hx
    have hx := (Option.some.inj hx).symm
    subst hx
    show ∃ r, ((nbs n e)[i]?).bind _ = some r ∧ _
    refine ex_b _ (nbs_at (by omega)) (ex_b _ (compO_filter (g := fun q => decide (0 < tok u.2 q)) fun q hq => ?_) (ex_g ?_ (ex_i (fun c => ?_) fun c => ex_s ⟨u1, u2, fun p hp => u3 p (by omega), u4, u5⟩)))
    · rw [tok_get (by rw [u2]; exact (mem_nb.mp hq).1)]
      show (if decide (0 < tok u.2 q) = true then _ else _) = _
      cases decide (0 < tok u.2 q) <;> rfl
    · have := List.length_filter_le (fun q => decide (0 < tok u.2 q)) (nb n e i)
      have := nb_len n e i
      omega
    · have c := of_decide_eq_true c
      have ei : tok u.2 i = tok t.2 i := u3 i (Nat.le_refl _)
      have c2 : ((nb n e i).filter fun q => decide (0 < tok u.2 q)).length < tok u.2 i := by rw [ei]; exact c
      have lt : cnt n (u.2.set i 0) < cnt n u.2 := by
        refine filter_lt (x := i) (fun q _ hq => ?_) (List.mem_range.mpr (by omega)) ?_ (decide_eq_true (by omega))
        · have hq := of_decide_eq_true hq
          rw [tok_set (by omega)] at hq
          split at hq
          · omega
          · exact decide_eq_true hq
        · rw [tok_set (by omega), if_pos rfl]
          rfl
      refine ex_g (by show i < u.2.length; omega) (ex_s ⟨u1.step g (by omega) c2, by rw [List.length_set]; exact u2, fun p hp => ?_, fun _ => by show cnt n (u.2.set i 0) < _; omega, by show cnt n (u.2.set i 0) ≤ _; omega⟩)
      show tok (u.2.set i 0) p = _
      rw [tok_set (by omega), if_neg (by omega)]
      exact u3 p (by omega)
  · show (if u.1 = true then cnt n u.2 + 1 else 0) < (if true = true then cnt n t.2 + 1 else 0)
    rw [if_pos rfl]
    split
    · rename_i z
      have := u4 z
      omega
    · omega
/-! ### dicts of states -/
theorem dgetT_mem {β : Type} {d : List (List Nat × β)} {k : List Nat} : (dgetT d k).isSome = true ↔ k ∈ d.map (·.1) := by
  induction d with
  | nil => exact ⟨(fun z => by cases z), fun z => by cases z⟩
  | cons p d ih =>
    unfold dgetT
    by_cases e : p.1 = k
    · rw [if_pos e]
      exact ⟨fun _ => by rw [List.map_cons, e]; exact List.mem_cons_self, fun _ => rfl⟩
    · rw [if_neg e, ih, List.map_cons, List.mem_cons]
      exact ⟨.inr, fun h => h.resolve_left fun z => e z.symm⟩
theorem dgetT_app {β : Type} {k j : List Nat} {v : β} : ∀ {d : List (List Nat × β)}, k ∉ d.map (·.1) → dgetT (d ++ [(k, v)]) j = if j = k then some v else dgetT d j
  | [], _ => by
    show dgetT [(k, v)] j = _
    unfold dgetT
    by_cases e : k = j
    · rw [if_pos e, if_pos e.symm]
    · rw [if_neg e, if_neg (fun z => e z.symm)]
      rfl
  | p :: d, h => by
    rw [List.map_cons, List.mem_cons] at h
    have ih := dgetT_app (k := k) (j := j) (v := v) (d := d) fun z => h (.inr z)
    show dgetT (p :: (d ++ [(k, v)])) j = _
    rw [dgetT, ih]
    conv => rhs; rw [dgetT]
    by_cases e : p.1 = j
    · rw [if_pos e, if_pos e, if_neg (fun z => h (.inl (by rw [e, z])))]
    · rw [if_neg e, if_neg e]
theorem dgetT_map {β : Type} {k j : List Nat} {v : β} : ∀ {d : List (List Nat × β)}, dgetT (d.map fun p => if p.1 = k then (p.1, v) else p) j = if j = k then (dgetT d j).map fun _ => v else dgetT d j
  | [] => by
    show none = _
    split <;> rfl
  | p :: d => by
    have ih := dgetT_map (k := k) (j := j) (v := v) (d := d)
    rw [List.map_cons, dgetT, ih]
    conv => rhs; rw [dgetT]
    by_cases e : p.1 = j
    · by_cases e2 : p.1 = k
      · rw [if_pos e2, if_pos (show (p.1, v).1 = j from e), if_pos (show j = k by rw [← e, e2]), if_pos e]
        rfl
      · rw [if_neg e2, if_pos e, if_neg (fun z => e2 (by rw [e, z])), if_pos e]
    · by_cases e2 : p.1 = k
      · rw [if_pos e2, if_neg (show ¬ (p.1, v).1 = j from e), if_neg e]
      · rw [if_neg e2, if_neg e, if_neg e]
theorem any_mem {β : Type} {d : List (List Nat × β)} {k : List Nat} : (d.any fun p => decide (p.1 = k)) = true ↔ k ∈ d.map (·.1) := by
  rw [List.any_eq_true, List.mem_map]
  exact ⟨fun ⟨p, h, e⟩ => ⟨p, h, of_decide_eq_true e⟩, fun ⟨p, h, e⟩ => ⟨p, h, decide_eq_true e⟩⟩
theorem dgetT_put {β : Type} {d : List (List Nat × β)} {k j : List Nat} {v : β} : dgetT (dputT d k v) j = if j = k then some v else dgetT d j := by
  unfold dputT
  by_cases c : k ∈ d.map (·.1)
  · rw [if_pos (any_mem.mpr c), dgetT_map]
    split
    · rename_i e
      subst e
      have := dgetT_mem.mpr c
      cases h : dgetT d j with
      | none => rw [h] at this; cases this
      | some x => rfl
    · rfl
  · rw [if_neg (fun z => c (any_mem.mp z)), dgetT_app c]
theorem keys_put {β : Type} {d : List (List Nat × β)} {k : List Nat} {v : β} : (dputT d k v).map (·.1) = if k ∈ d.map (·.1) then d.map (·.1) else d.map (·.1) ++ [k] := by
  unfold dputT
  by_cases c : k ∈ d.map (·.1)
  · rw [if_pos (any_mem.mpr c), if_pos c, List.map_map]
    refine List.map_congr_left fun p _ => ?_
    show (if p.1 = k then (p.1, v) else p).1 = p.1
    split <;> rfl
  · rw [if_neg (fun z => c (any_mem.mp z)), if_neg c, List.map_append]
    rfl
/-! ### what the dict of decided states knows -/
structure Kn (n c : Nat) (e : Rel) (N : Nat) (d : List (List Nat × Bool)) : Prop where
  nd : (d.map (·.1)).Nodup
  key : ∀ k ∈ d.map (·.1), k.length = n ∧ ∀ x ∈ k, x ≤ c
  ok : ∀ k v, dgetT d k = some v → k.sum < N → (v = true ↔ Led (rb e) (tok k))
def Fr (N : Nat) (d d' : List (List Nat × Bool)) : Prop := ∀ k, N ≤ k.sum → dgetT d' k = dgetT d k
theorem Fr.refl {N : Nat} {d : List (List Nat × Bool)} : Fr N d d := fun _ _ => rfl
theorem Fr.trans {N M L : Nat} {d d' d'' : List (List Nat × Bool)} (h : Fr N d d') (h2 : Fr M d' d'') (l1 : N ≤ L) (l2 : M ≤ L) : Fr L d d'' := fun k hk => (h2 k (by omega)).trans (h k (by omega))
theorem Kn.nil {n c : Nat} {e : Rel} {N : Nat} : Kn n c e N [] := ⟨List.nodup_nil, (fun k h => by cases h), fun k v h => by cases h⟩
theorem Kn.mono {n c : Nat} {e : Rel} {N M : Nat} {d : List (List Nat × Bool)} (h : Kn n c e N d) (l : M ≤ N) : Kn n c e M d := ⟨h.nd, h.key, fun k v q z => h.ok k v q (by omega)⟩
theorem Kn.join {n c : Nat} {e : Rel} {N M : Nat} {d d' : List (List Nat × Bool)} (h : Kn n c e M d') (f : Fr M d d') (k : Kn n c e N d) : Kn n c e N d' := ⟨h.nd, h.key, fun j v q z => by
  by_cases l : j.sum < M
  · exact h.ok j v q l
  · rw [f j (by omega)] at q
    exact k.ok j v q z⟩
/-- all lists of so many numbers up to c -/
def allS (c : Nat) : Nat → List (List Nat)
  | 0 => [[]]
  | n + 1 => (List.range (c + 1)).flatMap fun x => (allS c n).map fun r => x :: r
theorem allS_len (c : Nat) : ∀ n, (allS c n).length = (c + 1) ^ n
  | 0 => rfl
  | n + 1 => by
    unfold allS
    rw [List.length_flatMap]
    have : ((List.range (c + 1)).map fun x => ((allS c n).map fun r => x :: r).length) = List.replicate (c + 1) ((c + 1) ^ n) := by
      refine List.eq_replicate_iff.mpr ⟨by rw [List.length_map, List.length_range], fun y hy => ?_⟩
      obtain ⟨x, _, rfl⟩ := List.mem_map.mp hy
      rw [List.length_map, allS_len c n]
    rw [this, List.sum_replicate_nat, Nat.pow_succ, Nat.mul_comm]
theorem mem_allS {c : Nat} : ∀ {n : Nat} {k : List Nat}, k.length = n → (∀ x ∈ k, x ≤ c) → k ∈ allS c n
  | 0, [], _, _ => List.mem_singleton.mpr rfl
  | n + 1, x :: k, h, q => by
    unfold allS
    refine List.mem_flatMap.mpr ⟨x, List.mem_range.mpr (by have := q x List.mem_cons_self; omega), List.mem_map.mpr ⟨k, mem_allS (by simpa using h) fun y hy => q y (List.mem_cons_of_mem _ hy), rfl⟩⟩
theorem Kn.len {n c : Nat} {e : Rel} {N : Nat} {d : List (List Nat × Bool)} (h : Kn n c e N d) : d.length ≤ (c + 1) ^ n := by
  have := nd_sub_len (m := allS c n) h.nd fun k hk => mem_allS (h.key k hk).1 (h.key k hk).2
  rw [List.length_map, allS_len] at this
  exact this
theorem Kn.put {n c : Nat} {e : Rel} {N : Nat} {d : List (List Nat × Bool)} {s : List Nat} {v : Bool} (h : Kn n c e N d) (hs : s.length = n) (hc : ∀ x ∈ s, x ≤ c) (hv : s.sum < N → (v = true ↔ Led (rb e) (tok s))) : Kn n c e N (dputT d s v) := by
  refine ⟨?_, fun k hk => ?_, fun k w hk hl => ?_⟩
  · rw [keys_put]
    split
    · exact h.nd
    · rename_i z
      exact nodup_snoc h.nd z
  · rw [keys_put] at hk
    split at hk
    · exact h.key k hk
    · rcases mem_snoc.mp hk with hk | rfl
      · exact h.key k hk
      · exact ⟨hs, hc⟩
  · rw [dgetT_put] at hk
    split at hk
    · rename_i z
      cases hk
      rw [z] at hl ⊢
      exact hv hl
    · exact h.ok k w hk hl
theorem srtD_perm {α : Type} (d : α → PyData) (l : List α) : (srtD d l).Perm l := List.mergeSort_perm ..
theorem mem_srtD {α : Type} {d : α → PyData} {l : List α} {x : α} : x ∈ srtD d l ↔ x ∈ l := (srtD_perm d l).mem_iff
/-! ### the search for paintings -/
def lng (S : List Nat) : List (List Nat) := srtD (keyNeg dtN) (subs S)
def sht (S : List Nat) : List (List Nat) := srtD (keyLen dtN) (subs S)
theorem mem_lng {S P : List Nat} : P ∈ lng S ↔ P.Sublist S := by unfold lng; rw [mem_srtD, mem_subs]
theorem mem_sht {S P : List Nat} : P ∈ sht S ↔ P.Sublist S := by unfold sht; rw [mem_srtD, mem_subs]
def GoodP (e : Rel) (s S P : List Nat) : Prop := Apart (rb e) P ∧ Lives s S P ∧ Led (rb e) (tok (aft s S P))
noncomputable def goodB (e : Rel) (s S P : List Nat) : Bool := @decide (GoodP e s S P) (Classical.propDecidable _)
theorem goodB_iff {e : Rel} {s S P : List Nat} : goodB e s S P = true ↔ GoodP e s S P := by
  unfold goodB
  exact @decide_eq_true_iff _ (Classical.propDecidable _)
/-- a function decides states of fewer than N tokens -/
def Fok (n c : Nat) (e : Rel) (N : Nat) (Fv : List (List Nat) → List Nat → List (List Nat × Bool) → Option (Bool × List (List Nat × Bool))) : Prop :=
  ∀ s d, s.length = n → (∀ x ∈ s, x ≤ c) → s.sum < N → Kn n c e (s.sum + 1) d → ∃ r, Fv (nbs n e) s d = some r ∧ (r.1 = true ↔ Led (rb e) (tok s)) ∧ Kn n c e (s.sum + 1) r.2 ∧ Fr (s.sum + 1) d r.2
theorem aft_le {n c : Nat} {s S P : List Nat} (nd : S.Nodup) (live : ∀ p ∈ S, 0 < tok s p) (hc : ∀ x ∈ s, x ≤ c) : ∀ x ∈ aft s S P, x ≤ c := fun x hx => by
  obtain ⟨i, hi⟩ := List.mem_iff_getElem?.mp hx
  have e := tok_at hi
  have hl := (List.getElem?_eq_some_iff.mp hi).1
  rw [aft_len] at hl
  rw [aft_tok P nd (fun p hp => tok_lt (live p hp))] at e
  have h1 := nxt_le (tok s) S P i
  have h2 := hc _ (List.mem_of_getElem? (tok_get hl))
  omega
theorem best_ok {n c : Nat} {e : Rel} {N : Nat} {Fv : List (List Nat) → List Nat → List (List Nat × Bool) → Option (Bool × List (List Nat × Bool))} (hF : Fok n c e N Fv) {s S : List Nat} {d : List (List Nat × Bool)} (hs : s.length = n) (hc : ∀ x ∈ s, x ≤ c) (hN : s.sum ≤ N) (nd : S.Nodup) (ne : S ≠ []) (live : ∀ p ∈ S, 0 < tok s p) (h8 : S.length ≤ 8) (K : Kn n c e s.sum d) :
    ∃ r, f_best_painting Fv (nbs n e) s S d = some r ∧ r.1 = (lng S).find? (goodB e s S) ∧ Kn n c e s.sum r.2 ∧ Fr s.sum d r.2 := by
  unfold f_best_painting
  refine ex_b _ (subsets_ok h8) (ex_b (lng S) rfl ?_)
  refine ex_e (loopO_cases (fun i (dd : List (List Nat × Bool)) => Kn n c e s.sum dd ∧ Fr s.sum d dd ∧ ∀ P ∈ (lng S).take i, goodB e s S P = false) ⟨K, Fr.refl, fun P hP => by simp at hP⟩ (fun (o : Stp (List (List Nat × Bool)) (Option (List Nat) × List (List Nat × Bool))) => match o with
    | .nx dd => Kn n c e s.sum dd ∧ Fr s.sum d dd ∧ (lng S).find? (goodB e s S) = none
    | .rt t => Kn n c e s.sum t.2 ∧ Fr s.sum d t.2 ∧ t.1 = (lng S).find? (goodB e s S)
    | .bk _ => False) (fun i P dd hx ⟨i1, i2, i3⟩ => ?_) fun dd ⟨i1, i2, i3⟩ => ⟨i1, i2, by rw [List.take_length] at i3; exact List.find?_eq_none.mpr fun P hP => by rw [i3 P hP]; decide⟩) fun o ho => ?_
  · have hPm := List.mem_of_getElem? hx
    have sub := mem_lng.mp hPm
    have PS : ∀ p ∈ P, p ∈ S := fun p hp => sub.subset hp
    have hlt : ∀ p ∈ P, p < n := fun p hp => by have := tok_lt (live p (PS p hp)); omega
    have found : goodB e s S P = true → (lng S).find? (goodB e s S) = some P := fun hg => by
      have hi := (List.getElem?_eq_some_iff.mp hx).1
      have : lng S = (lng S).take i ++ P :: (lng S).drop (i + 1) := by
        rw [← (List.getElem?_eq_some_iff.mp hx).2, List.getElem_cons_drop hi, List.take_append_drop]
      rw [this, List.find?_append, List.find?_cons_of_pos hg, List.find?_eq_none.mpr fun Q hQ => by rw [i3 Q hQ]; decide]
      rfl
    have bad : ∀ {dd' : List (List Nat × Bool)}, ¬ GoodP e s S P → Kn n c e s.sum dd' ∧ Fr s.sum d dd' → Kn n c e s.sum dd' ∧ Fr s.sum d dd' ∧ ∀ Q ∈ (lng S).take (i + 1), goodB e s S Q = false := fun ng ⟨k1, k2⟩ => ⟨k1, k2, fun Q hQ => by
      rw [take_snoc hx, mem_snoc] at hQ
      rcases hQ with hQ | rfl
      · exact i3 Q hQ
      · exact Bool.eq_false_iff.mpr fun z => ng (goodB_iff.mp z)⟩
    obtain ⟨a, ea, ha⟩ := apart_ok (e := e) hlt
    cases a with
    | false => exact .inl ⟨dd, bind_of ea rfl, bad (fun z => by have := ha.mpr z.1; cases this) ⟨i1, i2⟩⟩
    | true =>
      have hA := ha.mp rfl
      obtain ⟨o, eo, ho⟩ := after_ok (P := P) nd live
      rcases ho with ⟨rfl, hL⟩ | ⟨rfl, hL⟩
      · have lt := aft_sum (P := P) nd ne live
        obtain ⟨r, er, r1, r2, r3⟩ := hF (aft s S P) dd (by rw [aft_len, hs]) (aft_le (n := n) nd live hc) (by omega) (i1.mono (by omega))
        have K2 : Kn n c e s.sum r.2 := r2.join r3 i1
        have F2 : Fr s.sum d r.2 := i2.trans r3 (Nat.le_refl _) (by omega)
        have eb : (if (some (aft s S P)).isSome = true then ((some (aft s S P)).bind fun x64 => (Fv (nbs n e) x64 dd).bind fun x66 => some (x66.1, x66.2)) else some (false, dd)) = some (r.1, r.2) := by
          exact (if_pos rfl).trans (bind_of rfl (bind_of er rfl))
        by_cases hr : r.1 = true
        · refine .inr (.inr ⟨(some P, r.2), bind_of ea ?_, K2, F2, (found (goodB_iff.mpr ⟨hA, hL, r1.mp hr⟩)).symm⟩)
          refine bind_of eo (bind_of eb ?_)
          show (if r.1 = true then _ else _) = _
          rw [if_pos hr]
        · refine .inl ⟨r.2, bind_of ea ?_, bad (fun z => hr (r1.mpr z.2.2)) ⟨K2, F2⟩⟩
          refine bind_of eo (bind_of eb ?_)
          show (if r.1 = true then _ else _) = _
          rw [if_neg hr]
      · exact .inl ⟨dd, bind_of ea (bind_of eo rfl), bad (fun z => hL z.2.1) ⟨i1, i2⟩⟩
  · cases o with
    | nx dd => obtain ⟨h1, h2, h3⟩ := ho; exact ⟨_, rfl, h3.symm, h1, h2⟩
    | rt t => obtain ⟨h1, h2, h3⟩ := ho; exact ⟨_, rfl, h3, h1, h2⟩
    | bk _ => exact ho.elim
/-- the places that are left -/
def lefts (n : Nat) (t : List Nat) : List Nat := (List.range n).filter fun p => decide (0 < tok t p)
theorem mem_lefts {n : Nat} {t : List Nat} (ht : t.length = n) {p : Nat} : p ∈ lefts n t ↔ 0 < tok t p := by
  unfold lefts
  rw [List.mem_filter, List.mem_range]
  exact ⟨fun h => of_decide_eq_true h.2, fun h => ⟨by have := tok_lt h; omega, decide_eq_true h⟩⟩
theorem lefts_nd (n : Nat) (t : List Nat) : (lefts n t).Nodup := List.nodup_range.filter _
theorem good_of {e : Rel} {s S P : List Nat} (nd : S.Nodup) (live : ∀ p ∈ S, 0 < tok s p) {m : Nat} (hm : (aft s S P).sum ≤ m) (h2 : Apart (rb e) P) (h3 : Lives s S P) (h4 : Win (rb e) m (nxt (tok s) S P)) : GoodP e s S P :=
  ⟨h2, h3, Led.of hm (h4.congr fun i => (aft_tok P nd (fun p hp => tok_lt (live p hp)) i).symm)⟩
/-- the painter leads if there is a good painting for each showing -/
theorem led_iff {n : Nat} {e : Rel} {t : List Nat} (ht : t.length = n) : Led (rb e) (tok t) ↔ ∀ S, S.Sublist (lefts n t) → S ≠ [] → ∃ P, P.Sublist S ∧ GoodP e t S P := by
  constructor
  · intro h S sub ne
    have nd : S.Nodup := sub.nodup (lefts_nd n t)
    have live : ∀ p ∈ S, 0 < tok t p := fun p hp => (mem_lefts ht).mp (sub.subset hp)
    obtain ⟨P, p1, p2, p3, p4⟩ := h (t.sum + 1) S ne live
    have mem : ∀ p, p ∈ S → (p ∈ P ↔ p ∈ S.filter fun q => decide (q ∈ P)) := fun p hp => ⟨fun z => List.mem_filter.mpr ⟨hp, decide_eq_true z⟩, fun z => of_decide_eq_true (List.mem_filter.mp z).2⟩
    refine ⟨S.filter fun q => decide (q ∈ P), List.filter_sublist, ?_⟩
    have lt := aft_sum (P := S.filter fun q => decide (q ∈ P)) nd ne live
    refine good_of nd live (m := t.sum) (by omega) (fun a ha b hb => p2 a (of_decide_eq_true (List.mem_filter.mp ha).2) b (of_decide_eq_true (List.mem_filter.mp hb).2)) (fun p hp np => p3 p hp fun z => np ((mem p hp).mp z)) (p4.congr fun i => nxt_congr (fun _ => Iff.rfl) mem i)
  · intro h
    refine Led.of (Nat.le_refl _) ?_
    cases hsum : t.sum with
    | zero => trivial
    | succ m =>
      intro S ne live
      have mem : ∀ p, p ∈ (lefts n t).filter (fun q => decide (q ∈ S)) ↔ p ∈ S := fun p => ⟨fun z => of_decide_eq_true (List.mem_filter.mp z).2, fun z => List.mem_filter.mpr ⟨(mem_lefts ht).mpr (live p z), decide_eq_true z⟩⟩
      have ne2 : (lefts n t).filter (fun q => decide (q ∈ S)) ≠ [] := fun z => by
        obtain ⟨p, hp⟩ := List.exists_mem_of_ne_nil _ ne
        have := (mem p).mpr hp
        rw [z] at this
        cases this
      obtain ⟨P, sub, g1, g2, g3⟩ := h _ List.filter_sublist ne2
      have live2 : ∀ p ∈ (lefts n t).filter (fun q => decide (q ∈ S)), 0 < tok t p := fun p hp => live p ((mem p).mp hp)
      refine ⟨P, fun p hp => (mem p).mp (sub.subset hp), g1, fun p hp np => g2 p ((mem p).mpr hp) np, (g3 m).congr fun i => ?_⟩
      rw [aft_tok P ((lefts_nd n t).filter _) (fun p hp => tok_lt (live2 p hp))]
      exact nxt_congr mem (fun _ _ => Iff.rfl) i
theorem find_none {e : Rel} {s S : List Nat} : ((lng S).find? (goodB e s S)).isNone = true ↔ ¬ ∃ P, P.Sublist S ∧ GoodP e s S P := by
  rw [Option.isNone_iff_eq_none, List.find?_eq_none]
  exact ⟨fun h ⟨P, h1, h2⟩ => h P (mem_lng.mpr h1) (goodB_iff.mpr h2), fun h P h1 h2 => h ⟨P, mem_lng.mp h1, goodB_iff.mp h2⟩⟩
/-- the painter wins, as the program finds out -/
theorem painter_ok {n c : Nat} {e : Rel} (g : Gr n e) (hn : n ≤ 8) (hc : (c + 1) ^ n < 100000) : ∀ fu : Nat, Fok n c e fu (f_painter_wins fu)
  | 0 => fun s d _ _ h => absurd h (Nat.not_lt_zero _)
  | fu + 1 => fun s d hs hb hsum K => by
    have IH := painter_ok g hn hc fu
    rw [f_painter_wins]
    obtain ⟨t, et, sf⟩ := safe_ok g (by omega) hs
    refine ex_b t et ?_
    have tl : t.length = n := by rw [sf.len, hs]
    have tsum := sf.sum
    have tc : ∀ x ∈ t, x ≤ c := fun x hx => by
      obtain ⟨i, hi⟩ := List.mem_iff_getElem?.mp hx
      have e0 := tok_at hi
      have hl := (List.getElem?_eq_some_iff.mp hi).1
      rcases sf.or i with z | z
      · omega
      · have := hb _ (List.mem_of_getElem? (tok_get (s := s) (p := i) (by omega)))
        omega
    have same : Led (rb e) (tok t) ↔ Led (rb e) (tok s) := ⟨fun h m => sf.win m (h m), fun h m => sf.fwd (h m)⟩
    refine ex_e (A := fun dd => ∃ v, dgetT dd t = some v ∧ (v = true ↔ Led (rb e) (tok s)) ∧ Kn n c e (s.sum + 1) dd ∧ Fr (s.sum + 1) d dd) (ex_i (fun hc1 => ?_) fun hc1 => ?_) fun dd ⟨v, v1, v2, v3, v4⟩ => ex_b v v1 (ex_s ⟨v2, v3, v4⟩)
    · have hnew : dgetT d t = none := by
        cases h : dgetT d t with
        | none => rfl
        | some x => rw [h] at hc1; simp at hc1
      refine ex_g (by omega) (ex_b (lefts n t) ?_ (ex_g ?_ (ex_g (by have := K.len; omega) ?_)))
      · rw [tl]
        refine compO_filter (g := fun p => decide (0 < tok t p)) fun p hp => ?_
        have hp := List.mem_range.mp hp
        rw [tok_get (by omega)]
        show (if decide (0 < tok t p) = true then _ else _) = _
        cases decide (0 < tok t p) <;> rfl
      · have := List.length_filter_le (fun p => decide (0 < tok t p)) (List.range n)
        rw [List.length_range] at this
        show ((List.range n).filter _).length ≤ _
        omega
      · have l8 : (lefts n t).length ≤ 8 := by
          have := List.length_filter_le (fun p => decide (0 < tok t p)) (List.range n)
          rw [List.length_range] at this
          show ((List.range n).filter _).length ≤ _
          omega
        refine ex_b _ (subsets_ok l8) (ex_b (sht (lefts n t)) rfl ?_)
        have K1 : Kn n c e t.sum (dputT d t true) := (K.mono (by omega)).put tl tc fun z => absurd z (Nat.lt_irrefl _)
        -- what the loop leaves
        have fin : ∀ {dd : List (List Nat × Bool)} {v : Bool}, Kn n c e t.sum dd → Fr t.sum (dputT d t true) dd → (v = true ↔ Led (rb e) (tok t)) → ∀ {d2 : List (List Nat × Bool)}, (∀ j, dgetT d2 j = if j = t then some v else dgetT dd j) → (d2.map (·.1)).Nodup → (∀ k ∈ d2.map (·.1), k.length = n ∧ ∀ x ∈ k, x ≤ c) →
            ∃ v, dgetT d2 t = some v ∧ (v = true ↔ Led (rb e) (tok s)) ∧ Kn n c e (s.sum + 1) d2 ∧ Fr (s.sum + 1) d d2 := fun {dd v} k1 k2 hv {d2} h2 n2 key2 => by
          refine ⟨v, by rw [h2, if_pos rfl], hv.trans same, ⟨n2, key2, fun j w hj hl => ?_⟩, fun j hj => ?_⟩
          · rw [h2] at hj
            split at hj
            · rename_i z
              cases hj
              rw [z]
              exact hv
            · rename_i z
              by_cases lj : j.sum < t.sum
              · exact k1.ok j w hj lj
              · rw [k2 j (by omega), dgetT_put, if_neg z] at hj
                exact K.ok j w hj hl
          · have z : j ≠ t := fun z => by rw [z] at hj; omega
            rw [h2, if_neg z, k2 j (by omega), dgetT_put, if_neg z]
        refine ex_e (loopO_cases (fun i (dd : List (List Nat × Bool)) => Kn n c e t.sum dd ∧ Fr t.sum (dputT d t true) dd ∧ ∀ S ∈ (sht (lefts n t)).take i, S ≠ [] → ∃ P, P.Sublist S ∧ GoodP e t S P) ⟨K1, Fr.refl, fun S hS => by simp at hS⟩ (fun (o : Stp (List (List Nat × Bool)) Unit) => match o with
          | .nx dd => Kn n c e t.sum dd ∧ Fr t.sum (dputT d t true) dd ∧ Led (rb e) (tok t)
          | .rt _ => False
          | .bk d2 => ∃ dd, d2 = dputT dd t false ∧ Kn n c e t.sum dd ∧ Fr t.sum (dputT d t true) dd ∧ ¬ Led (rb e) (tok t)) (fun i S dd hx ⟨i1, i2, i3⟩ => ?_) fun dd ⟨i1, i2, i3⟩ => ⟨i1, i2, (led_iff tl).mpr fun S hS ne => i3 S (by rw [List.take_length]; exact mem_sht.mpr hS) ne⟩) fun o ho => ?_
        · have hSm := List.mem_of_getElem? hx
          have sub := mem_sht.mp hSm
          by_cases ne : S = []
          · subst ne
            refine .inl ⟨dd, rfl, i1, i2, fun Q hQ nQ => ?_⟩
            rw [take_snoc hx, mem_snoc] at hQ
            rcases hQ with hQ | rfl
            · exact i3 Q hQ nQ
            · exact absurd rfl nQ
          · obtain ⟨r, er, r1, r2, r3⟩ := best_ok IH tl tc (by omega) (sub.nodup (lefts_nd n t)) ne (fun p hp => (mem_lefts tl).mp (sub.subset hp)) (Nat.le_trans sub.length_le l8) i1
            have F2 : Fr t.sum (dputT d t true) r.2 := i2.trans r3 (Nat.le_refl _) (Nat.le_refl _)
            have eb : (if (!eqD S ([] : List Nat)) = true then ((f_best_painting (f_painter_wins fu)) (nbs n e) t S dd).bind fun x110 => some (x110.1.isNone, x110.2) else some (false, dd)) = some (r.1.isNone, r.2) := by
              rw [if_pos (by rw [eqD_no ne]; rfl)]
              exact bind_of er rfl
            by_cases hr : r.1.isNone = true
            · refine .inr (.inl ⟨dputT r.2 t false, bind_of eb ?_, r.2, rfl, r2, F2, fun z => ?_⟩)
              · show (if r.1.isNone = true then _ else _) = _
                rw [if_pos hr]
                exact bind_of (gd_true (by show r.2.length < 100000; have := r2.len; omega)) rfl
              · rw [r1] at hr
                exact find_none.mp hr ((led_iff tl).mp z S sub ne)
            · refine .inl ⟨r.2, bind_of eb ?_, r2, F2, fun Q hQ nQ => ?_⟩
              · show (if r.1.isNone = true then _ else _) = _
                rw [if_neg hr]
              · rw [take_snoc hx, mem_snoc] at hQ
                rcases hQ with hQ | rfl
                · exact i3 Q hQ nQ
                · rw [r1] at hr
                  exact Classical.byContradiction fun z => hr (find_none.mpr z)
        · cases o with
          | nx dd =>
            obtain ⟨h1, h2, h3⟩ := ho
            exact ⟨dd, rfl, fin (v := true) h1 h2 ⟨fun _ => h3, fun _ => rfl⟩ (fun j => by
              by_cases z : j = t
              · rw [if_pos z, z, h2 t (Nat.le_refl _), dgetT_put, if_pos rfl]
              · rw [if_neg z]) h1.nd h1.key⟩
          | rt t => exact ho.elim
          | bk d2 =>
            obtain ⟨dd, rfl, h1, h2, h3⟩ := ho
            have k2 := h1.put (v := false) tl tc fun z => absurd z (Nat.lt_irrefl _)
            exact ⟨_, rfl, fin (v := false) h1 h2 ⟨(fun z => by cases z), fun z => absurd z h3⟩ (fun j => dgetT_put) k2.nd k2.key⟩
    · cases h : dgetT d t with
      | none => rw [h] at hc1; simp at hc1
      | some x => exact ex_s ⟨x, h, (K.ok t x h (by omega)).trans same, K, Fr.refl⟩
/-! ### who leads, what is shown -/
theorem beside_ok {n : Nat} {e : Rel} (hn : n ≤ 100) : f_beside_of (nbs n e) = some (nbs n e) := by
  unfold f_beside_of
  rw [nbs_len, gd_true (show n < 2 ^ 62 by omega)]
  refine bind_of rfl (bind_of rfl ?_)
  refine bind_of (compO_all (g := nb n e) fun x hx => bind_of (neighbours_eq (List.mem_range.mp hx)) rfl) ?_
  exact bind_of (gd_true (by rw [List.length_map, List.length_range]; omega)) rfl
/-- tokens of n places, up to c -/
structure Toks (n c : Nat) (L : List Nat) : Prop where
  len : L.length = n
  lo : ∀ x ∈ L, 1 ≤ x
  hi : ∀ x ∈ L, x ≤ c
  n8 : n ≤ 8
  pw : (c + 1) ^ n < 100000
  sum : L.sum < 17
theorem Toks.lefts {n c : Nat} {L : List Nat} (h : Toks n c L) : lefts n L = List.range n := by
  unfold OC.lefts
  refine List.filter_eq_self.mpr fun p hp => decide_eq_true ?_
  have hp := List.mem_range.mp hp
  exact h.lo _ (List.mem_of_getElem? (tok_get (by rw [h.len]; exact hp)))
theorem Toks.live {n c : Nat} {L : List Nat} (h : Toks n c L) {p : Nat} (hp : p < n) : 0 < tok L p := h.lo _ (List.mem_of_getElem? (tok_get (by rw [h.len]; exact hp)))
theorem Toks.chk {n c : Nat} {e : Rel} {L : List Nat} (h : Toks n c L) : f_check_lengths (nbs n e) L = some () := check_lengths_ok (by rw [nbs_len]; exact h.len) (by rw [nbs_len]; have := h.n8; omega) h.lo
theorem leader_ok {n c : Nat} {e : Rel} {L : List Nat} (g : Gr n e) (h : Toks n c L) : ∃ r, f_leader (nbs n e) L = some r ∧ ((r = "painter" ∧ Led (rb e) (tok L)) ∨ (r = "foe" ∧ ¬ Led (rb e) (tok L))) := by
  unfold f_leader
  obtain ⟨r, er, r1, _, _⟩ := painter_ok g h.n8 h.pw 17 L [] h.len h.hi h.sum Kn.nil
  refine ex_b _ h.chk (ex_b _ (beside_ok (by have := h.n8; omega)) (ex_b r er (ex_i (fun c => ex_s (.inl ⟨rfl, r1.mp c⟩)) fun c => ex_s (.inr ⟨rfl, fun z => by rw [r1.mpr z] at c; cases c⟩))))
theorem toks3 {n : Nat} {L : List Nat} (hn : n ≤ 5) (hl : L.length = n) (h : ∀ x ∈ L, 1 ≤ x ∧ x ≤ 3) : Toks n 3 L := by
  refine ⟨hl, fun x hx => (h x hx).1, fun x hx => (h x hx).2, by omega, ?_, ?_⟩
  · exact Nat.lt_of_le_of_lt (Nat.pow_le_pow_right (by decide) hn) (by decide)
  · have : ∀ l : List Nat, (∀ x ∈ l, x ≤ 3) → l.sum ≤ 3 * l.length := fun l => by
      induction l with
      | nil => intro _; exact Nat.le_refl _
      | cons a l ih =>
        intro q
        have h1 := q a List.mem_cons_self
        have h2 := ih fun x hx => q x (List.mem_cons_of_mem _ hx)
        rw [List.sum_cons, List.length_cons]
        omega
    have := this L fun x hx => (h x hx).2
    omega
/-- a showing to which each painting loses -/
noncomputable def badB (e : Rel) (s S : List Nat) : Bool := @decide (S ≠ [] ∧ ¬ ∃ P, P.Sublist S ∧ GoodP e s S P) (Classical.propDecidable _)
theorem badB_iff {e : Rel} {s S : List Nat} : badB e s S = true ↔ S ≠ [] ∧ ¬ ∃ P, P.Sublist S ∧ GoodP e s S P := by
  unfold badB
  exact @decide_eq_true_iff _ (Classical.propDecidable _)
theorem showing_ok {n c : Nat} {e : Rel} {L : List Nat} (g : Gr n e) (h : Toks n c L) : f_showing (nbs n e) L = some ((sht (List.range n)).find? (badB e L)) := by
  have : ∃ r, f_showing (nbs n e) L = some r ∧ r = (sht (List.range n)).find? (badB e L) := by
    have h8 := h.n8
    unfold f_showing
    refine ex_b _ h.chk (ex_b _ (beside_ok (by omega)) ?_)
    rw [nbs_len]
    refine ex_g (by omega) (ex_g (by omega) (ex_b _ (subsets_ok (by rw [List.length_range]; exact h8)) (ex_b (sht (List.range n)) rfl ?_)))
    refine ex_e (loopO_cases (fun i (dd : List (List Nat × Bool)) => Kn n c e L.sum dd ∧ ∀ S ∈ (sht (List.range n)).take i, badB e L S = false) ⟨Kn.nil, fun S hS => by simp at hS⟩ (fun (o : Stp (List (List Nat × Bool)) (Option (List Nat))) => match o with
      | .nx _ => (sht (List.range n)).find? (badB e L) = none
      | .rt t => t = (sht (List.range n)).find? (badB e L)
      | .bk _ => False) (fun i S dd hx ⟨i1, i3⟩ => ?_) fun dd ⟨i1, i3⟩ => by rw [List.take_length] at i3; exact List.find?_eq_none.mpr fun S hS => by rw [i3 S hS]; decide) fun o ho => ?_
    · have hSm := List.mem_of_getElem? hx
      have sub := mem_sht.mp hSm
      by_cases ne : S = []
      · subst ne
        refine .inl ⟨dd, rfl, i1, fun Q hQ => ?_⟩
        rw [take_snoc hx, mem_snoc] at hQ
        rcases hQ with hQ | rfl
        · exact i3 Q hQ
        · exact Bool.eq_false_iff.mpr fun z => (badB_iff.mp z).1 rfl
      · obtain ⟨r, er, r1, r2, r3⟩ := best_ok (painter_ok g h8 h.pw 17) h.len h.hi (by have := h.sum; omega) (sub.nodup List.nodup_range) ne (fun p hp => h.live (List.mem_range.mp (sub.subset hp))) (Nat.le_trans sub.length_le (by rw [List.length_range]; exact h8)) i1
        have eb : (if (!eqD S ([] : List Nat)) = true then ((f_best_painting (f_painter_wins 17)) (nbs n e) L S dd).bind fun x110 => some (x110.1.isNone, x110.2) else some (false, dd)) = some (r.1.isNone, r.2) := by
          rw [if_pos (by rw [eqD_no ne]; rfl)]
          exact bind_of er rfl
        by_cases hr : r.1.isNone = true
        · refine .inr (.inr ⟨some S, bind_of eb ?_, ?_⟩)
          · show (if r.1.isNone = true then _ else _) = _
            rw [if_pos hr]
          · have hg : badB e L S = true := badB_iff.mpr ⟨ne, by rw [r1] at hr; exact find_none.mp hr⟩
            have hi := (List.getElem?_eq_some_iff.mp hx).1
            have : sht (List.range n) = (sht (List.range n)).take i ++ S :: (sht (List.range n)).drop (i + 1) := by
              rw [← (List.getElem?_eq_some_iff.mp hx).2, List.getElem_cons_drop hi, List.take_append_drop]
            show some S = _
            rw [this, List.find?_append, List.find?_cons_of_pos hg, List.find?_eq_none.mpr fun Q hQ => by rw [i3 Q hQ]; decide]
            rfl
        · refine .inl ⟨r.2, bind_of eb ?_, r2, fun Q hQ => ?_⟩
          · show (if r.1.isNone = true then _ else _) = _
            rw [if_neg hr]
          · rw [take_snoc hx, mem_snoc] at hQ
            rcases hQ with hQ | rfl
            · exact i3 Q hQ
            · exact Bool.eq_false_iff.mpr fun z => by rw [r1] at hr; exact hr (find_none.mpr (badB_iff.mp z).2)
    · cases o with
      | nx _ => exact ⟨none, rfl, ho.symm⟩
      | rt t => exact ⟨t, rfl, ho⟩
      | bk _ => exact ho.elim
  obtain ⟨r, e, rfl⟩ := this
  exact e
theorem showing_none {n c : Nat} {e : Rel} {L : List Nat} (h : Toks n c L) : (sht (List.range n)).find? (badB e L) = none ↔ Led (rb e) (tok L) := by
  rw [led_iff h.len, h.lefts, List.find?_eq_none]
  constructor
  · intro q S sub ne
    have := q S (mem_sht.mpr sub)
    rw [badB_iff] at this
    exact Classical.byContradiction fun z => this ⟨ne, z⟩
  · intro q S hS z
    obtain ⟨ne, z⟩ := badB_iff.mp z
    exact z (q S (mem_sht.mp hS) ne)
/-! ### paintings of a showing -/
theorem some_of_ok {n : Nat} {S : List Nat} (h : S.Sublist (List.range n)) : f_are_some_of (List.range n) S = some true := by
  have : ∃ r, f_are_some_of (List.range n) S = some r ∧ r = true := by
    have asc : Asc S := List.pairwise_lt_range.sublist h
    unfold f_are_some_of
    refine ex_e (loopO_cases (fun i (last : Int) => ∀ (j x : Nat), i ≤ j → S[j]? = some x → last < (x : Int)) (fun j x _ _ => by show -((1 : Nat) : Int) < (x : Int); omega) (fun (o : Stp Int Bool) => match o with
      | .nx _ => True
      | .rt _ => False
      | .bk _ => False) (fun i x last hx hi => ?_) fun _ _ => trivial) fun o ho => ?_
    · have h1 := hi i x (Nat.le_refl _) hx
      have hm : x ∈ List.range n := h.subset (List.mem_of_getElem? hx)
      refine .inl ⟨(x : Int), ?_, fun j y hj hy => ?_⟩
      · rw [if_neg]
        rw [decide_eq_false (show ¬ ((x : Int) ≤ last) by omega), decide_eq_true hm]
        decide
      · obtain ⟨l1, e1⟩ := List.getElem?_eq_some_iff.mp hx
        obtain ⟨l2, e2⟩ := List.getElem?_eq_some_iff.mp hy
        have := List.pairwise_iff_getElem.mp asc i j l1 l2 (by omega)
        omega
    · cases o with
      | nx _ => exact ⟨true, rfl, rfl⟩
      | rt _ => exact ho.elim
      | bk _ => exact ho.elim
  obtain ⟨r, e, rfl⟩ := this
  exact e
theorem painting_ok {n c : Nat} {e : Rel} {L S : List Nat} (g : Gr n e) (h : Toks n c L) (hS : S.Sublist (List.range n)) (ne : S ≠ []) : f_painting (nbs n e) L S = some ((lng S).find? (goodB e L S)) := by
  have h8 := h.n8
  have zS := hS.length_le
  rw [List.length_range] at zS
  obtain ⟨r, er, r1, _, _⟩ := best_ok (painter_ok g h8 h.pw 17) h.len h.hi (by have := h.sum; omega) (hS.nodup List.nodup_range) ne (fun p hp => h.live (List.mem_range.mp (hS.subset hp))) (by omega) (Kn.nil (N := L.sum))
  unfold f_painting
  refine bind_of h.chk ?_
  rw [nbs_len]
  refine bind_of (gd_true (by omega)) (bind_of (gd_true (by omega)) (bind_of (some_of_ok hS) ?_))
  rw [if_neg (by rw [eqD_no ne]; decide)]
  refine bind_of (beside_ok (by omega)) (bind_of er ?_)
  rw [r1]
/-! ### the web of the places that are left -/
theorem dataLe_zl : PySem.W.dataLe false (dtT2 dtZ (dtL dtN)).d = fun p q => decide (p.1 < q.1 ∨ (p.1 = q.1 ∧ p.2 ≤ q.2)) := by
  funext p q
  show (!PySem.W.dataLt (.tuple [.int q.1, .list (q.2.map dtN.d)]) (.tuple [.int p.1, .list (p.2.map dtN.d)])) = _
  have al : ∀ a b : List Nat, PySem.W.alike (.list (a.map dtN.d)) (.list (b.map dtN.d)) = true := fun a b => (alkL alkN).al a b
  have ev : PyData.eqv (.list (q.2.map dtN.d)) (.list (p.2.map dtN.d)) = decide (q.2 = p.2) := dt_eq (dtL dtN) q.2 p.2
  have dl : PySem.W.dataLt (.list (q.2.map dtN.d)) (.list (p.2.map dtN.d)) = decide (q.2 < p.2) := lt_nats q.2 p.2
  rw [PySem.W.dataLt_pair (by simp [PySem.W.alike]) (al _ _), ev, dl, PySem.W.dataLt_int]
  obtain ⟨a, l⟩ := p
  obtain ⟨b, m⟩ := q
  have key : (l ≤ m) ↔ ¬ (m < l) := List.not_lt.symm
  have e0 : PyData.eqv (.int b) (.int a) = decide (b = a) := by
    show (b == a) = _
    rw [Bool.eq_iff_iff, beq_iff_eq, decide_eq_true_eq]
  show (!if PyData.eqv (.int b) (.int a) = true then (if decide (m = l) = true then false else decide (m < l)) else decide (b < a)) = decide (a < b ∨ (a = b ∧ l ≤ m))
  rw [e0, Bool.eq_iff_iff]
  refine Iff.trans ?_ (decide_eq_true_eq (p := a < b ∨ (a = b ∧ l ≤ m)).symm.to_iff)
  by_cases h1 : b = a
  · rw [if_pos (decide_eq_true h1)]
    by_cases h2 : m = l
    · rw [if_pos (decide_eq_true h2), h1, h2]
      exact ⟨fun _ => .inr ⟨rfl, List.le_refl l⟩, fun _ => rfl⟩
    · rw [if_neg (by rw [decide_eq_true_eq]; exact h2), h1]
      rw [Bool.not_eq_true', decide_eq_false_iff_not]
      exact ⟨fun h => .inr ⟨rfl, key.mpr h⟩, fun h => by
        rcases h with h | h
        · omega
        · exact key.mp h.2⟩
  · rw [if_neg (by rw [decide_eq_true_eq]; exact h1), Bool.not_eq_true', decide_eq_false_iff_not]
    exact ⟨fun h => .inl (by omega), fun h => by
      rcases h with h | h
      · omega
      · omega⟩
/-- what stands earlier among the paintings -/
def Better (P Q : List Nat) : Prop := Q.length < P.length ∨ (P.length = Q.length ∧ P < Q)
theorem lng_le (S : List Nat) : (lng S).Pairwise fun P Q => ¬ Better Q P := by
  have le : ∀ P Q : List Nat, PySem.W.dataLe false (keyNeg dtN) P Q = decide (-(P.length : Int) < -(Q.length : Int) ∨ (-(P.length : Int) = -(Q.length : Int) ∧ P ≤ Q)) := fun P Q => by
    have := congrFun (congrFun dataLe_zl ((-(P.length : Int), P) : Int × List Nat)) ((-(Q.length : Int), Q) : Int × List Nat)
    exact this
  have tr : ∀ a b c : List Nat, PySem.W.dataLe false (keyNeg dtN) a b = true → PySem.W.dataLe false (keyNeg dtN) b c = true → PySem.W.dataLe false (keyNeg dtN) a c = true := fun a b c => by
    rw [le, le, le, decide_eq_true_eq, decide_eq_true_eq, decide_eq_true_eq]
    rintro (h | ⟨h, h2⟩) (k | ⟨k, k2⟩)
    · exact .inl (by omega)
    · exact .inl (by omega)
    · exact .inl (by omega)
    · exact .inr ⟨by omega, List.le_trans h2 k2⟩
  have to : ∀ a b : List Nat, (PySem.W.dataLe false (keyNeg dtN) a b || PySem.W.dataLe false (keyNeg dtN) b a) = true := fun a b => by
    rw [le, le, Bool.or_eq_true, decide_eq_true_eq, decide_eq_true_eq]
    rcases Nat.lt_trichotomy a.length b.length with h | h | h
    · exact .inr (.inl (by omega))
    · rcases List.le_total a b with k | k
      · exact .inl (.inr ⟨by omega, k⟩)
      · exact .inr (.inr ⟨by omega, k⟩)
    · exact .inl (.inl (by omega))
  refine (List.pairwise_mergeSort tr to (subs S)).imp fun {P Q} h => ?_
  rw [le, decide_eq_true_eq] at h
  rintro (b | ⟨b, b2⟩)
  · rcases h with h | ⟨h, _⟩ <;> omega
  · rcases h with h | ⟨_, h⟩
    · omega
    · exact absurd b2 (List.not_lt.mpr h)
/-- a game on some of the places -/
theorem sub_led {e e' : Rel} {left : List Nat} (nd : left.Nodup) (he : ∀ (i j p q : Nat), left[i]? = some p → left[j]? = some q → (e' i j = true ↔ e p q = true)) {s s' : Nat → Nat} (h1 : ∀ (i p : Nat), left[i]? = some p → s' i = s p) (h2 : ∀ i, left.length ≤ i → s' i = 0) (h3 : ∀ p, 0 < s p → p ∈ left) : Led (rb e) s ↔ Led (rb e') s' := by
  have lat : ∀ {i : Nat}, i < left.length → left[i]? = some (left.getD i 0) := fun {i} h => by rw [List.getD_eq_getElem?_getD, List.getElem?_eq_getElem h]; rfl
  have lt : ∀ i, 0 < s' i → i < left.length := fun i h => Decidable.byContradiction fun c => by rw [h2 i (by omega)] at h; omega
  have ix : ∀ p, p ∈ left → left[left.idxOf p]? = some p := fun p hp => by
    have := List.idxOf_lt_length_iff.mpr hp
    rw [List.getElem?_eq_getElem this, List.getElem_idxOf this]
  constructor
  · intro h n
    refine (h n).emb (fun i => left.getD i 0) (fun i j hi hj z => ?_) (fun i => ?_) fun i j hi hj z => ?_
    · have e1 := lat (lt i hi)
      have e2 := lat (lt j hj)
      have z : left.getD i 0 = left.getD j 0 := z
      rw [z] at e1
      exact nd_ix nd e1 e2
    · by_cases c : s' i = 0
      · exact .inl c
      · have := h1 i _ (lat (lt i (by omega)))
        exact .inr ⟨by show 0 < s (left.getD i 0); omega, by show s (left.getD i 0) ≤ _; omega⟩
    · exact (he i j _ _ (lat (lt i hi)) (lat (lt j hj))).mp z
  · intro h n
    refine (h n).emb (fun p => left.idxOf p) (fun p q hp hq z => ?_) (fun p => ?_) fun p q hp hq z => ?_
    · have e1 := ix p (h3 p hp)
      have e2 := ix q (h3 q hq)
      have z : left.idxOf p = left.idxOf q := z
      rw [z, e2] at e1
      exact (Option.some.inj e1).symm
    · by_cases c : s p = 0
      · exact .inl c
      · have := h1 _ _ (ix p (h3 p (by omega)))
        exact .inr ⟨by show 0 < s' (left.idxOf p); omega, by show s' (left.idxOf p) ≤ _; omega⟩
    · exact (he _ _ _ _ (ix p (h3 p hp)) (ix q (h3 q hq))).mpr z
/-- the places that are not painted, their ties and tokens -/
structure Sml (n : Nat) (e : Rel) (T P : List Nat) (left : List Nat) (e' : Rel) (T' : List Nat) : Prop where
  eq : left = (List.range n).filter fun p => !decide (p ∈ P)
  gr : Gr left.length e'
  rel : ∀ (i j p q : Nat), left[i]? = some p → left[j]? = some q → (e' i j = true ↔ e p q = true)
  toks : T' = left.map fun p => T.getD p 0
theorem Sml.nd {n : Nat} {e e' : Rel} {T P left T' : List Nat} (h : Sml n e T P left e' T') : left.Nodup := by rw [h.eq]; exact List.nodup_range.filter _
theorem Sml.mem {n : Nat} {e e' : Rel} {T P left T' : List Nat} (h : Sml n e T P left e' T') {p : Nat} : p ∈ left ↔ p < n ∧ p ∉ P := by
  rw [h.eq, List.mem_filter, List.mem_range, Bool.not_eq_true', decide_eq_false_iff_not]
theorem Sml.len {n : Nat} {e e' : Rel} {T P left T' : List Nat} (h : Sml n e T P left e' T') : left.length ≤ n := by
  rw [h.eq]
  have := List.length_filter_le (fun p => !decide (p ∈ P)) (List.range n)
  rw [List.length_range] at this
  exact this
theorem Sml.led {n : Nat} {e e' : Rel} {T P left T' : List Nat} (h : Sml n e T P left e' T') {s : Nat → Nat} (h1 : ∀ p, p < n → p ∉ P → s p = T.getD p 0) (h2 : ∀ p, p ∈ P → s p = 0) (h3 : ∀ p, n ≤ p → s p = 0) : Led (rb e) s ↔ Led (rb e') (tok T') := by
  refine sub_led h.nd h.rel (fun i p hi => ?_) (fun i hi => tok_out (by rw [h.toks, List.length_map]; exact hi)) fun p hp => ?_
  · have hp := h.mem.mp (List.mem_of_getElem? hi)
    rw [h1 p hp.1 hp.2]
    refine tok_at ?_
    rw [h.toks, List.getElem?_map, hi]
    rfl
  · refine h.mem.mpr ⟨Decidable.byContradiction fun c => ?_, fun z => ?_⟩
    · rw [h3 p (by omega)] at hp; omega
    · rw [h2 p z] at hp; omega
/-! ### drawn ties -/
theorem lties_ok {n kind : Nat} {marks : List Nat} (hn : n ≤ 5) (hk : kind < 4) (hm : 10 ≤ marks.length) : ∃ r, f_l_ties n kind marks = some r ∧ TOk n r := by
  unfold f_l_ties
  refine ex_g (by omega) (ex_e (foldO_ok (fun v (s : List Tie) => s.Nodup ∧ (∀ p ∈ s, p.1 < p.2 ∧ p.2 < v) ∧ s.length ≤ 10 * v) ⟨List.nodup_nil, (fun p hp => by cases hp), Nat.le_refl _⟩ fun v x s hx ⟨i1, i2, i3⟩ => ?_) fun s ⟨h1, h2, _⟩ => ex_s ⟨h1, by rw [List.length_range] at h2; exact h2⟩)
  obtain ⟨rfl, hxn⟩ := range_at hx
  refine ex_g (by omega) (ex_e (foldO_ok (fun u (t : List Tie) => t.Nodup ∧ (∀ p ∈ t, p.1 < p.2 ∧ (p.2 < x ∨ (p.2 = x ∧ p.1 < u))) ∧ t.length ≤ 10 * x + u) ⟨i1, fun p hp => ⟨(i2 p hp).1, .inl (i2 p hp).2⟩, i3⟩ fun u y t hy ⟨j1, j2, j3⟩ => ?_) fun t ⟨j1, j2, j3⟩ => ex_s ⟨j1, fun p hp => ⟨(j2 p hp).1, ?_⟩, ?_⟩)
  · obtain ⟨rfl, hyx⟩ := range_at hy
    refine ex_e (A := fun _ => True) (ex_i (fun _ => ex_s trivial) fun _ => ex_e (A := fun _ => True) (ex_i (fun _ => ex_g (by omega) (ex_s trivial)) fun _ => ex_s trivial) fun _ _ => ex_s trivial) fun b _ => ?_
    have ix : (x * (x - 1)) / 2 + y < 10 := by
      have h4 : x = 1 ∨ x = 2 ∨ x = 3 ∨ x = 4 := by omega
      rcases h4 with rfl | rfl | rfl | rfl <;> omega
    refine ex_g (by omega) (ex_g (.inl (by omega)) (ex_b _ (List.getElem?_eq_getElem (by omega)) (ex_g (.inl (by decide)) ?_)))
    have e4 : ∃ z, [3, 1, 5, (1 + (5 * b.toNat))][kind]? = some z := ⟨_, List.getElem?_eq_getElem (by show kind < 4; exact hk)⟩
    obtain ⟨z, ez⟩ := e4
    refine ex_b z ez (ex_i (fun _ => ex_g (by omega) (ex_s ⟨nodup_snoc j1 fun q => ?_, fun p hp => ?_, ?_⟩)) fun _ => ex_s ⟨j1, fun p hp => ?_, by omega⟩)
    · rcases (j2 _ q).2 with q | q
      · exact absurd q (Nat.lt_irrefl _)
      · exact absurd q.2 (Nat.lt_irrefl _)
    · rcases mem_snoc.mp hp with hp | rfl
      · obtain ⟨q1, q2⟩ := j2 p hp
        exact ⟨q1, q2.imp id fun w => ⟨w.1, by omega⟩⟩
      · exact ⟨hyx, .inr ⟨rfl, Nat.lt_succ_self _⟩⟩
    · rw [List.length_append]
      show t.length + 1 ≤ _
      omega
    · obtain ⟨q1, q2⟩ := j2 p hp
      exact ⟨q1, q2.imp id fun w => ⟨w.1, by omega⟩⟩
  · rcases (j2 p hp).2 with q | q <;> omega
  · rw [List.length_range] at j3
    omega
theorem lapart2_ok {n : Nat} {ties : List Tie} {P : List Nat} (t : TOk n ties) (z : ties.length ≤ 100000) : ∃ r, f_l_apart ties P = some r ∧ (r = true ↔ Apart (rb (eOf ties)) P) := by
  unfold f_l_apart
  refine ex_b (ties.map fun p => decide (p.1 ∈ P) && decide (p.2 ∈ P)) (compO_all fun p _ => rfl) (ex_g (by rw [List.length_map]; exact z) (ex_s ?_))
  rw [Bool.not_eq_true', List.any_eq_false]
  constructor
  · intro h p hp q hq e
    rcases eOf_iff.mp e with w | w
    · exact h _ (List.mem_map.mpr ⟨_, w, rfl⟩) (by show (decide (p ∈ P) && decide (q ∈ P)) = true; rw [decide_eq_true hp, decide_eq_true hq]; rfl)
    · exact h _ (List.mem_map.mpr ⟨_, w, rfl⟩) (by show (decide (q ∈ P) && decide (p ∈ P)) = true; rw [decide_eq_true hp, decide_eq_true hq]; rfl)
  · intro h b hb hb2
    obtain ⟨p, hp, rfl⟩ := List.mem_map.mp hb
    have hb2 : (decide (p.1 ∈ P) && decide (p.2 ∈ P)) = true := hb2
    rw [Bool.and_eq_true, decide_eq_true_eq, decide_eq_true_eq] at hb2
    exact h p.1 hb2.1 p.2 hb2.2 (eOf_iff.mpr (.inl hp))
theorem wholes_ok {l : List Nat} (hl : l.length ≤ 100000) : f_l_wholes l = some true := by
  unfold f_l_wholes
  refine bind_of (a := true) ((if_pos rfl).trans (bind_of (compO_all (g := fun _ => true) fun _ _ => rfl) (bind_of (gd_true (by rw [List.length_map]; exact hl)) ?_))) rfl
  simp
/-! ### the law's own game -/
theorem lsubs_ok {l : List Nat} (h : l.length ≤ 8) : f_l_subsets l = some (subs l) := by
  have : ∃ r, f_l_subsets l = some r ∧ r = subs l := by
    unfold f_l_subsets
    refine ex_e (foldO_ok (fun i (s : List (List Nat)) => s = subs (l.take i)) rfl fun i x s hx hi => ?_) fun s hs => ex_s (by rw [List.take_length] at hs; exact hs)
    have hil := (List.getElem?_eq_some_iff.mp hx).1
    have zr : ∀ r ∈ s, r.length ≤ 8 := fun r hr => by
      rw [hi] at hr
      have := (mem_subs.mp hr).length_le
      rw [List.length_take] at this
      omega
    have zs : s.length ≤ 2 ^ 8 := by
      rw [hi]
      unfold subs
      rw [subs_len, List.length_take, List.length_singleton, Nat.one_mul]
      exact Nat.pow_le_pow_right (by decide) (by omega)
    refine ex_b (s.map fun r => r ++ [x]) (compO_all fun r hr => ?_) (ex_g (by rw [List.length_map]; omega) (ex_g (by rw [List.length_map]; omega) (ex_s ?_)))
    · have := zr r hr
      show (gd (r.length + 1 ≤ 100000)).bind _ = _
      rw [gd_true (by omega)]
      rfl
    · rw [take_snoc hx, subs_snoc, hi]
  obtain ⟨r, e, rfl⟩ := this
  exact e
theorem lafter_ok {s S P : List Nat} (nd : S.Nodup) (h : ∀ p ∈ S, 0 < tok s p) : ∃ o, f_l_after s S P = some o ∧ ((o = some (aft s S P) ∧ Lives s S P) ∨ (o = none ∧ ¬ Lives s S P)) := by
  unfold f_l_after
  refine ex_e (loopO_cases (fun i (t : List Nat) => t = aft s (S.take i) P ∧ ∀ p ∈ S.take i, p ∉ P → 2 ≤ tok s p) ⟨rfl, fun p hp => by simp at hp⟩ (fun (o : Stp (List Nat) (Option (List Nat))) => match o with
    | .nx t => t = aft s S P ∧ Lives s S P
    | .rt t => t = none ∧ ¬ Lives s S P
    | .bk _ => False) (fun i x t hx ⟨i1, i2⟩ => ?_) fun t ht => by rw [List.take_length] at ht; exact ht) fun o ho => ?_
  · have hxm := List.mem_of_getElem? hx
    have hx0 := h x hxm
    have hxl : x < s.length := tok_lt hx0
    have zl : t.length = s.length := by rw [i1, aft_len]
    have nx : x ∉ S.take i := fun z => by
      have nd2 : (S.take (i + 1)).Nodup := nd.sublist (List.take_sublist (i + 1) S)
      rw [take_snoc hx] at nd2
      exact (List.nodup_append.mp nd2).2.2 x z x (List.mem_singleton.mpr rfl) rfl
    have e0 : tok t x = tok s x := by
      have q := aft_tok (s := s) (S := S.take i) P (nd.sublist (List.take_sublist i S)) (fun p hp => tok_lt (h p (List.mem_of_mem_take hp))) x
      unfold nxt at q
      rw [if_neg nx] at q
      rw [i1]
      exact q
    have et : t[x]? = some (tok t x) := tok_get (by omega)
    have ew : ∀ v, (t.set x v)[x]? = some v := fun v => List.getElem?_set_self (by omega)
    by_cases c : x ∈ P
    · refine .inl ⟨t.set x 0, ?_, ?_, fun p hp np => ?_⟩
      · refine bind_of et (bind_of (gd_true (by omega)) (bind_of (a := 0) (by rw [decide_eq_true c]; rfl) (bind_of (gd_true (by omega)) (bind_of (ew 0) ?_))))
        rw [if_neg (by rw [decide_eq_true c]; simp)]
      · rw [take_snoc hx, aft_snoc, if_pos c, i1]
      · rw [take_snoc hx, mem_snoc] at hp
        rcases hp with hp | rfl
        · exact i2 p hp np
        · exact absurd c np
    · have st : ∀ {o : Stp (List Nat) (Option (List Nat))}, (if (decide (tok t x - 1 = 0) && !decide (x ∈ P)) = true then some (Stp.rt (none : Option (List Nat))) else some (Stp.nx (t.set x (tok t x - 1)))) = some o → ((t[x]?).bind fun x25 =>
    (gd (1 ≤ x25)).bind fun _ =>
    ([(x25 - 1), 0][(decide (x ∈ P)).toNat]?).bind fun x35 =>
    (gd (x < t.length)).bind fun _ =>
    ((t.set x x35)[x]?).bind fun x40 =>
    if ((decide (x40 = 0)) && (!decide (x ∈ P))) = true then
      some (Stp.rt (none : (Option (List Nat))))
    else
      some (Stp.nx (t.set x x35))) = some o := fun {o} ho => by
        exact bind_of et (bind_of (gd_true (by omega)) (bind_of (a := tok t x - 1) (by rw [decide_eq_false c]; rfl) (bind_of (gd_true (by omega)) (bind_of (ew _) ho))))
      by_cases c1 : tok t x = 1
      · refine .inr (.inr ⟨none, st ?_, rfl, fun z => ?_⟩)
        · rw [if_pos (by rw [c1, decide_eq_false c]; rfl)]
        · have := z x hxm c
          omega
      · refine .inl ⟨t.set x (tok t x - 1), st ?_, ?_, fun p hp np => ?_⟩
        · rw [if_neg (by rw [decide_eq_false (show ¬ tok t x - 1 = 0 by omega)]; simp)]
        · rw [take_snoc hx, aft_snoc, if_neg c, ← i1]
        · rw [take_snoc hx, mem_snoc] at hp
          rcases hp with hp | rfl
          · exact i2 p hp np
          · omega
  · cases o with
    | nx t => obtain ⟨rfl, q⟩ := ho; exact ⟨_, rfl, .inl ⟨rfl, q⟩⟩
    | rt t => obtain ⟨rfl, q⟩ := ho; exact ⟨_, rfl, .inr ⟨rfl, q⟩⟩
    | bk _ => exact ho.elim
/-! the lists in order -/
def lex (X : List (List Nat)) : List (List Nat) := srtD (dtL dtN).d X
theorem mem_lex {X : List (List Nat)} {P : List Nat} : P ∈ lex X ↔ P ∈ X := mem_srtD
theorem dataLe_ll : PySem.W.dataLe false (dtL dtN).d = fun p q => decide (p ≤ q) := by
  have h : ∀ l : List Nat, l.map dtN.d = (l.map fun n : Nat => (n : Int)).map PyData.int := fun l => by rw [List.map_map]; rfl
  have lt : ∀ a b : List Nat, (a.map fun n : Nat => (n : Int)) < (b.map fun n : Nat => (n : Int)) ↔ a < b := by
    intro a
    induction a with
    | nil => intro b; cases b <;> simp
    | cons x r ih =>
      intro b
      cases b with
      | nil => simp
      | cons y s =>
        rw [List.map_cons, List.map_cons, List.cons_lt_cons_iff, List.cons_lt_cons_iff, ih, Int.ofNat_lt, Int.ofNat_inj]
  funext p q
  show (!PySem.W.dataLt (.list (q.map dtN.d)) (.list (p.map dtN.d))) = _
  have dl : PySem.W.dataLt (.list (q.map dtN.d)) (.list (p.map dtN.d)) = decide (q < p) := by
    rw [PySem.W.dataLt_list]
    show PySem.W.rowLt (q.map dtN.d) (p.map dtN.d) = _
    rw [h, h, PySem.W.dataLt_ints]
    exact decide_eq_decide.mpr (lt _ _)
  have key : (p ≤ q) ↔ ¬ (q < p) := List.not_lt.symm
  rw [dl, decide_eq_decide.mpr key]
  by_cases c : q < p
  · rw [decide_eq_true c, decide_eq_false (fun z => z c)]
    rfl
  · rw [decide_eq_false c, decide_eq_true c]
    rfl
theorem lex_le (X : List (List Nat)) : (lex X).Pairwise fun P Q => P ≤ Q := by
  have tr : ∀ a b c : List Nat, PySem.W.dataLe false (dtL dtN).d a b = true → PySem.W.dataLe false (dtL dtN).d b c = true → PySem.W.dataLe false (dtL dtN).d a c = true := fun a b c => by
    rw [dataLe_ll]
    simp only [decide_eq_true_eq]
    exact List.le_trans
  have to : ∀ a b : List Nat, (PySem.W.dataLe false (dtL dtN).d a b || PySem.W.dataLe false (dtL dtN).d b a) = true := fun a b => by
    rw [dataLe_ll, Bool.or_eq_true]
    simp only [decide_eq_true_eq]
    exact List.le_total a b
  refine (List.pairwise_mergeSort tr to X).imp fun {P Q} h => ?_
  rw [dataLe_ll] at h
  exact of_decide_eq_true h
theorem lex_tri {P Q : List Nat} (h1 : ¬ P < Q) (h2 : ¬ Q < P) : P = Q := List.le_antisymm (List.not_lt.mp h2) (List.not_lt.mp h1)
/-- the first one of the longest -/
theorem best_uniq {G : List Nat → Prop} {A B : List Nat} (ga : G A) (gb : G B) (ha : ∀ P, G P → ¬ Better P A) (hb : ∀ P, G P → ¬ Better P B) : A = B := by
  have h1 := hb A ga
  have h2 := ha B gb
  unfold Better at h1 h2
  have l : A.length = B.length := by
    rcases Nat.lt_trichotomy A.length B.length with h | h | h
    · exact absurd (.inl h) h2
    · exact h
    · exact absurd (.inl h) h1
  exact lex_tri (fun z => h1 (.inr ⟨l, z⟩)) fun z => h2 (.inr ⟨l.symm, z⟩)
theorem lng_find {e : Rel} {s S F : List Nat} (h : (lng S).find? (goodB e s S) = some F) : (F.Sublist S ∧ GoodP e s S F) ∧ ∀ P, (P.Sublist S ∧ GoodP e s S P) → ¬ Better P F := by
  refine ⟨⟨mem_lng.mp (List.mem_of_find?_eq_some h), goodB_iff.mp (List.find?_some h)⟩, fun P ⟨p1, p2⟩ b => ?_⟩
  obtain ⟨h1, l1, l2, e1, h2⟩ := List.find?_eq_some_iff_append.mp h
  have hm := mem_lng.mpr p1
  rw [e1] at hm
  rcases List.mem_append.mp hm with m | m
  · have := h2 P m
    rw [goodB_iff.mpr p2] at this
    cases this
  · rcases List.mem_cons.mp m with m | m
    · rw [m] at b
      rcases b with b | ⟨_, b⟩
      · omega
      · exact absurd b (List.lt_irrefl _)
    · have pw := lng_le S
      rw [e1] at pw
      exact (List.pairwise_cons.mp (List.pairwise_append.mp pw).2.1).1 P m b
theorem find_best {e : Rel} {s S : List Nat} {o : Option (List Nat)} (h0 : o = none → ∀ P, P.Sublist S → ¬ GoodP e s S P) (h1 : ∀ B, o = some B → (B.Sublist S ∧ GoodP e s S B) ∧ ∀ P, (P.Sublist S ∧ GoodP e s S P) → ¬ Better P B) : o = (lng S).find? (goodB e s S) := by
  cases hf : (lng S).find? (goodB e s S) with
  | none =>
    cases o with
    | none => rfl
    | some B => exact absurd (goodB_iff.mpr (h1 B rfl).1.2) (List.find?_eq_none.mp hf B (mem_lng.mpr (h1 B rfl).1.1))
  | some F =>
    obtain ⟨f1, f2⟩ := lng_find hf
    cases o with
    | none => exact absurd f1.2 (h0 rfl F f1.1)
    | some B => exact congrArg some (best_uniq (G := fun P => P.Sublist S ∧ GoodP e s S P) (h1 B rfl).1 f1 (h1 B rfl).2 f2)
abbrev DK := List (List Nat × Bool)
def FokL (n c : Nat) (ties : List Tie) (N : Nat) (Fv : List Tie → List Nat → DK → Option (Bool × DK)) : Prop :=
  ∀ s d, s.length = n → (∀ x ∈ s, x ≤ c) → s.sum < N → Kn n c (eOf ties) (s.sum + 1) d → ∃ r, Fv ties s d = some r ∧ (r.1 = true ↔ Led (rb (eOf ties)) (tok s)) ∧ Kn n c (eOf ties) (s.sum + 1) r.2 ∧ Fr (s.sum + 1) d r.2
theorem lbest_ok {n c : Nat} {ties : List Tie} {N : Nat} {Fv : List Tie → List Nat → DK → Option (Bool × DK)} (t : TOk n ties) (zt : ties.length ≤ 100000) (hF : FokL n c ties N Fv) {s S : List Nat} {d : DK} (hs : s.length = n) (hc : ∀ x ∈ s, x ≤ c) (hN : s.sum ≤ N) (nd : S.Nodup) (ne : S ≠ []) (live : ∀ p ∈ S, 0 < tok s p) (h8 : S.length ≤ 8) (K : Kn n c (eOf ties) s.sum d) :
    ∃ r, f_l_best Fv ties s S d = some r ∧ r.1 = (lng S).find? (goodB (eOf ties) s S) ∧ Kn n c (eOf ties) s.sum r.2 ∧ Fr s.sum d r.2 := by
  unfold f_l_best
  refine ex_b _ (lsubs_ok h8) (ex_e (foldO_ok (xs := lex (subs S)) (fun i (st : Option (List Nat) × DK) => Kn n c (eOf ties) s.sum st.2 ∧ Fr s.sum d st.2 ∧ (st.1 = none → ∀ P ∈ (lex (subs S)).take i, ¬ GoodP (eOf ties) s S P) ∧ ∀ B, st.1 = some B → (B ∈ (lex (subs S)).take i ∧ GoodP (eOf ties) s S B) ∧ ∀ P ∈ (lex (subs S)).take i, GoodP (eOf ties) s S P → ¬ Better P B) ⟨K, Fr.refl, (fun _ P hP => by simp at hP), fun B z => by cases z⟩ fun i x st hx ⟨i1, i2, i3, i4⟩ => ?_) fun r ⟨h1, h2, h3, h4⟩ => ex_s ⟨?_, h1, h2⟩)
  · obtain ⟨best, dd⟩ := st
    have hxm := List.mem_of_getElem? hx
    have sub : x.Sublist S := mem_subs.mp (mem_lex.mp hxm)
    have keep : ∀ {dd' : DK}, Kn n c (eOf ties) s.sum dd' → Fr s.sum d dd' → (¬ GoodP (eOf ties) s S x ∨ ∃ B, best = some B ∧ ¬ Better x B) → Kn n c (eOf ties) s.sum dd' ∧ Fr s.sum d dd' ∧ (best = none → ∀ P ∈ (lex (subs S)).take (i + 1), ¬ GoodP (eOf ties) s S P) ∧ ∀ B, best = some B → (B ∈ (lex (subs S)).take (i + 1) ∧ GoodP (eOf ties) s S B) ∧ ∀ P ∈ (lex (subs S)).take (i + 1), GoodP (eOf ties) s S P → ¬ Better P B := fun k1 k2 k3 => by
      refine ⟨k1, k2, fun hb P hP => ?_, fun B hb => ⟨⟨?_, (i4 B hb).1.2⟩, fun P hP g => ?_⟩⟩
      · rw [take_snoc hx, mem_snoc] at hP
        rcases hP with hP | rfl
        · exact i3 hb P hP
        · rcases k3 with k3 | ⟨B, k3, _⟩
          · exact k3
          · rw [hb] at k3; cases k3
      · rw [take_snoc hx, mem_snoc]
        exact .inl (i4 B hb).1.1
      · rw [take_snoc hx, mem_snoc] at hP
        rcases hP with hP | rfl
        · exact (i4 B hb).2 P hP g
        · rcases k3 with k3 | ⟨B', k3, k4⟩
          · exact absurd g k3
          · rw [hb] at k3
            cases k3
            exact k4
    obtain ⟨o, eo, ho⟩ := lafter_ok (P := x) nd live
    rcases ho with ⟨rfl, hL⟩ | ⟨rfl, hL⟩
    · obtain ⟨a, ea, ha⟩ := lapart2_ok (P := x) t zt
      cases a with
      | false => exact ⟨(best, dd), bind_of eo (bind_of (a := false) ((if_pos rfl).trans (bind_of ea rfl)) rfl), keep i1 i2 (.inl fun z => by have := ha.mpr z.1; cases this)⟩
      | true =>
        have hA := ha.mp rfl
        -- whether it is asked
        have more : ∃ b : Bool, (if best.isNone = true then some true else (best.bind fun x66 => some (decide (x66.length < x.length)))) = some b ∧ (b = true ↔ ∀ B, best = some B → B.length < x.length) := by
          cases best with
          | none => exact ⟨true, rfl, fun _ B z => (by cases z), fun _ => rfl⟩
          | some B => exact ⟨decide (B.length < x.length), rfl, fun z B' e => (by cases e; exact of_decide_eq_true z), fun z => decide_eq_true (z B rfl)⟩
        obtain ⟨b, eb, hb⟩ := more
        have e78 : (if (some (aft s S x)).isSome = true then ((f_l_apart ties x).bind fun x49 => (if x49 = true then ((if best.isNone = true then some true else (best.bind fun x66 => some (decide (x66.length < x.length)))).bind fun b70 => some b70) else some false).bind fun b74 => some b74) else some false) = some b := (if_pos rfl).trans (bind_of ea (bind_of ((if_pos rfl).trans (bind_of eb rfl)) rfl))
        cases hbb : b with
        | false =>
          subst hbb
          refine ⟨(best, dd), bind_of eo (bind_of e78 rfl), keep i1 i2 (.inr ?_)⟩
          cases best with
          | none => exact absurd (hb.mpr fun B z => by cases z) (by decide)
          | some B =>
            refine ⟨B, rfl, ?_⟩
            have nl : ¬ B.length < x.length := fun z => by
              have := hb.mpr fun B' e => by cases e; exact z
              cases this
            rintro (q | ⟨_, q⟩)
            · exact nl q
            · have pw := lex_le (subs S)
              obtain ⟨j, hj⟩ := List.mem_iff_getElem?.mp (i4 B rfl).1.1
              rw [List.getElem?_take] at hj
              split at hj
              · rename_i ji
                obtain ⟨l1, e1⟩ := List.getElem?_eq_some_iff.mp hj
                obtain ⟨l2, e2⟩ := List.getElem?_eq_some_iff.mp hx
                have := List.pairwise_iff_getElem.mp pw j i l1 l2 ji
                rw [e1, e2] at this
                exact absurd q (List.not_lt.mpr this)
              · cases hj
        | true =>
          subst hbb
          have big := hb.mp rfl
          have lt := aft_sum (P := x) nd ne live
          obtain ⟨r, er, r1, r2, r3⟩ := hF (aft s S x) dd (by rw [aft_len, hs]) (aft_le (n := n) nd live hc) (by omega) (i1.mono (by omega))
          have K2 : Kn n c (eOf ties) s.sum r.2 := r2.join r3 i1
          have F2 : Fr s.sum d r.2 := i2.trans r3 (Nat.le_refl _) (by omega)
          by_cases hr : r.1 = true
          · have g : GoodP (eOf ties) s S x := ⟨hA, hL, r1.mp hr⟩
            refine ⟨(some x, r.2), bind_of eo (bind_of e78 ((if_pos rfl).trans (bind_of (a := aft s S x) rfl (bind_of er (if_pos hr))))), K2, F2, (fun z => by cases z), fun B e => ?_⟩
            cases e
            refine ⟨⟨by rw [take_snoc hx, mem_snoc]; exact .inr rfl, g⟩, fun P hP gP => ?_⟩
            rw [take_snoc hx, mem_snoc] at hP
            rcases hP with hP | rfl
            · cases hbest : best with
              | none => exact absurd gP (i3 hbest P hP)
              | some B =>
                have h1 := (i4 B hbest).2 P hP gP
                have h2 := big B hbest
                rintro (q | ⟨q, _⟩)
                · exact h1 (.inl (by omega))
                · exact h1 (.inl (by omega))
            · rintro (q | ⟨_, q⟩)
              · omega
              · exact absurd q (List.lt_irrefl _)
          · exact ⟨(best, r.2), bind_of eo (bind_of e78 ((if_pos rfl).trans (bind_of (a := aft s S x) rfl (bind_of er (if_neg hr))))), keep K2 F2 (.inl fun z => hr (r1.mpr z.2.2))⟩
    · exact ⟨(best, dd), bind_of eo (bind_of (a := false) rfl rfl), keep i1 i2 (.inl fun z => hL z.2.1)⟩
  · rw [List.take_length] at h3 h4
    refine find_best (fun z P hP => h3 z P (mem_lex.mpr (mem_subs.mpr hP))) fun B e => ⟨⟨mem_subs.mp (mem_lex.mp (h4 B e).1.1), (h4 B e).1.2⟩, fun P hP => (h4 B e).2 P (mem_lex.mpr (mem_subs.mpr hP.1)) hP.2⟩
theorem lled_ok {n c : Nat} {ties : List Tie} (t : TOk n ties) (zt : ties.length ≤ 100000) (hn : n ≤ 8) (hc : (c + 1) ^ n < 100000) : ∀ fu : Nat, FokL n c ties fu (f_l_led fu)
  | 0 => fun s d _ _ h => absurd h (Nat.not_lt_zero _)
  | fu + 1 => fun s d hs hb hsum K => by
    have IH := lled_ok t zt hn hc fu
    rw [f_l_led]
    refine ex_e (A := fun dd => ∃ v, dgetT dd s = some v ∧ (v = true ↔ Led (rb (eOf ties)) (tok s)) ∧ Kn n c (eOf ties) (s.sum + 1) dd ∧ Fr (s.sum + 1) d dd) (ex_i (fun hc1 => ?_) fun hc1 => ?_) fun dd ⟨v, v1, v2, v3, v4⟩ => ex_b v v1 (ex_s ⟨v2, v3, v4⟩)
    · have l8 : (lefts n s).length ≤ 8 := by
        have := List.length_filter_le (fun p => decide (0 < tok s p)) (List.range n)
        rw [List.length_range] at this
        show ((List.range n).filter _).length ≤ _
        omega
      refine ex_g (by omega) (ex_b (lefts n s) ?_ (ex_g (by omega) (ex_b _ (lsubs_ok l8) (ex_e (foldO_ok (fun i (st : Bool × DK) => Kn n c (eOf ties) s.sum st.2 ∧ Fr s.sum d st.2 ∧ (st.1 = true → ∀ S ∈ (subs (lefts n s)).take i, S ≠ [] → ∃ P, P.Sublist S ∧ GoodP (eOf ties) s S P) ∧ (st.1 = false → ∃ S, S.Sublist (lefts n s) ∧ S ≠ [] ∧ ¬ ∃ P, P.Sublist S ∧ GoodP (eOf ties) s S P)) ⟨K.mono (by omega), Fr.refl, (fun _ S hS => by simp at hS), fun z => by cases z⟩ fun i S st hx ⟨i1, i2, i3, i4⟩ => ?_) fun r ⟨h1, h2, h3, h4⟩ => ex_g (by have := h1.len; omega) (ex_s ?_)))))
      · rw [hs]
        refine compO_filter (g := fun p => decide (0 < tok s p)) fun p hp => ?_
        have hp := List.mem_range.mp hp
        rw [tok_get (by omega)]
        show (if decide (0 < tok s p) = true then _ else _) = _
        cases decide (0 < tok s p) <;> rfl
      · obtain ⟨led, dd⟩ := st
        have sub : S.Sublist (lefts n s) := mem_subs.mp (List.mem_of_getElem? hx)
        cases led with
        | false => exact ⟨(false, dd), bind_of (a := (false, dd)) rfl rfl, i1, i2, (fun z => by cases z), fun _ => i4 rfl⟩
        | true =>
          by_cases ne : S = []
          · subst ne
            refine ⟨(true, dd), bind_of (a := (false, dd)) ((if_pos rfl).trans (bind_of (a := (false, dd)) rfl rfl)) rfl, i1, i2, fun _ Q hQ nQ => ?_, fun z => by cases z⟩
            rw [take_snoc hx, mem_snoc] at hQ
            rcases hQ with hQ | rfl
            · exact i3 rfl Q hQ nQ
            · exact absurd rfl nQ
          · obtain ⟨r, er, r1, r2, r3⟩ := lbest_ok t zt IH hs hb (by omega) (sub.nodup (lefts_nd n s)) ne (fun p hp => (mem_lefts hs).mp (sub.subset hp)) (Nat.le_trans sub.length_le l8) i1
            have F2 : Fr s.sum d r.2 := i2.trans r3 (Nat.le_refl _) (Nat.le_refl _)
            have eb : (if (!eqD S ([] : List Nat)) = true then ((f_l_best (f_l_led fu)) ties s S dd).bind fun x97 => some (x97.1.isNone, x97.2) else some (false, dd)) = some (r.1.isNone, r.2) := by
              rw [if_pos (by rw [eqD_no ne]; rfl)]
              exact bind_of er rfl
            by_cases hr : r.1.isNone = true
            · refine ⟨(false, r.2), bind_of (a := (r.1.isNone, r.2)) ((if_pos rfl).trans (bind_of eb rfl)) (if_pos hr), r2, F2, (fun z => by cases z), fun _ => ⟨S, sub, ne, ?_⟩⟩
              rw [r1] at hr
              exact find_none.mp hr
            · refine ⟨(true, r.2), bind_of (a := (r.1.isNone, r.2)) ((if_pos rfl).trans (bind_of eb rfl)) (if_neg hr), r2, F2, fun _ Q hQ nQ => ?_, fun z => by cases z⟩
              rw [take_snoc hx, mem_snoc] at hQ
              rcases hQ with hQ | rfl
              · exact i3 rfl Q hQ nQ
              · refine Classical.byContradiction fun z => hr ?_
                rw [r1]
                exact find_none.mpr z
      · have hv : r.1 = true ↔ Led (rb (eOf ties)) (tok s) := by
          rw [led_iff hs]
          constructor
          · intro z S hS ne
            exact h3 z S (by rw [List.take_length]; exact mem_subs.mpr hS) ne
          · intro z
            cases hr : r.1 with
            | true => rfl
            | false =>
              obtain ⟨S, q1, q2, q3⟩ := h4 hr
              exact absurd (z S q1 q2) q3
        refine ⟨r.1, by rw [dgetT_put, if_pos rfl], hv, (Kn.join h1 h2 K).put hs hb fun _ => hv, fun j hj => ?_⟩
        rw [dgetT_put, if_neg (fun z => by rw [z] at hj; omega)]
        exact h2 j (by omega)
    · have hc1 : (dgetT d s).isSome = true := by
        cases h : (dgetT d s).isSome with
        | true => rfl
        | false => rw [h] at hc1; cases hc1
      obtain ⟨v, hv⟩ := Option.isSome_iff_exists.mp hc1
      exact ex_s ⟨v, hv, K.ok s v hv (by omega), K, Fr.refl⟩
/-! the first one of the shortest -/
def Shorter (P Q : List Nat) : Prop := P.length < Q.length ∨ (P.length = Q.length ∧ P < Q)
theorem sht_le (S : List Nat) : (sht S).Pairwise fun P Q => ¬ Shorter Q P := by
  have le : ∀ P Q : List Nat, PySem.W.dataLe false (keyLen dtN) P Q = decide (P.length < Q.length ∨ (P.length = Q.length ∧ P ≤ Q)) := fun P Q => by
    have := congrFun (congrFun dataLe_nl ((P.length, P) : Nat × List Nat)) ((Q.length, Q) : Nat × List Nat)
    exact this
  have tr : ∀ a b c : List Nat, PySem.W.dataLe false (keyLen dtN) a b = true → PySem.W.dataLe false (keyLen dtN) b c = true → PySem.W.dataLe false (keyLen dtN) a c = true := fun a b c => by
    rw [le, le, le, decide_eq_true_eq, decide_eq_true_eq, decide_eq_true_eq]
    rintro (h | ⟨h, h2⟩) (k | ⟨k, k2⟩)
    · exact .inl (by omega)
    · exact .inl (by omega)
    · exact .inl (by omega)
    · exact .inr ⟨by omega, List.le_trans h2 k2⟩
  have to : ∀ a b : List Nat, (PySem.W.dataLe false (keyLen dtN) a b || PySem.W.dataLe false (keyLen dtN) b a) = true := fun a b => by
    rw [le, le, Bool.or_eq_true, decide_eq_true_eq, decide_eq_true_eq]
    rcases Nat.lt_trichotomy a.length b.length with h | h | h
    · exact .inl (.inl h)
    · rcases List.le_total a b with k | k
      · exact .inl (.inr ⟨h, k⟩)
      · exact .inr (.inr ⟨h.symm, k⟩)
    · exact .inr (.inl h)
  refine (List.pairwise_mergeSort tr to (subs S)).imp fun {P Q} h => ?_
  rw [le, decide_eq_true_eq] at h
  rintro (b | ⟨b, b2⟩)
  · rcases h with h | ⟨h, _⟩ <;> omega
  · rcases h with h | ⟨_, h⟩
    · omega
    · exact absurd b2 (List.not_lt.mpr h)
theorem find_short {S : List Nat} {q : List Nat → Bool} {o : Option (List Nat)} (h0 : o = none → ∀ P, P.Sublist S → q P = false) (h1 : ∀ B, o = some B → (B.Sublist S ∧ q B = true) ∧ ∀ P, P.Sublist S → q P = true → ¬ Shorter P B) : o = (sht S).find? q := by
  cases hf : (sht S).find? q with
  | none =>
    cases o with
    | none => rfl
    | some B => exact absurd (h1 B rfl).1.2 (List.find?_eq_none.mp hf B (mem_sht.mpr (h1 B rfl).1.1))
  | some F =>
    have fS := mem_sht.mp (List.mem_of_find?_eq_some hf)
    have fq := List.find?_some hf
    cases o with
    | none => rw [h0 rfl F fS] at fq; cases fq
    | some B =>
      obtain ⟨⟨b1, b2⟩, b3⟩ := h1 B rfl
      have n1 := b3 F fS fq
      have n2 : ¬ Shorter B F := fun b => by
        obtain ⟨_, l1, l2, e1, h2⟩ := List.find?_eq_some_iff_append.mp hf
        have hm := mem_sht.mpr b1
        rw [e1] at hm
        rcases List.mem_append.mp hm with m | m
        · have := h2 B m
          rw [b2] at this
          cases this
        · rcases List.mem_cons.mp m with m | m
          · rw [m] at b
            rcases b with b | ⟨_, b⟩
            · omega
            · exact absurd b (List.lt_irrefl _)
          · have pw := sht_le S
            rw [e1] at pw
            exact (List.pairwise_cons.mp (List.pairwise_append.mp pw).2.1).1 B m b
      have l : B.length = F.length := by
        rcases Nat.lt_trichotomy B.length F.length with h | h | h
        · exact absurd (.inl h) n2
        · exact h
        · exact absurd (.inl h) n1
      exact congrArg some (lex_tri (fun z => n2 (.inr ⟨l, z⟩)) fun z => n1 (.inr ⟨l.symm, z⟩))
theorem lfirst_ok {n : Nat} {ties : List Tie} {L : List Nat} {d : DK} (t : TOk n ties) (zt : ties.length ≤ 100000) (h : Toks n 3 L) (K : Kn n 3 (eOf ties) (L.sum + 1) d) :
    ∃ r, f_l_first ties L d = some r ∧ r.1 = (sht (List.range n)).find? (badB (eOf ties) L) ∧ Kn n 3 (eOf ties) L.sum r.2 := by
  have h8 := h.n8
  have hrows : ((subs (List.range n)).filter fun x => !eqD x ([] : List Nat)).length ≤ 100000 := by
    refine Nat.le_trans (List.length_filter_le _ _) ?_
    have : (subs (List.range n)).length = 1 * 2 ^ n := by
      unfold subs
      rw [subs_len, List.length_range]
      rfl
    rw [this]
    have := Nat.pow_le_pow_right (show 0 < 2 by decide) h8
    omega
  have mrows : ∀ P, P ∈ (subs (List.range n)).filter (fun x => !eqD x ([] : List Nat)) ↔ P.Sublist (List.range n) ∧ P ≠ [] := fun P => by
    rw [List.mem_filter, mem_subs, Bool.not_eq_true', Bool.eq_false_iff, Ne, eqD_iff]
  unfold f_l_first
  rw [h.len]
  refine ex_g (by omega) (ex_b _ (lsubs_ok (by rw [List.length_range]; exact h8)) (ex_b _ (compO_filter fun _ _ => ite_oo) (ex_g hrows (ex_g (by omega) (ex_e (A := fun o : Stp DK (Option (List Nat) × DK) => match o with
    | .nx dd => Kn n 3 (eOf ties) L.sum dd ∧ ∀ P, P.Sublist (List.range n) → badB (eOf ties) L P = false
    | .rt r => Kn n 3 (eOf ties) L.sum r.2 ∧ ∃ F, r.1 = some F ∧ F.Sublist (List.range n) ∧ badB (eOf ties) L F = true ∧ ∀ P, P.Sublist (List.range n) → badB (eOf ties) L P = true → ¬ Shorter P F
    | .bk _ => False) ?_ fun o ho => ?_)))))
  · refine loopO_cases (fun i dd => Kn n 3 (eOf ties) L.sum dd ∧ ∀ P, P.Sublist (List.range n) → P.length ≤ i → badB (eOf ties) L P = false) ⟨K.mono (by omega), fun P _ hl => ?_⟩ _ (fun i k dd hk ⟨i1, i2⟩ => ?_) fun dd ⟨i1, i2⟩ => ⟨i1, fun P hP => i2 P hP ?_⟩
    · cases P with
      | nil => exact Bool.eq_false_iff.mpr fun z => (badB_iff.mp z).1 rfl
      | cons a P => exact absurd hl (by rw [List.length_cons]; omega)
    · have hk2 : k = 1 + i ∧ i < n := by
        rw [List.getElem?_map] at hk
        obtain ⟨j, hj, rfl⟩ := Option.map_eq_some_iff.mp hk
        obtain ⟨rfl, hl⟩ := range_at hj
        exact ⟨rfl, by omega⟩
      obtain ⟨rfl, hin⟩ := hk2
      have mX : ∀ P, P ∈ ((subs (List.range n)).filter fun x => !eqD x ([] : List Nat)).filter (fun x => decide (x.length = 1 + i)) ↔ P.Sublist (List.range n) ∧ P.length = 1 + i := fun P => by
        rw [List.mem_filter, mrows, decide_eq_true_eq]
        exact ⟨fun ⟨⟨a, _⟩, b⟩ => ⟨a, b⟩, fun ⟨a, b⟩ => ⟨⟨a, fun z => by rw [z] at b; exact absurd b (by rw [List.length_nil]; omega)⟩, b⟩⟩
      have inner : ∃ o, loopO (S := DK) (T := (Option (List Nat) × DK)) (fun s107 (x108 : (List Nat)) =>
      ((f_l_best (f_l_led 17)) ties L x108 s107).bind fun x127 =>
      if x127.1.isNone = true then
        some (Stp.rt ((some x108), x127.2))
      else
        some (Stp.nx x127.2)) (lex (((subs (List.range n)).filter fun x => !eqD x ([] : List Nat)).filter fun x => decide (x.length = 1 + i))) dd = some o ∧ (match o with
          | .nx dd => Kn n 3 (eOf ties) L.sum dd ∧ ∀ P, P.Sublist (List.range n) → P.length = 1 + i → badB (eOf ties) L P = false
          | .rt r => Kn n 3 (eOf ties) L.sum r.2 ∧ ∃ F, r.1 = some F ∧ F.Sublist (List.range n) ∧ F.length = 1 + i ∧ badB (eOf ties) L F = true ∧ ∀ P, P.Sublist (List.range n) → P.length = 1 + i → badB (eOf ties) L P = true → ¬ P < F
          | .bk _ => False) := by
        generalize hX : (((subs (List.range n)).filter fun x => !eqD x ([] : List Nat)).filter fun x => decide (x.length = 1 + i)) = X at mX
        refine loopO_cases (fun j dd => Kn n 3 (eOf ties) L.sum dd ∧ ∀ P ∈ (lex X).take j, badB (eOf ties) L P = false) ⟨i1, fun P hP => by simp at hP⟩ _ (fun j S dd hx ⟨j1, j2⟩ => ?_) fun dd ⟨j1, j2⟩ => ⟨j1, fun P hP hl => j2 P (by rw [List.take_length]; exact mem_lex.mpr ((mX P).mpr ⟨hP, hl⟩))⟩
        obtain ⟨sub, len⟩ := (mX S).mp (mem_lex.mp (List.mem_of_getElem? hx))
        have ne : S ≠ [] := fun z => by rw [z] at len; exact absurd len (by rw [List.length_nil]; omega)
        have pw : (3 + 1) ^ n < 100000 := h.pw
        obtain ⟨r, er, r1, r2, r3⟩ := lbest_ok t zt (lled_ok t zt h8 pw 17) h.len h.hi (by have := h.sum; omega) (sub.nodup List.nodup_range) ne (fun p hp => h.live (List.mem_range.mp (sub.subset hp))) (Nat.le_trans sub.length_le (by rw [List.length_range]; exact h8)) j1
        by_cases hr : r.1.isNone = true
        · have hg : badB (eOf ties) L S = true := badB_iff.mpr ⟨ne, by rw [r1] at hr; exact find_none.mp hr⟩
          refine .inr (.inr ⟨(some S, r.2), bind_of er (if_pos hr), r2, S, rfl, sub, len, hg, fun P hP hl hb lt => ?_⟩)
          obtain ⟨m, hm⟩ := List.mem_iff_getElem?.mp (mem_lex.mpr ((mX P).mpr ⟨hP, hl⟩))
          obtain ⟨l1, e1⟩ := List.getElem?_eq_some_iff.mp hm
          obtain ⟨l2, e2⟩ := List.getElem?_eq_some_iff.mp hx
          rcases Nat.lt_trichotomy m j with c | c | c
          · have : P ∈ (lex X).take j := List.mem_iff_getElem?.mpr ⟨m, by rw [List.getElem?_take, if_pos c]; exact hm⟩
            rw [j2 P this] at hb
            cases hb
          · rw [c, hx] at hm
            cases hm
            exact absurd lt (List.lt_irrefl _)
          · have := List.pairwise_iff_getElem.mp (lex_le X) j m l2 l1 c
            rw [e1, e2] at this
            exact absurd lt (List.not_lt.mpr this)
        · refine .inl ⟨r.2, bind_of er (if_neg hr), r2, fun Q hQ => ?_⟩
          rw [take_snoc hx, mem_snoc] at hQ
          rcases hQ with hQ | rfl
          · exact j2 Q hQ
          · exact Bool.eq_false_iff.mpr fun z => by rw [r1] at hr; exact hr (find_none.mpr (badB_iff.mp z).2)
      obtain ⟨o, eo, ho⟩ := inner
      have zf : (((subs (List.range n)).filter fun x => !eqD x ([] : List Nat)).filter fun x => decide (x.length = 1 + i)).length ≤ 100000 := Nat.le_trans (List.length_filter_le _ _) hrows
      cases o with
      | nx d2 =>
        obtain ⟨o1, o2⟩ := ho
        refine .inl ⟨d2, bind_of (compO_filter fun _ _ => ite_oo) (bind_of (gd_true zf) (bind_of eo rfl)), o1, fun P hP hl => ?_⟩
        by_cases c : P.length ≤ i
        · exact i2 P hP c
        · exact o2 P hP (by omega)
      | rt r =>
        obtain ⟨o1, F, o2, o3, o4, o5, o6⟩ := ho
        refine .inr (.inr ⟨r, bind_of (compO_filter fun _ _ => ite_oo) (bind_of (gd_true zf) (bind_of eo rfl)), o1, F, o2, o3, o5, fun P hP hb => ?_⟩)
        rintro (c | ⟨c, c2⟩)
        · rw [i2 P hP (by omega)] at hb
          cases hb
        · exact o6 P hP (by omega) hb c2
      | bk _ => exact ho.elim
    · have := hP.length_le
      rw [List.length_range] at this
      rw [List.length_map, List.length_range]
      omega
  · cases o with
    | nx dd =>
      obtain ⟨o1, o2⟩ := ho
      exact ex_s ⟨find_short (fun _ P hP => o2 P hP) (fun B z => by cases z), o1⟩
    | rt r =>
      obtain ⟨o1, F, o2, o3, o4, o5⟩ := ho
      refine ex_s ⟨find_short (fun z => by rw [o2] at z; cases z) fun B e => ?_, o1⟩
      rw [o2] at e
      cases e
      exact ⟨⟨o3, o4⟩, fun P hP hb => o5 P hP hb⟩
    | bk _ => exact ho.elim
theorem ex_optS {α β : Type} {o : Option α} {A : Option β} {B : α → Option β} {P : β → Prop} {z : α} (h : o = some z) (q : ∃ r, B z = some r ∧ P r) : ∃ r, optE o A B = some r ∧ P r := by subst h; exact q
theorem ex_optN {α β : Type} {o : Option α} {A : Option β} {B : α → Option β} {P : β → Prop} (h : o = none) (q : ∃ r, A = some r ∧ P r) : ∃ r, optE o A B = some r ∧ P r := by subst h; exact q
theorem nx_of {S T : Type} {m : Option (Stp S T)} {I : S → Prop} (h : ∃ r, m = some r ∧ ∃ s', r = .nx s' ∧ I s') : ∃ s', m = some (.nx s') ∧ I s' := by
  obtain ⟨r, er, s', rfl, hs⟩ := h
  exact ⟨s', er, hs⟩
theorem latQ {l : List Nat} {p : Nat} (h : p < l.length) : l[p]? = some (l.getD p 0) := by rw [List.getD_eq_getElem?_getD, List.getElem?_eq_getElem h]; rfl
def rows64 (n : Nat) : List (List Nat) := (subs (List.range n)).filter fun x => !eqD x ([] : List Nat)
theorem mem_rows {n : Nat} {P : List Nat} : P ∈ rows64 n ↔ P.Sublist (List.range n) ∧ P ≠ [] := by
  unfold rows64
  rw [List.mem_filter, mem_subs, Bool.not_eq_true', Bool.eq_false_iff, Ne, eqD_iff]
theorem inner64 {n : Nat} {ties : List Tie} {L : List Nat} (t : TOk n ties) (zt : ties.length ≤ 100000) (h : Toks n 3 L) (xs : List Nat) (d : DK) (K : Kn n 3 (eOf ties) L.sum d) : ∃ o, loopO (S := (List ((List Nat) × Bool))) (T := Bool) (fun s636 (x637 : Nat) =>
            if (decide (n = 0)) = true then
              some (Stp.bk s636)
            else
              (gd (0 < (rows64 n).length)).bind fun _ =>
              ((rows64 n)[(x637 % (rows64 n).length)]?).bind fun x669 =>
              (f_painting (nbs n (eOf ties)) L x669).bind fun x686 =>
              optE x686 (
                ((f_l_best (f_l_led 17)) ties L x669 s636).bind fun x777 =>
                if ((!eqD (none : Option (List Nat)) x777.1) || ((!eqD L L) || (!eqD x669 x669))) = true then
                  some (Stp.rt false)
                else
                  if (false && false) = true then
                    some (Stp.rt false)
                  else
                    (
                      some ()
                      : Option (Unit)).bind fun x811 =>
                    if (!eqD x669 x669) = true then
                      some (Stp.rt false)
                    else
                      some (Stp.nx x777.2)
                ) (fun l689 =>
                ((f_l_best (f_l_led 17)) ties L x669 s636).bind fun x705 =>
                if ((!eqD (some l689) x705.1) || ((!eqD L L) || (!eqD x669 x669))) = true then
                  some (Stp.rt false)
                else
                  (if true = true then (
                      (f_l_wholes l689).bind fun x739 =>
                      some (!x739)
                    ) else some false).bind fun b750 =>
                  if b750 = true then
                    some (Stp.rt false)
                  else
                    (
                      (gd (l689.length < 100000)).bind fun _ =>
                      some (l689 ++ [n])
                      : Option ((List Nat))).bind fun x756 =>
                    if (!eqD x669 x669) = true then
                      some (Stp.rt false)
                    else
                      some (Stp.nx x705.2)
                )) xs d = some o ∧ ∃ d', o = .nx d' ∨ o = .bk d' := by
  refine loopO_cases (fun _ dd => Kn n 3 (eOf ties) L.sum dd) K (fun o => ∃ d', o = .nx d' ∨ o = .bk d') (fun i x dd hx hK => ?_) fun dd _ => ⟨dd, .inl rfl⟩
  by_cases n0 : n = 0
  · exact .inr (.inl ⟨dd, if_pos (decide_eq_true n0), dd, .inr rfl⟩)
  · refine .inl (nx_of (ex_n (decide_eq_false n0) ?_))
    have h8 := h.n8
    have hm : [0] ∈ rows64 n := mem_rows.mpr ⟨List.singleton_sublist.mpr (List.mem_range.mpr (by omega)), by decide⟩
    have pos : 0 < (rows64 n).length := List.length_pos_of_mem hm
    obtain ⟨S, hS⟩ : ∃ S, (rows64 n)[(x % (rows64 n).length)]? = some S := ⟨_, List.getElem?_eq_getElem (Nat.mod_lt _ pos)⟩
    obtain ⟨sub, ne⟩ := mem_rows.mp (List.mem_of_getElem? hS)
    have pw : (3 + 1) ^ n < 100000 := h.pw
    obtain ⟨r, er, r1, r2, r3⟩ := lbest_ok t zt (lled_ok t zt h8 pw 17) h.len h.hi (by have := h.sum; omega) (sub.nodup List.nodup_range) ne (fun p hp => h.live (List.mem_range.mp (sub.subset hp))) (Nat.le_trans sub.length_le (by rw [List.length_range]; exact h8)) hK
    refine ex_g pos (ex_b S hS (ex_b _ (painting_ok t.gr h sub ne) ?_))
    cases hF : (lng S).find? (goodB (eOf ties) L S) with
    | none =>
      rw [hF] at r1
      exact ex_b r er (ex_n (by rw [r1, eqD_self, eqD_self, eqD_self]; rfl) (ex_n rfl (ex_b () rfl (ex_n (by rw [eqD_self]; rfl) ⟨_, rfl, r.2, rfl, r2⟩))))
    | some F =>
      rw [hF] at r1
      have FS := mem_lng.mp (List.mem_of_find?_eq_some hF)
      have zF : F.length ≤ 8 := by
        have h1 := FS.length_le
        have h2 := sub.length_le
        rw [List.length_range] at h2
        omega
      exact ex_b r er (ex_n (by rw [r1, eqD_self, eqD_self, eqD_self]; rfl) (ex_b false ((if_pos rfl).trans (bind_of (wholes_ok (by omega)) rfl)) (ex_n rfl (ex_b (F ++ [n]) (bind_of (gd_true (by omega)) rfl) (ex_n (by rw [eqD_self]; rfl) ⟨_, rfl, r.2, rfl, r2⟩)))))
def sz64 : List Nat := (([4, 4, 4] ++ (List.replicate 4 [3]).flatten) ++ (List.replicate 6 [6]).flatten) ++ (List.replicate 5 [105]).flatten
theorem sz64_pos : ∀ s ∈ sz64, 0 < s ∧ s < 1073741824 := by decide
theorem sz64_at : ∀ i, i < 4 → sz64[3 + i]? = some 3 := by decide
theorem law_true (ns : List Int) : ∃ r, f_law ns = some r ∧ r = true := by
  unfold f_law
  refine ex_e (loop_nx fun i x s hx => ?_) fun e ⟨s, he⟩ => by subst he; exact ⟨true, rfl, rfl⟩
  refine ex_g (by decide) (ex_g (by decide) (ex_g (by decide) (ex_g (by decide) (ex_g (by decide) (ex_g (by decide) (ex_e (draws_ok (sizes := sz64) sz64_pos (by decide)) fun d hd => ?_))))))
  have ld : d.length = 18 := hd.len
  obtain ⟨v0, e0, l0⟩ := hd.get (i := 0) (s := 4) rfl
  obtain ⟨v1, e1, l1⟩ := hd.get (i := 1) (s := 4) rfl
  obtain ⟨v2, e2, l2⟩ := hd.get (i := 2) (s := 4) rfl
  have h3 : v0 / 3 = 0 ∨ v0 / 3 = 1 := by omega
  obtain ⟨n, en, hn⟩ : ∃ n, [v1, 4][v0 / 3]? = some n ∧ n ≤ 4 := by
    rcases h3 with h | h
    · exact ⟨v1, by rw [h]; rfl, by omega⟩
    · exact ⟨4, by rw [h]; rfl, by omega⟩
  obtain ⟨c, ec, c0, c3⟩ : ∃ c, [3, 2][v0 / 3]? = some c ∧ 0 < c ∧ c ≤ 3 := by
    rcases h3 with h | h
    · exact ⟨3, by rw [h]; rfl, by decide, by decide⟩
    · exact ⟨2, by rw [h]; rfl, by decide, by decide⟩
  refine ex_b v1 e1 (ex_b v0 e0 (ex_b n en (ex_g (by omega) (ex_b ((List.range n).map fun i => 1 + d.getD (3 + i) 0 % c) (compO_all fun i hi => ?_) ?_))))
  · have hi := List.mem_range.mp hi
    exact bind_of (latQ (by omega)) (bind_of e0 (bind_of ec (bind_of (gd_true c0) rfl)))
  generalize hL : (List.range n).map (fun i => 1 + d.getD (3 + i) 0 % c) = L
  have lL : L.length = n := by rw [← hL, List.length_map, List.length_range]
  have L3 : ∀ x ∈ L, 1 ≤ x ∧ x ≤ 3 := fun x hx => by
    rw [← hL] at hx
    obtain ⟨i, _, rfl⟩ := List.mem_map.mp hx
    have := Nat.mod_lt (d.getD (3 + i) 0) c0
    omega
  have T := toks3 (by omega : n ≤ 5) lL L3
  refine ex_g (by omega) (ex_b v2 e2 (ex_e (lties_ok (by omega) l2 (by rw [List.length_drop]; omega)) fun ties t => ?_))
  have zt : ties.length ≤ 100000 := by
    have := tok_len t
    have h2 : n * n ≤ 4 * 4 := Nat.mul_le_mul hn hn
    omega
  have pw : (3 + 1) ^ n < 100000 := T.pw
  obtain ⟨side, es, hside⟩ := leader_ok t.gr T
  obtain ⟨r, er, r1, r2, _⟩ := lled_ok t zt (by omega) pw 17 L [] lL T.hi T.sum Kn.nil
  obtain ⟨q, eq, q1, q2⟩ := lfirst_ok t zt T r2
  have due : (["foe", "painter"] : List Str)[r.1.toNat]? = some side := by
    cases hr : r.1 with
    | true =>
      rcases hside with ⟨a, _⟩ | ⟨_, b⟩
      · rw [a]; rfl
      · exact absurd (r1.mp hr) b
    | false =>
      rcases hside with ⟨_, b⟩ | ⟨a, _⟩
      · rw [r1.mpr b] at hr; cases hr
      · rw [a]; rfl
  have zr : (rows64 n).length ≤ 100000 := by
    refine Nat.le_trans (List.length_filter_le _ _) ?_
    have : (subs (List.range n)).length = 1 * 2 ^ n := by
      unfold subs
      rw [subs_len, List.length_range]
      rfl
    rw [this]
    have := Nat.pow_le_pow_right (show 0 < 2 by decide) hn
    omega
  have zc : (d.drop 13).length + (cutL d (some ((13 : Nat) : Int)) (some ((14 : Nat) : Int))).length ≤ 100000 := by
    rw [cut_nat (by omega) (by omega), List.length_take, List.length_drop]
    omega
  have sh := showing_ok t.gr T
  refine ex_b _ (mkWeb_rev t (by omega)) (ex_b side es (ex_b r er (ex_b side due (ex_n (by rw [decide_eq_true rfl]; rfl) (ex_b q eq (ex_g (by omega) (ex_b _ (lsubs_ok (by rw [List.length_range]; omega)) (ex_b (rows64 n) (compO_filter fun _ _ => ite_oo) (ex_g zr (ex_b _ sh ?_))))))))))
  cases hS : (sht (List.range n)).find? (badB (eOf ties) L) with
  | none =>
    rw [hS] at q1 sh
    refine ex_n (by rw [q1, eqD_self, eqD_self]; rfl) (ex_b () rfl (ex_g zc (ex_e (inner64 t zt T _ q.2 q2) fun o ⟨d', ho⟩ => ?_)))
    rcases ho with rfl | rfl
    · exact ex_b _ sh (ex_n (by rw [q1, eqD_self]; rfl) ⟨_, rfl, (), rfl⟩)
    · exact ex_b _ sh (ex_n (by rw [q1, eqD_self]; rfl) ⟨_, rfl, (), rfl⟩)
  | some F =>
    have FS := mem_sht.mp (List.mem_of_find?_eq_some hS)
    have zF : F.length ≤ 4 := by
      have h1 := FS.length_le
      rw [List.length_range] at h1
      omega
    rw [hS] at q1 sh
    refine ex_b false ((if_neg (by rw [q1, eqD_self]; decide)).trans (bind_of (a := false) ((if_pos rfl).trans (bind_of (wholes_ok (by omega)) rfl)) (by rw [eqD_self]; rfl))) (ex_n rfl (ex_b ([] : List Nat) rfl (ex_g zc (ex_e (inner64 t zt T _ q.2 q2) fun o ⟨d', ho⟩ => ?_))))
    rcases ho with rfl | rfl
    · exact ex_b _ sh (ex_n (by rw [q1, eqD_self]; rfl) ⟨_, rfl, (), rfl⟩)
    · exact ex_b _ sh (ex_n (by rw [q1, eqD_self]; rfl) ⟨_, rfl, (), rfl⟩)
abbrev s_l_whole : Stmt := topS 31
theorem sc_l_whole : FnScope ["found"] ["found"] (defScope s_l_whole) := ⟨rfl, rfl, rfl, by decide +kernel, rfl, by decide +kernel, by decide +kernel⟩
section
variable {P : Program} {w : World} {K : PySem.W.Frag} {mg : Str → Option Value} {base : Heap}
theorem c_l_whole (T : Tx mg) (F : DefAt K mg "_law_whole" s_l_whole ["found"]) : Cal P w K mg base CX0 1 "_law_whole" (spIsInt K) := by
  refine F.cal sc_l_whole (fun vs H Q E h => ?_) (fun f cdv A outer s H vs Q E hr h => ?_)
  · obtain ⟨x, T, rfl, _⟩ := h
    rfl
  · obtain ⟨x, Ty, rfl, k, q⟩ := h
    refine ⟨_, (pss_one (ps_ret (pe_and (pe_callB (cl_isi K) (by rfl) T.z_isinstance (by decide +kernel) (pa_cons (pv 0) (pa_cons (pe_bltn (v := .ty "int") (by rfl) T.z_int (by decide +kernel) rfl) pa_nil))) (pe_one (pe_not (pe_callB (cl_isi K) (by rfl) T.z_isinstance (by decide +kernel) (pa_cons (pv 0) (pa_cons (pe_bltn (v := .ty "bool") (by rfl) T.z_bool (by decide +kernel) rfl) pa_nil)))))))), ?_⟩
    walk_at "go"
    refine x_isInt k ?_
    walk_at "go"
    refine x_itb (fun c => ?_) (fun c => ?_)
    · walk_at "go"
      refine x_isBool k ?_
      walk_at "go"
      rw [isint_val k.mem c]
      exact q
    · rw [isint_no c] at q
      exact q
end
section
variable {K : PySem.W.Frag}
theorem law_tab {H : Hp} {a : Addr} {ns : List Int} {E : XK} (t : LamX.Tabs TL H) (hs : SqL K H a (ns.map V.int)) : (q_law TL K) [.ref a] H (fun v _ => v = .bl true) E := by
  obtain ⟨r, e, t'⟩ := law_true ns
  exact ⟨cutT H, .ref a, ns, r, rfl, same_cutT H, noT_cutT H, t, ⟨a, rfl, sql_cutT hs⟩, e, fun v F' H' x rv => by
    rw [show v = _ from rv, t']⟩
end
theorem all_mk {l : PySem.W.OpenLaw} {w : World} {K : PySem.W.Frag} {h : Heap} {mg : Str → Option Value} {fa : Addr} {C_Web : Addr} {f0 : Addr} {oc0 kV0 dc0 pm0 cd0 ct0 : Value} {od0 an0 : Option Addr} {sl0 : Array (Option Value)} {f1 : Addr} {oc1 kV1 dc1 pm1 cd1 ct1 : Value} {od1 an1 : Option Addr} {sl1 : Array (Option Value)} {f2 : Addr} {oc2 kV2 dc2 pm2 cd2 ct2 : Value} {od2 an2 : Option Addr} {sl2 : Array (Option Value)} {f3 : Addr} {oc3 kV3 dc3 pm3 cd3 ct3 : Value} {od3 an3 : Option Addr} {sl3 : Array (Option Value)} {f4 : Addr} {oc4 kV4 dc4 pm4 cd4 ct4 : Value} {od4 an4 : Option Addr} {sl4 : Array (Option Value)} {f5 : Addr} {oc5 kV5 dc5 pm5 cd5 ct5 : Value} {od5 an5 : Option Addr} {sl5 : Array (Option Value)} {f6 : Addr} {oc6 kV6 dc6 pm6 cd6 ct6 : Value} {od6 an6 : Option Addr} {sl6 : Array (Option Value)} {f7 : Addr} {oc7 kV7 dc7 pm7 cd7 ct7 : Value} {od7 an7 : Option Addr} {sl7 : Array (Option Value)} {f8 : Addr} {oc8 kV8 dc8 pm8 cd8 ct8 : Value} {od8 an8 : Option Addr} {sl8 : Array (Option Value)} {f9 : Addr} {oc9 kV9 dc9 pm9 ct9 : Value} {od9 an9 : Option Addr} {sl9 : Array (Option Value)} {cc9 pp9 : Addr} {oq9 : Option Addr} {vq9 : Array Value} {sq9 : Array (Option Value)} {f10 : Addr} {oc10 kV10 dc10 pm10 ct10 : Value} {od10 an10 : Option Addr} {sl10 : Array (Option Value)} {cc10 pp10 : Addr} {oq10 : Option Addr} {vq10 : Array Value} {sq10 : Array (Option Value)} {f11 : Addr} {oc11 kV11 dc11 pm11 cd11 ct11 : Value} {od11 an11 : Option Addr} {sl11 : Array (Option Value)} {f12 : Addr} {oc12 kV12 dc12 pm12 cd12 ct12 : Value} {od12 an12 : Option Addr} {sl12 : Array (Option Value)} {f13 : Addr} {oc13 kV13 dc13 pm13 cd13 ct13 : Value} {od13 an13 : Option Addr} {sl13 : Array (Option Value)} {f14 : Addr} {oc14 kV14 dc14 pm14 cd14 ct14 : Value} {od14 an14 : Option Addr} {sl14 : Array (Option Value)} {f15 : Addr} {oc15 kV15 dc15 pm15 cd15 ct15 : Value} {od15 an15 : Option Addr} {sl15 : Array (Option Value)} {f16 : Addr} {oc16 kV16 dc16 pm16 cd16 ct16 : Value} {od16 an16 : Option Addr} {sl16 : Array (Option Value)} {f17 : Addr} {oc17 kV17 dc17 pm17 cd17 ct17 : Value} {od17 an17 : Option Addr} {sl17 : Array (Option Value)} {f18 : Addr} {oc18 kV18 dc18 pm18 cd18 ct18 : Value} {od18 an18 : Option Addr} {sl18 : Array (Option Value)} {f19 : Addr} {oc19 kV19 dc19 pm19 cd19 ct19 : Value} {od19 an19 : Option Addr} {sl19 : Array (Option Value)} {f20 : Addr} {oc20 kV20 dc20 pm20 cd20 ct20 : Value} {od20 an20 : Option Addr} {sl20 : Array (Option Value)} {f21 : Addr} {oc21 kV21 dc21 pm21 cd21 ct21 : Value} {od21 an21 : Option Addr} {sl21 : Array (Option Value)} {f22 : Addr} {oc22 kV22 dc22 pm22 cd22 ct22 : Value} {od22 an22 : Option Addr} {sl22 : Array (Option Value)} {f23 : Addr} {oc23 kV23 dc23 pm23 cd23 ct23 : Value} {od23 an23 : Option Addr} {sl23 : Array (Option Value)} {f24 : Addr} {oc24 kV24 dc24 pm24 cd24 ct24 : Value} {od24 an24 : Option Addr} {sl24 : Array (Option Value)} {f25 : Addr} {oc25 kV25 dc25 pm25 cd25 ct25 : Value} {od25 an25 : Option Addr} {sl25 : Array (Option Value)} {f26 : Addr} {oc26 kV26 dc26 pm26 cd26 ct26 : Value} {od26 an26 : Option Addr} {sl26 : Array (Option Value)} {f27 : Addr} {oc27 kV27 dc27 pm27 cd27 ct27 : Value} {od27 an27 : Option Addr} {sl27 : Array (Option Value)} {f28 : Addr} {oc28 kV28 dc28 pm28 cd28 ct28 : Value} {od28 an28 : Option Addr} {sl28 : Array (Option Value)} {f29 : Addr} {oc29 kV29 dc29 pm29 cd29 ct29 : Value} {od29 an29 : Option Addr} {sl29 : Array (Option Value)} {f30 : Addr} {oc30 kV30 dc30 pm30 cd30 ct30 : Value} {od30 an30 : Option Addr} {sl30 : Array (Option Value)} {f31 : Addr} {oc31 kV31 dc31 pm31 cd31 ct31 : Value} {od31 an31 : Option Addr} {sl31 : Array (Option Value)}
    (X : K.In h) (G : h.Ns mainGlobals mg) (hfa : mg "law" = some (.ref fa))
    (aC_Web : PySem.W.nsIn K mainGlobals "Web" = some (some (.ref C_Web)))
    (pg_Web : PySem.W.plainGet K C_Web Str.empty = true)
    (hd_Web : PySem.W.hasDictIn K C_Web = true)
    (po_Web : PySem.W.plainOver K C_Web = true)
    (sa_Web : PySem.W.findIn K (.ref C_Web) "__setattr__" = some (some (.builtin "object.__setattr__")))
    (mk_Web : PySem.W.makesIn K C_Web = true)
    (kc_Web : PySem.W.keepIn K (.ref C_Web) = true)
    (n_Web_beside : PySem.W.findIn K (.ref C_Web) "beside" = some none)
    (z_abs : PySem.W.nsIn K mainGlobals "abs" = some none)
    (z_all : PySem.W.nsIn K mainGlobals "all" = some none)
    (z_any : PySem.W.nsIn K mainGlobals "any" = some none)
    (z_bool : PySem.W.nsIn K mainGlobals "bool" = some none)
    (z_enumerate : PySem.W.nsIn K mainGlobals "enumerate" = some none)
    (z_int : PySem.W.nsIn K mainGlobals "int" = some none)
    (z_isinstance : PySem.W.nsIn K mainGlobals "isinstance" = some none)
    (z_len : PySem.W.nsIn K mainGlobals "len" = some none)
    (z_list : PySem.W.nsIn K mainGlobals "list" = some none)
    (z_property : PySem.W.nsIn K mainGlobals "property" = some none)
    (z_range : PySem.W.nsIn K mainGlobals "range" = some none)
    (z_sorted : PySem.W.nsIn K mainGlobals "sorted" = some none)
    (z_tuple : PySem.W.nsIn K mainGlobals "tuple" = some none)
    (a0 : PySem.W.nsIn K mainGlobals "is_integer" = some (some (.ref f0)))
    (l0 : K.lookup f0 = some ⟨oc0, od0, .func (PySem.W.fnOf "is_integer" "is_integer" (defArgs s_is_integer) (defBody s_is_integer) (defScope s_is_integer) .none kV0 dc0 pm0 an0 cd0 ct0), sl0⟩)
    (c0 : PySem.W.codeIn K cd0 "is_integer" = true)
    (k0 : PySem.W.keepIn K (.ref f0) = true)
    (a1 : PySem.W.nsIn K mainGlobals "is_tie" = some (some (.ref f1)))
    (l1 : K.lookup f1 = some ⟨oc1, od1, .func (PySem.W.fnOf "is_tie" "is_tie" (defArgs s_is_tie) (defBody s_is_tie) (defScope s_is_tie) .none kV1 dc1 pm1 an1 cd1 ct1), sl1⟩)
    (c1 : PySem.W.codeIn K cd1 "is_tie" = true)
    (k1 : PySem.W.keepIn K (.ref f1) = true)
    (a2 : PySem.W.findIn K (.ref C_Web) "__init__" = some (some (.ref f2)))
    (i2 : PySem.W.isFn K (.ref f2) = true)
    (l2 : K.lookup f2 = some ⟨oc2, od2, .func (PySem.W.fnOf "__init__" "Web.__init__" (defArgs s_WebD_initD) (defBody s_WebD_initD) (defScope s_WebD_initD) .none kV2 dc2 pm2 an2 cd2 ct2), sl2⟩)
    (c2 : PySem.W.codeIn K cd2 "Web.__init__" = true)
    (k2 : PySem.W.keepIn K (.ref f2) = true)
    (a3 : PySem.W.findIn K (.ref C_Web) "__len__" = some (some (.ref f3)))
    (i3 : PySem.W.isFn K (.ref f3) = true)
    (l3 : K.lookup f3 = some ⟨oc3, od3, .func (PySem.W.fnOf "__len__" "Web.__len__" (defArgs s_WebD_lenD) (defBody s_WebD_lenD) (defScope s_WebD_lenD) .none kV3 dc3 pm3 an3 cd3 ct3), sl3⟩)
    (c3 : PySem.W.codeIn K cd3 "Web.__len__" = true)
    (k3 : PySem.W.keepIn K (.ref f3) = true)
    (a4 : PySem.W.findIn K (.ref C_Web) "is_place" = some (some (.ref f4)))
    (i4 : PySem.W.isFn K (.ref f4) = true)
    (l4 : K.lookup f4 = some ⟨oc4, od4, .func (PySem.W.fnOf "is_place" "Web.is_place" (defArgs s_Web_is_place) (defBody s_Web_is_place) (defScope s_Web_is_place) .none kV4 dc4 pm4 an4 cd4 ct4), sl4⟩)
    (c4 : PySem.W.codeIn K cd4 "Web.is_place" = true)
    (k4 : PySem.W.keepIn K (.ref f4) = true)
    (a5 : PySem.W.findIn K (.ref C_Web) "neighbours" = some (some (.ref f5)))
    (i5 : PySem.W.isFn K (.ref f5) = true)
    (l5 : K.lookup f5 = some ⟨oc5, od5, .func (PySem.W.fnOf "neighbours" "Web.neighbours" (defArgs s_Web_neighbours) (defBody s_Web_neighbours) (defScope s_Web_neighbours) .none kV5 dc5 pm5 an5 cd5 ct5), sl5⟩)
    (c5 : PySem.W.codeIn K cd5 "Web.neighbours" = true)
    (k5 : PySem.W.keepIn K (.ref f5) = true)
    (a6 : PySem.W.nsIn K mainGlobals "is_length" = some (some (.ref f6)))
    (l6 : K.lookup f6 = some ⟨oc6, od6, .func (PySem.W.fnOf "is_length" "is_length" (defArgs s_is_length) (defBody s_is_length) (defScope s_is_length) .none kV6 dc6 pm6 an6 cd6 ct6), sl6⟩)
    (c6 : PySem.W.codeIn K cd6 "is_length" = true)
    (k6 : PySem.W.keepIn K (.ref f6) = true)
    (a7 : PySem.W.nsIn K mainGlobals "check_lengths" = some (some (.ref f7)))
    (l7 : K.lookup f7 = some ⟨oc7, od7, .func (PySem.W.fnOf "check_lengths" "check_lengths" (defArgs s_check_lengths) (defBody s_check_lengths) (defScope s_check_lengths) .none kV7 dc7 pm7 an7 cd7 ct7), sl7⟩)
    (c7 : PySem.W.codeIn K cd7 "check_lengths" = true)
    (k7 : PySem.W.keepIn K (.ref f7) = true)
    (a8 : PySem.W.nsIn K mainGlobals "subsets" = some (some (.ref f8)))
    (l8 : K.lookup f8 = some ⟨oc8, od8, .func (PySem.W.fnOf "subsets" "subsets" (defArgs s_subsets) (defBody s_subsets) (defScope s_subsets) .none kV8 dc8 pm8 an8 cd8 ct8), sl8⟩)
    (c8 : PySem.W.codeIn K cd8 "subsets" = true)
    (k8 : PySem.W.keepIn K (.ref f8) = true)
    (a9 : PySem.W.nsIn K mainGlobals "shortest_first" = some (some (.ref f9)))
    (l9 : K.lookup f9 = some ⟨oc9, od9, .func (PySem.W.fnOf "shortest_first" "shortest_first" (defArgs s_shortest_first) (defBody s_shortest_first) (defScope s_shortest_first) .none kV9 dc9 pm9 an9 (.ref cc9) ct9), sl9⟩)
    (c9 : PySem.W.codeIn K (.ref cc9) "shortest_first" = true)
    (k9 : PySem.W.keepIn K (.ref f9) = true)
    (tn9 : K.lookup cc9 = some ⟨.type "code", oq9, .fields vq9, sq9⟩)
    (tp9 : vq9[11]? = some (.ref pp9))
    (th9 : PySem.W.codeHdIn K cc9 pp9 = true)
    (to9 : K.lookup pp9 = none)
    (te9 : h.get? pp9 = some { cls := .none, data := .fields #[] })
    (a10 : PySem.W.nsIn K mainGlobals "longest_first" = some (some (.ref f10)))
    (l10 : K.lookup f10 = some ⟨oc10, od10, .func (PySem.W.fnOf "longest_first" "longest_first" (defArgs s_longest_first) (defBody s_longest_first) (defScope s_longest_first) .none kV10 dc10 pm10 an10 (.ref cc10) ct10), sl10⟩)
    (c10 : PySem.W.codeIn K (.ref cc10) "longest_first" = true)
    (k10 : PySem.W.keepIn K (.ref f10) = true)
    (tn10 : K.lookup cc10 = some ⟨.type "code", oq10, .fields vq10, sq10⟩)
    (tp10 : vq10[11]? = some (.ref pp10))
    (th10 : PySem.W.codeHdIn K cc10 pp10 = true)
    (to10 : K.lookup pp10 = none)
    (te10 : h.get? pp10 = some { cls := .none, data := .fields #[] })
    (a11 : PySem.W.nsIn K mainGlobals "are_apart" = some (some (.ref f11)))
    (l11 : K.lookup f11 = some ⟨oc11, od11, .func (PySem.W.fnOf "are_apart" "are_apart" (defArgs s_are_apart) (defBody s_are_apart) (defScope s_are_apart) .none kV11 dc11 pm11 an11 cd11 ct11), sl11⟩)
    (c11 : PySem.W.codeIn K cd11 "are_apart" = true)
    (k11 : PySem.W.keepIn K (.ref f11) = true)
    (a12 : PySem.W.nsIn K mainGlobals "after_round" = some (some (.ref f12)))
    (l12 : K.lookup f12 = some ⟨oc12, od12, .func (PySem.W.fnOf "after_round" "after_round" (defArgs s_after_round) (defBody s_after_round) (defScope s_after_round) .none kV12 dc12 pm12 an12 cd12 ct12), sl12⟩)
    (c12 : PySem.W.codeIn K cd12 "after_round" = true)
    (k12 : PySem.W.keepIn K (.ref f12) = true)
    (a13 : PySem.W.nsIn K mainGlobals "without_safe" = some (some (.ref f13)))
    (l13 : K.lookup f13 = some ⟨oc13, od13, .func (PySem.W.fnOf "without_safe" "without_safe" (defArgs s_without_safe) (defBody s_without_safe) (defScope s_without_safe) .none kV13 dc13 pm13 an13 cd13 ct13), sl13⟩)
    (c13 : PySem.W.codeIn K cd13 "without_safe" = true)
    (k13 : PySem.W.keepIn K (.ref f13) = true)
    (a14 : PySem.W.nsIn K mainGlobals "painter_wins" = some (some (.ref f14)))
    (l14 : K.lookup f14 = some ⟨oc14, od14, .func (PySem.W.fnOf "painter_wins" "painter_wins" (defArgs s_painter_wins) (defBody s_painter_wins) (defScope s_painter_wins) .none kV14 dc14 pm14 an14 cd14 ct14), sl14⟩)
    (c14 : PySem.W.codeIn K cd14 "painter_wins" = true)
    (k14 : PySem.W.keepIn K (.ref f14) = true)
    (a15 : PySem.W.nsIn K mainGlobals "best_painting" = some (some (.ref f15)))
    (l15 : K.lookup f15 = some ⟨oc15, od15, .func (PySem.W.fnOf "best_painting" "best_painting" (defArgs s_best_painting) (defBody s_best_painting) (defScope s_best_painting) .none kV15 dc15 pm15 an15 cd15 ct15), sl15⟩)
    (c15 : PySem.W.codeIn K cd15 "best_painting" = true)
    (k15 : PySem.W.keepIn K (.ref f15) = true)
    (a16 : PySem.W.nsIn K mainGlobals "beside_of" = some (some (.ref f16)))
    (l16 : K.lookup f16 = some ⟨oc16, od16, .func (PySem.W.fnOf "beside_of" "beside_of" (defArgs s_beside_of) (defBody s_beside_of) (defScope s_beside_of) .none kV16 dc16 pm16 an16 cd16 ct16), sl16⟩)
    (c16 : PySem.W.codeIn K cd16 "beside_of" = true)
    (k16 : PySem.W.keepIn K (.ref f16) = true)
    (a17 : PySem.W.nsIn K mainGlobals "leader" = some (some (.ref f17)))
    (l17 : K.lookup f17 = some ⟨oc17, od17, .func (PySem.W.fnOf "leader" "leader" (defArgs s_leader) (defBody s_leader) (defScope s_leader) .none kV17 dc17 pm17 an17 cd17 ct17), sl17⟩)
    (c17 : PySem.W.codeIn K cd17 "leader" = true)
    (k17 : PySem.W.keepIn K (.ref f17) = true)
    (a18 : PySem.W.nsIn K mainGlobals "showing" = some (some (.ref f18)))
    (l18 : K.lookup f18 = some ⟨oc18, od18, .func (PySem.W.fnOf "showing" "showing" (defArgs s_showing) (defBody s_showing) (defScope s_showing) .none kV18 dc18 pm18 an18 cd18 ct18), sl18⟩)
    (c18 : PySem.W.codeIn K cd18 "showing" = true)
    (k18 : PySem.W.keepIn K (.ref f18) = true)
    (a19 : PySem.W.nsIn K mainGlobals "are_some_of" = some (some (.ref f19)))
    (l19 : K.lookup f19 = some ⟨oc19, od19, .func (PySem.W.fnOf "are_some_of" "are_some_of" (defArgs s_are_some_of) (defBody s_are_some_of) (defScope s_are_some_of) .none kV19 dc19 pm19 an19 cd19 ct19), sl19⟩)
    (c19 : PySem.W.codeIn K cd19 "are_some_of" = true)
    (k19 : PySem.W.keepIn K (.ref f19) = true)
    (a20 : PySem.W.nsIn K mainGlobals "painting" = some (some (.ref f20)))
    (l20 : K.lookup f20 = some ⟨oc20, od20, .func (PySem.W.fnOf "painting" "painting" (defArgs s_painting) (defBody s_painting) (defScope s_painting) .none kV20 dc20 pm20 an20 cd20 ct20), sl20⟩)
    (c20 : PySem.W.codeIn K cd20 "painting" = true)
    (k20 : PySem.W.keepIn K (.ref f20) = true)
    (a21 : PySem.W.nsIn K mainGlobals "_law_draws" = some (some (.ref f21)))
    (l21 : K.lookup f21 = some ⟨oc21, od21, .func (PySem.W.fnOf "_law_draws" "_law_draws" (defArgs s_l_draws) (defBody s_l_draws) (defScope s_l_draws) .none kV21 dc21 pm21 an21 cd21 ct21), sl21⟩)
    (c21 : PySem.W.codeIn K cd21 "_law_draws" = true)
    (k21 : PySem.W.keepIn K (.ref f21) = true)
    (a22 : PySem.W.nsIn K mainGlobals "_law_ties" = some (some (.ref f22)))
    (l22 : K.lookup f22 = some ⟨oc22, od22, .func (PySem.W.fnOf "_law_ties" "_law_ties" (defArgs s_l_ties) (defBody s_l_ties) (defScope s_l_ties) .none kV22 dc22 pm22 an22 cd22 ct22), sl22⟩)
    (c22 : PySem.W.codeIn K cd22 "_law_ties" = true)
    (k22 : PySem.W.keepIn K (.ref f22) = true)
    (a23 : PySem.W.nsIn K mainGlobals "_law_whole" = some (some (.ref f23)))
    (l23 : K.lookup f23 = some ⟨oc23, od23, .func (PySem.W.fnOf "_law_whole" "_law_whole" (defArgs s_l_whole) (defBody s_l_whole) (defScope s_l_whole) .none kV23 dc23 pm23 an23 cd23 ct23), sl23⟩)
    (c23 : PySem.W.codeIn K cd23 "_law_whole" = true)
    (k23 : PySem.W.keepIn K (.ref f23) = true)
    (a24 : PySem.W.nsIn K mainGlobals "_law_wholes" = some (some (.ref f24)))
    (l24 : K.lookup f24 = some ⟨oc24, od24, .func (PySem.W.fnOf "_law_wholes" "_law_wholes" (defArgs s_l_wholes) (defBody s_l_wholes) (defScope s_l_wholes) .none kV24 dc24 pm24 an24 cd24 ct24), sl24⟩)
    (c24 : PySem.W.codeIn K cd24 "_law_wholes" = true)
    (k24 : PySem.W.keepIn K (.ref f24) = true)
    (a25 : PySem.W.nsIn K mainGlobals "_law_apart" = some (some (.ref f25)))
    (l25 : K.lookup f25 = some ⟨oc25, od25, .func (PySem.W.fnOf "_law_apart" "_law_apart" (defArgs s_l_apart) (defBody s_l_apart) (defScope s_l_apart) .none kV25 dc25 pm25 an25 cd25 ct25), sl25⟩)
    (c25 : PySem.W.codeIn K cd25 "_law_apart" = true)
    (k25 : PySem.W.keepIn K (.ref f25) = true)
    (a26 : PySem.W.nsIn K mainGlobals "_law_subsets" = some (some (.ref f26)))
    (l26 : K.lookup f26 = some ⟨oc26, od26, .func (PySem.W.fnOf "_law_subsets" "_law_subsets" (defArgs s_l_subsets) (defBody s_l_subsets) (defScope s_l_subsets) .none kV26 dc26 pm26 an26 cd26 ct26), sl26⟩)
    (c26 : PySem.W.codeIn K cd26 "_law_subsets" = true)
    (k26 : PySem.W.keepIn K (.ref f26) = true)
    (a27 : PySem.W.nsIn K mainGlobals "_law_after" = some (some (.ref f27)))
    (l27 : K.lookup f27 = some ⟨oc27, od27, .func (PySem.W.fnOf "_law_after" "_law_after" (defArgs s_l_after) (defBody s_l_after) (defScope s_l_after) .none kV27 dc27 pm27 an27 cd27 ct27), sl27⟩)
    (c27 : PySem.W.codeIn K cd27 "_law_after" = true)
    (k27 : PySem.W.keepIn K (.ref f27) = true)
    (a28 : PySem.W.nsIn K mainGlobals "_law_best" = some (some (.ref f28)))
    (l28 : K.lookup f28 = some ⟨oc28, od28, .func (PySem.W.fnOf "_law_best" "_law_best" (defArgs s_l_best) (defBody s_l_best) (defScope s_l_best) .none kV28 dc28 pm28 an28 cd28 ct28), sl28⟩)
    (c28 : PySem.W.codeIn K cd28 "_law_best" = true)
    (k28 : PySem.W.keepIn K (.ref f28) = true)
    (a29 : PySem.W.nsIn K mainGlobals "_law_led" = some (some (.ref f29)))
    (l29 : K.lookup f29 = some ⟨oc29, od29, .func (PySem.W.fnOf "_law_led" "_law_led" (defArgs s_l_led) (defBody s_l_led) (defScope s_l_led) .none kV29 dc29 pm29 an29 cd29 ct29), sl29⟩)
    (c29 : PySem.W.codeIn K cd29 "_law_led" = true)
    (k29 : PySem.W.keepIn K (.ref f29) = true)
    (a30 : PySem.W.nsIn K mainGlobals "_law_first" = some (some (.ref f30)))
    (l30 : K.lookup f30 = some ⟨oc30, od30, .func (PySem.W.fnOf "_law_first" "_law_first" (defArgs s_l_first) (defBody s_l_first) (defScope s_l_first) .none kV30 dc30 pm30 an30 cd30 ct30), sl30⟩)
    (c30 : PySem.W.codeIn K cd30 "_law_first" = true)
    (k30 : PySem.W.keepIn K (.ref f30) = true)
    (a31 : PySem.W.nsIn K mainGlobals "law" = some (some (.ref f31)))
    (l31 : K.lookup f31 = some ⟨oc31, od31, .func (PySem.W.fnOf "law" "law" (defArgs s_law) (defBody s_law) (defScope s_law) .none kV31 dc31 pm31 an31 cd31 ct31), sl31⟩)
    (c31 : PySem.W.codeIn K cd31 "law" = true)
    (k31 : PySem.W.keepIn K (.ref f31) = true)
    (pn9_10 : pp9 ≠ pp10) :
    LamX.LawAtS l w K L2.CX0 43 63 "script" mg fa h := by
  have e := hfa.symm.trans (PySem.W.mg_of X G a31)
  cases e
  have O_Web : Own K mg "Web" C_Web := own_mk X G aC_Web pg_Web hd_Web po_Web sa_Web mk_Web kc_Web
  have n_Web_beside : NoAttr K C_Web "beside" := n_Web_beside
  have T : Tx mg := ⟨PySem.W.mg_none_of X G z_abs, PySem.W.mg_none_of X G z_all, PySem.W.mg_none_of X G z_any, PySem.W.mg_none_of X G z_bool, PySem.W.mg_none_of X G z_enumerate, PySem.W.mg_none_of X G z_int, PySem.W.mg_none_of X G z_isinstance, PySem.W.mg_none_of X G z_len, PySem.W.mg_none_of X G z_list, PySem.W.mg_none_of X G z_property, PySem.W.mg_none_of X G z_range, PySem.W.mg_none_of X G z_sorted, PySem.W.mg_none_of X G z_tuple⟩
  have D_is_integer : DefAt K mg "is_integer" s_is_integer ["value"] := defAt_mk X G a0 l0 c0 k0 (fun _ _ _ _ _ _ us hl => match us, hl with | [_], _ => rfl)
  have D_is_tie : DefAt K mg "is_tie" s_is_tie ["places", "value"] := defAt_mk X G a1 l1 c1 k1 (fun _ _ _ _ _ _ us hl => match us, hl with | [_, _], _ => rfl)
  have D_WebD_initD : MetAt K C_Web "__init__" "Web.__init__" s_WebD_initD ["self", "places", "ties"] := metAt_mk a2 i2 l2 c2 k2 (fun _ _ _ _ _ _ us hl => match us, hl with | [_, _, _], _ => rfl)
  have D_WebD_lenD : MetAt K C_Web "__len__" "Web.__len__" s_WebD_lenD ["self"] := metAt_mk a3 i3 l3 c3 k3 (fun _ _ _ _ _ _ us hl => match us, hl with | [_], _ => rfl)
  have D_Web_is_place : MetAt K C_Web "is_place" "Web.is_place" s_Web_is_place ["self", "value"] := metAt_mk a4 i4 l4 c4 k4 (fun _ _ _ _ _ _ us hl => match us, hl with | [_, _], _ => rfl)
  have D_Web_neighbours : MetAt K C_Web "neighbours" "Web.neighbours" s_Web_neighbours ["self", "place"] := metAt_mk a5 i5 l5 c5 k5 (fun _ _ _ _ _ _ us hl => match us, hl with | [_, _], _ => rfl)
  have D_is_length : DefAt K mg "is_length" s_is_length ["value"] := defAt_mk X G a6 l6 c6 k6 (fun _ _ _ _ _ _ us hl => match us, hl with | [_], _ => rfl)
  have D_check_lengths : DefAt K mg "check_lengths" s_check_lengths ["web", "lengths"] := defAt_mk X G a7 l7 c7 k7 (fun _ _ _ _ _ _ us hl => match us, hl with | [_, _], _ => rfl)
  have D_subsets : DefAt K mg "subsets" s_subsets ["places"] := defAt_mk X G a8 l8 c8 k8 (fun _ _ _ _ _ _ us hl => match us, hl with | [_], _ => rfl)
  have D_shortest_first : DefAtC K mg "shortest_first" s_shortest_first ["rows"] cc9 := ⟨f9, _, _, _, _, _, _, _, _, l9, c9, k9, PySem.W.mg_of X G a9, (fun_mk l9 c9 k9).binds (fun _ _ _ _ _ _ us hl => match us, hl with | [_], _ => rfl)⟩
  have D_longest_first : DefAtC K mg "longest_first" s_longest_first ["rows"] cc10 := ⟨f10, _, _, _, _, _, _, _, _, l10, c10, k10, PySem.W.mg_of X G a10, (fun_mk l10 c10 k10).binds (fun _ _ _ _ _ _ us hl => match us, hl with | [_], _ => rfl)⟩
  have D_are_apart : DefAt K mg "are_apart" s_are_apart ["beside", "places"] := defAt_mk X G a11 l11 c11 k11 (fun _ _ _ _ _ _ us hl => match us, hl with | [_, _], _ => rfl)
  have D_after_round : DefAt K mg "after_round" s_after_round ["state", "shown", "painted"] := defAt_mk X G a12 l12 c12 k12 (fun _ _ _ _ _ _ us hl => match us, hl with | [_, _, _], _ => rfl)
  have D_without_safe : DefAt K mg "without_safe" s_without_safe ["beside", "state"] := defAt_mk X G a13 l13 c13 k13 (fun _ _ _ _ _ _ us hl => match us, hl with | [_, _], _ => rfl)
  have D_painter_wins : DefAt K mg "painter_wins" s_painter_wins ["beside", "tokens", "known"] := defAt_mk X G a14 l14 c14 k14 (fun _ _ _ _ _ _ us hl => match us, hl with | [_, _, _], _ => rfl)
  have D_best_painting : DefAt K mg "best_painting" s_best_painting ["beside", "state", "shown", "known"] := defAt_mk X G a15 l15 c15 k15 (fun _ _ _ _ _ _ us hl => match us, hl with | [_, _, _, _], _ => rfl)
  have D_beside_of : DefAt K mg "beside_of" s_beside_of ["web"] := defAt_mk X G a16 l16 c16 k16 (fun _ _ _ _ _ _ us hl => match us, hl with | [_], _ => rfl)
  have D_leader : DefAt K mg "leader" s_leader ["web", "tokens"] := defAt_mk X G a17 l17 c17 k17 (fun _ _ _ _ _ _ us hl => match us, hl with | [_, _], _ => rfl)
  have D_showing : DefAt K mg "showing" s_showing ["web", "tokens"] := defAt_mk X G a18 l18 c18 k18 (fun _ _ _ _ _ _ us hl => match us, hl with | [_, _], _ => rfl)
  have D_are_some_of : DefAt K mg "are_some_of" s_are_some_of ["places", "value"] := defAt_mk X G a19 l19 c19 k19 (fun _ _ _ _ _ _ us hl => match us, hl with | [_, _], _ => rfl)
  have D_painting : DefAt K mg "painting" s_painting ["web", "tokens", "shown"] := defAt_mk X G a20 l20 c20 k20 (fun _ _ _ _ _ _ us hl => match us, hl with | [_, _, _], _ => rfl)
  have D_l_draws : DefAt K mg "_law_draws" s_l_draws ["script", "k", "sizes"] := defAt_mk X G a21 l21 c21 k21 (fun _ _ _ _ _ _ us hl => match us, hl with | [_, _, _], _ => rfl)
  have D_l_ties : DefAt K mg "_law_ties" s_l_ties ["many", "kind", "marks"] := defAt_mk X G a22 l22 c22 k22 (fun _ _ _ _ _ _ us hl => match us, hl with | [_, _, _], _ => rfl)
  have D_l_whole : DefAt K mg "_law_whole" s_l_whole ["found"] := defAt_mk X G a23 l23 c23 k23 (fun _ _ _ _ _ _ us hl => match us, hl with | [_], _ => rfl)
  have D_l_wholes : DefAt K mg "_law_wholes" s_l_wholes ["found"] := defAt_mk X G a24 l24 c24 k24 (fun _ _ _ _ _ _ us hl => match us, hl with | [_], _ => rfl)
  have D_l_apart : DefAt K mg "_law_apart" s_l_apart ["ties", "places"] := defAt_mk X G a25 l25 c25 k25 (fun _ _ _ _ _ _ us hl => match us, hl with | [_, _], _ => rfl)
  have D_l_subsets : DefAt K mg "_law_subsets" s_l_subsets ["places"] := defAt_mk X G a26 l26 c26 k26 (fun _ _ _ _ _ _ us hl => match us, hl with | [_], _ => rfl)
  have D_l_after : DefAt K mg "_law_after" s_l_after ["tokens", "shown", "painted"] := defAt_mk X G a27 l27 c27 k27 (fun _ _ _ _ _ _ us hl => match us, hl with | [_, _, _], _ => rfl)
  have D_l_best : DefAt K mg "_law_best" s_l_best ["ties", "tokens", "shown", "known"] := defAt_mk X G a28 l28 c28 k28 (fun _ _ _ _ _ _ us hl => match us, hl with | [_, _, _, _], _ => rfl)
  have D_l_led : DefAt K mg "_law_led" s_l_led ["ties", "tokens", "known"] := defAt_mk X G a29 l29 c29 k29 (fun _ _ _ _ _ _ us hl => match us, hl with | [_, _, _], _ => rfl)
  have D_l_first : DefAt K mg "_law_first" s_l_first ["ties", "tokens", "known"] := defAt_mk X G a30 l30 c30 k30 (fun _ _ _ _ _ _ us hl => match us, hl with | [_, _, _], _ => rfl)
  refine ⟨PySem.W.fnOf "law" "law" (defArgs s_law) (defBody s_law) (defScope s_law) .none kV31 dc31 pm31 an31 cd31 ct31, [(cc9, pp9), (cc10, pp10)], (q_law [(pp9, ("shortest_first.<locals>.<lambda>" : Str)), (pp10, ("longest_first.<locals>.<lambda>" : Str))] K), (List.forall_mem_cons.mpr ⟨te9, (List.forall_mem_cons.mpr ⟨te10, (fun _ h => nomatch h)⟩)⟩), (List.forall_mem_cons.mpr ⟨to9, (List.forall_mem_cons.mpr ⟨to10, (fun _ h => nomatch h)⟩)⟩), (List.forall_mem_cons.mpr ⟨(PySem.W.codeHd_of_K X th9), (List.forall_mem_cons.mpr ⟨(PySem.W.codeHd_of_K X th10), (fun _ h => nomatch h)⟩)⟩), fun s v => .of_eq rfl, fun H a ns hl hb ht hs => ?_, fun base KB GB TB => ?_⟩
  · exact law_tab (tabs_of_empty (List.forall_mem_cons.mpr ⟨(ht (cc9, pp9) (by simp)), (List.forall_mem_cons.mpr ⟨(ht (cc10, pp10) (by simp)), (fun _ h => nomatch h)⟩)⟩)) hs
  have TB_shortest_first : TabB base mg cc9 pp9 := TB (cc9, pp9) (by simp)
  have LM_shortest_first : (pp9, ("shortest_first.<locals>.<lambda>" : Str)) ∈ ([(pp9, ("shortest_first.<locals>.<lambda>" : Str)), (pp10, ("longest_first.<locals>.<lambda>" : Str))] : List (Addr × Str)) := by simp
  have LU_shortest_first : ∀ p ∈ ([(pp9, ("shortest_first.<locals>.<lambda>" : Str)), (pp10, ("longest_first.<locals>.<lambda>" : Str))] : List (Addr × Str)), p.1 = pp9 → p.2 = ("shortest_first.<locals>.<lambda>" : Str) := (List.forall_mem_cons.mpr ⟨(fun _ => rfl), (List.forall_mem_cons.mpr ⟨(fun z => absurd z (fun z => pn9_10 z.symm)), (fun _ h => nomatch h)⟩)⟩)
  have TB_longest_first : TabB base mg cc10 pp10 := TB (cc10, pp10) (by simp)
  have LM_longest_first : (pp10, ("longest_first.<locals>.<lambda>" : Str)) ∈ ([(pp9, ("shortest_first.<locals>.<lambda>" : Str)), (pp10, ("longest_first.<locals>.<lambda>" : Str))] : List (Addr × Str)) := by simp
  have LU_longest_first : ∀ p ∈ ([(pp9, ("shortest_first.<locals>.<lambda>" : Str)), (pp10, ("longest_first.<locals>.<lambda>" : Str))] : List (Addr × Str)), p.1 = pp10 → p.2 = ("longest_first.<locals>.<lambda>" : Str) := (List.forall_mem_cons.mpr ⟨(fun z => absurd z pn9_10), (List.forall_mem_cons.mpr ⟨(fun _ => rfl), (fun _ h => nomatch h)⟩)⟩)
  have h_is_integer := c_is_integer (base := base) (P := l.prog) (w := w) (K := K) T D_is_integer
  have h_is_tie := c_is_tie (base := base) (P := l.prog) (w := w) (K := K) T D_is_tie h_is_integer
  have h_l_whole := c_l_whole (base := base) (P := l.prog) (w := w) (K := K) T D_l_whole
  have h_WebD_initD := m_Web_init (base := base) (P := l.prog) (w := w) T O_Web n_Web_beside D_WebD_initD h_is_integer h_is_tie
  have h_l_draws := t_l_draws (base := base) (P := l.prog) (w := w) (TL := [(pp9, ("shortest_first.<locals>.<lambda>" : Str)), (pp10, ("longest_first.<locals>.<lambda>" : Str))]) T D_l_draws
  have h_l_ties := t_l_ties (base := base) (P := l.prog) (w := w) (TL := [(pp9, ("shortest_first.<locals>.<lambda>" : Str)), (pp10, ("longest_first.<locals>.<lambda>" : Str))]) T D_l_ties
  have h_WebD_lenD := t_WebD_lenD (base := base) (P := l.prog) (w := w) (TL := [(pp9, ("shortest_first.<locals>.<lambda>" : Str)), (pp10, ("longest_first.<locals>.<lambda>" : Str))]) T O_Web n_Web_beside D_WebD_lenD
  have h_is_length := t_is_length (base := base) (P := l.prog) (w := w) (TL := [(pp9, ("shortest_first.<locals>.<lambda>" : Str)), (pp10, ("longest_first.<locals>.<lambda>" : Str))]) T D_is_length h_is_integer
  have h_check_lengths := t_check_lengths (base := base) (P := l.prog) (w := w) (TL := [(pp9, ("shortest_first.<locals>.<lambda>" : Str)), (pp10, ("longest_first.<locals>.<lambda>" : Str))]) T O_Web D_check_lengths h_WebD_lenD h_is_length
  have h_Web_is_place := t_Web_is_place (base := base) (P := l.prog) (w := w) (TL := [(pp9, ("shortest_first.<locals>.<lambda>" : Str)), (pp10, ("longest_first.<locals>.<lambda>" : Str))]) T O_Web n_Web_beside D_Web_is_place h_is_integer
  have h_Web_neighbours := t_Web_neighbours (base := base) (P := l.prog) (w := w) (TL := [(pp9, ("shortest_first.<locals>.<lambda>" : Str)), (pp10, ("longest_first.<locals>.<lambda>" : Str))]) T O_Web n_Web_beside D_Web_neighbours h_Web_is_place
  have h_beside_of := t_beside_of (base := base) (P := l.prog) (w := w) (TL := [(pp9, ("shortest_first.<locals>.<lambda>" : Str)), (pp10, ("longest_first.<locals>.<lambda>" : Str))]) T O_Web D_beside_of h_WebD_lenD h_Web_neighbours
  have h_without_safe := t_without_safe (base := base) (P := l.prog) (w := w) (TL := [(pp9, ("shortest_first.<locals>.<lambda>" : Str)), (pp10, ("longest_first.<locals>.<lambda>" : Str))]) T D_without_safe
  have h_subsets := t_subsets (base := base) (P := l.prog) (w := w) (TL := [(pp9, ("shortest_first.<locals>.<lambda>" : Str)), (pp10, ("longest_first.<locals>.<lambda>" : Str))]) T D_subsets
  have h_shortest_first := t_shortest_first (base := base) (P := l.prog) (w := w) (TL := [(pp9, ("shortest_first.<locals>.<lambda>" : Str)), (pp10, ("longest_first.<locals>.<lambda>" : Str))]) T D_shortest_first TB_shortest_first LM_shortest_first LU_shortest_first
  have h_longest_first := t_longest_first (base := base) (P := l.prog) (w := w) (TL := [(pp9, ("shortest_first.<locals>.<lambda>" : Str)), (pp10, ("longest_first.<locals>.<lambda>" : Str))]) T D_longest_first TB_longest_first LM_longest_first LU_longest_first
  have h_are_apart := t_are_apart (base := base) (P := l.prog) (w := w) (TL := [(pp9, ("shortest_first.<locals>.<lambda>" : Str)), (pp10, ("longest_first.<locals>.<lambda>" : Str))]) T D_are_apart
  have h_after_round := t_after_round (base := base) (P := l.prog) (w := w) (TL := [(pp9, ("shortest_first.<locals>.<lambda>" : Str)), (pp10, ("longest_first.<locals>.<lambda>" : Str))]) T D_after_round
  have h_painter_wins := t_painter_wins (base := base) (P := l.prog) (w := w) (TL := [(pp9, ("shortest_first.<locals>.<lambda>" : Str)), (pp10, ("longest_first.<locals>.<lambda>" : Str))]) T D_painter_wins h_without_safe h_subsets h_shortest_first D_best_painting h_longest_first h_are_apart h_after_round 17
  have h_best_painting := t_best_painting (base := base) (P := l.prog) (w := w) (TL := [(pp9, ("shortest_first.<locals>.<lambda>" : Str)), (pp10, ("longest_first.<locals>.<lambda>" : Str))]) T D_best_painting h_subsets h_longest_first h_are_apart h_after_round (by decide) h_painter_wins
  have h_leader := t_leader (base := base) (P := l.prog) (w := w) (TL := [(pp9, ("shortest_first.<locals>.<lambda>" : Str)), (pp10, ("longest_first.<locals>.<lambda>" : Str))]) T O_Web D_leader h_check_lengths h_beside_of h_painter_wins
  have h_l_subsets := t_l_subsets (base := base) (P := l.prog) (w := w) (TL := [(pp9, ("shortest_first.<locals>.<lambda>" : Str)), (pp10, ("longest_first.<locals>.<lambda>" : Str))]) T D_l_subsets
  have h_l_after := t_l_after (base := base) (P := l.prog) (w := w) (TL := [(pp9, ("shortest_first.<locals>.<lambda>" : Str)), (pp10, ("longest_first.<locals>.<lambda>" : Str))]) T D_l_after
  have h_l_apart := t_l_apart (base := base) (P := l.prog) (w := w) (TL := [(pp9, ("shortest_first.<locals>.<lambda>" : Str)), (pp10, ("longest_first.<locals>.<lambda>" : Str))]) T D_l_apart
  have h_l_led := t_l_led (base := base) (P := l.prog) (w := w) (TL := [(pp9, ("shortest_first.<locals>.<lambda>" : Str)), (pp10, ("longest_first.<locals>.<lambda>" : Str))]) T D_l_led h_l_subsets D_l_best h_l_after h_l_apart 17
  have h_l_best := t_l_best (base := base) (P := l.prog) (w := w) (TL := [(pp9, ("shortest_first.<locals>.<lambda>" : Str)), (pp10, ("longest_first.<locals>.<lambda>" : Str))]) T D_l_best h_l_subsets h_l_after h_l_apart (by decide) h_l_led
  have h_l_first := t_l_first (base := base) (P := l.prog) (w := w) (TL := [(pp9, ("shortest_first.<locals>.<lambda>" : Str)), (pp10, ("longest_first.<locals>.<lambda>" : Str))]) T D_l_first h_l_subsets h_l_best
  have h_showing := t_showing (base := base) (P := l.prog) (w := w) (TL := [(pp9, ("shortest_first.<locals>.<lambda>" : Str)), (pp10, ("longest_first.<locals>.<lambda>" : Str))]) T O_Web D_showing h_check_lengths h_beside_of h_WebD_lenD h_subsets h_shortest_first h_best_painting
  have h_l_wholes := t_l_wholes (base := base) (P := l.prog) (w := w) (TL := [(pp9, ("shortest_first.<locals>.<lambda>" : Str)), (pp10, ("longest_first.<locals>.<lambda>" : Str))]) T D_l_wholes h_l_whole
  have h_are_some_of := t_are_some_of (base := base) (P := l.prog) (w := w) (TL := [(pp9, ("shortest_first.<locals>.<lambda>" : Str)), (pp10, ("longest_first.<locals>.<lambda>" : Str))]) T D_are_some_of h_is_integer
  have h_painting := t_painting (base := base) (P := l.prog) (w := w) (TL := [(pp9, ("shortest_first.<locals>.<lambda>" : Str)), (pp10, ("longest_first.<locals>.<lambda>" : Str))]) T O_Web D_painting h_check_lengths h_WebD_lenD h_are_some_of h_beside_of h_best_painting
  exact t_law T O_Web (fun_mk l31 c31 k31) h_l_draws h_l_ties h_WebD_initD h_leader h_l_led h_l_first h_l_subsets h_showing h_l_wholes h_painting h_l_best
end OC
open PySem PySem.W PyProof.Rows
set_option maxRecDepth 100000 in
set_option maxHeartbeats 0 in
theorem PySem.Challenge.cw_ownhues_k64_first_winning_turns_holds : PySem.Challenge.rw_ownhues_k64_first_winning_turns.Holds := by
  w_on; o_law; k_head; (case hw => w_witness2)
  k_fill
  refine LamX.walk_ofTs (l := PySem.Challenge.rw_ownhues_k64_first_winning_turns) (n := 63) (k := 43) (x := "script") (CX := fun _ => L2.CX0) rfl (by decide) rfl ⟨rfl, by decide, by decide⟩ (fun w h Y => PySem.W.km_in_of Y) ?F (fun _ _ _ _ _ h => h)
  case F =>
    intro w mg fa h Y KX G hmg
    refine' OC.all_mk KX G hmg ?aC_Web ?pg_Web ?hd_Web ?po_Web ?sa_Web ?mk_Web ?kc_Web ?n_Web_beside ?z_abs ?z_all ?z_any ?z_bool ?z_enumerate ?z_int ?z_isinstance ?z_len ?z_list ?z_property ?z_range ?z_sorted ?z_tuple ?a0 ?l0 ?c0 ?k0 ?a1 ?l1 ?c1 ?k1 ?a2 ?i2 ?l2 ?c2 ?k2 ?a3 ?i3 ?l3 ?c3 ?k3 ?a4 ?i4 ?l4 ?c4 ?k4 ?a5 ?i5 ?l5 ?c5 ?k5 ?a6 ?l6 ?c6 ?k6 ?a7 ?l7 ?c7 ?k7 ?a8 ?l8 ?c8 ?k8 ?a9 ?l9 ?c9 ?k9 ?tn9 ?tp9 ?th9 ?to9 ?te9 ?a10 ?l10 ?c10 ?k10 ?tn10 ?tp10 ?th10 ?to10 ?te10 ?a11 ?l11 ?c11 ?k11 ?a12 ?l12 ?c12 ?k12 ?a13 ?l13 ?c13 ?k13 ?a14 ?l14 ?c14 ?k14 ?a15 ?l15 ?c15 ?k15 ?a16 ?l16 ?c16 ?k16 ?a17 ?l17 ?c17 ?k17 ?a18 ?l18 ?c18 ?k18 ?a19 ?l19 ?c19 ?k19 ?a20 ?l20 ?c20 ?k20 ?a21 ?l21 ?c21 ?k21 ?a22 ?l22 ?c22 ?k22 ?a23 ?l23 ?c23 ?k23 ?a24 ?l24 ?c24 ?k24 ?a25 ?l25 ?c25 ?k25 ?a26 ?l26 ?c26 ?k26 ?a27 ?l27 ?c27 ?k27 ?a28 ?l28 ?c28 ?k28 ?a29 ?l29 ?c29 ?k29 ?a30 ?l30 ?c30 ?k30 ?a31 ?l31 ?c31 ?k31 ?pn9_10
    (case aC_Web => k_is)
    (case pg_Web => k_is)
    (case hd_Web => k_is)
    (case po_Web => k_is)
    (case sa_Web => k_is)
    (case mk_Web => k_is)
    (case kc_Web => k_is)
    (case n_Web_beside => k_is)
    (case z_abs => k_is)
    (case z_all => k_is)
    (case z_any => k_is)
    (case z_bool => k_is)
    (case z_enumerate => k_is)
    (case z_int => k_is)
    (case z_isinstance => k_is)
    (case z_len => k_is)
    (case z_list => k_is)
    (case z_property => k_is)
    (case z_range => k_is)
    (case z_sorted => k_is)
    (case z_tuple => k_is)
    (case a0 => k_is)
    (case l0 => k_is)
    (case c0 => k_is)
    (case k0 => k_is)
    (case a1 => k_is)
    (case l1 => k_is)
    (case c1 => k_is)
    (case k1 => k_is)
    (case a2 => k_is)
    (case i2 => k_is)
    (case l2 => k_is)
    (case c2 => k_is)
    (case k2 => k_is)
    (case a3 => k_is)
    (case i3 => k_is)
    (case l3 => k_is)
    (case c3 => k_is)
    (case k3 => k_is)
    (case a4 => k_is)
    (case i4 => k_is)
    (case l4 => k_is)
    (case c4 => k_is)
    (case k4 => k_is)
    (case a5 => k_is)
    (case i5 => k_is)
    (case l5 => k_is)
    (case c5 => k_is)
    (case k5 => k_is)
    (case a6 => k_is)
    (case l6 => k_is)
    (case c6 => k_is)
    (case k6 => k_is)
    (case a7 => k_is)
    (case l7 => k_is)
    (case c7 => k_is)
    (case k7 => k_is)
    (case a8 => k_is)
    (case l8 => k_is)
    (case c8 => k_is)
    (case k8 => k_is)
    (case a9 => k_is)
    (case l9 => k_is)
    (case c9 => k_is)
    (case k9 => k_is)
    (case tn9 => k_is)
    (case tp9 => rfl)
    (case th9 => kernel_rfl)
    (case to9 => kernel_rfl)
    (case te9 => exact PySem.W.km_tabs_of Y _ (by simp))
    (case a10 => k_is)
    (case l10 => k_is)
    (case c10 => k_is)
    (case k10 => k_is)
    (case tn10 => k_is)
    (case tp10 => rfl)
    (case th10 => kernel_rfl)
    (case to10 => kernel_rfl)
    (case te10 => exact PySem.W.km_tabs_of Y _ (by simp))
    (case a11 => k_is)
    (case l11 => k_is)
    (case c11 => k_is)
    (case k11 => k_is)
    (case a12 => k_is)
    (case l12 => k_is)
    (case c12 => k_is)
    (case k12 => k_is)
    (case a13 => k_is)
    (case l13 => k_is)
    (case c13 => k_is)
    (case k13 => k_is)
    (case a14 => k_is)
    (case l14 => k_is)
    (case c14 => k_is)
    (case k14 => k_is)
    (case a15 => k_is)
    (case l15 => k_is)
    (case c15 => k_is)
    (case k15 => k_is)
    (case a16 => k_is)
    (case l16 => k_is)
    (case c16 => k_is)
    (case k16 => k_is)
    (case a17 => k_is)
    (case l17 => k_is)
    (case c17 => k_is)
    (case k17 => k_is)
    (case a18 => k_is)
    (case l18 => k_is)
    (case c18 => k_is)
    (case k18 => k_is)
    (case a19 => k_is)
    (case l19 => k_is)
    (case c19 => k_is)
    (case k19 => k_is)
    (case a20 => k_is)
    (case l20 => k_is)
    (case c20 => k_is)
    (case k20 => k_is)
    (case a21 => k_is)
    (case l21 => k_is)
    (case c21 => k_is)
    (case k21 => k_is)
    (case a22 => k_is)
    (case l22 => k_is)
    (case c22 => k_is)
    (case k22 => k_is)
    (case a23 => k_is)
    (case l23 => k_is)
    (case c23 => k_is)
    (case k23 => k_is)
    (case a24 => k_is)
    (case l24 => k_is)
    (case c24 => k_is)
    (case k24 => k_is)
    (case a25 => k_is)
    (case l25 => k_is)
    (case c25 => k_is)
    (case k25 => k_is)
    (case a26 => k_is)
    (case l26 => k_is)
    (case c26 => k_is)
    (case k26 => k_is)
    (case a27 => k_is)
    (case l27 => k_is)
    (case c27 => k_is)
    (case k27 => k_is)
    (case a28 => k_is)
    (case l28 => k_is)
    (case c28 => k_is)
    (case k28 => k_is)
    (case a29 => k_is)
    (case l29 => k_is)
    (case c29 => k_is)
    (case k29 => k_is)
    (case a30 => k_is)
    (case l30 => k_is)
    (case c30 => k_is)
    (case k30 => k_is)
    (case a31 => k_is)
    (case l31 => k_is)
    (case c31 => k_is)
    (case k31 => k_is)
    (case pn9_10 => decide)
